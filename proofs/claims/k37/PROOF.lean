import PyProof.Rows.All
import Wide.All
import OpenK.AllK
import Wide.FinOn
import HandS.Wide
import HandS.Walk
import HandS.Zip
import KE.GoesMore
import HandS.Style
import HandS.TupMul
import HandS.TupAny
import HandS.SetFor
import HandS.ForMost
import HandS.WideBits
import HandS.Deep
import HandS.Conv
import KE.SortData
import KE.DataMinMax
import HandS.SortInts
import HandS.WideMore
import PySem.Challenge.RW_numberguild_k37_sums_over_divisors
set_option Elab.async false
set_option linter.all false
set_option maxRecDepth 1000000
/-! ## EvE -/
/-! enumerate of a tuple: the machine's part -/
namespace PySem
open Sem (wp)
set_option maxHeartbeats 1000000 in
theorem meets_enumerate_of {v : Value} {o : Obj} {Hv : Heap → Prop} (B : Begins v o Hv) :
    Meets (Builtin.«enumerate.__new__» ⟨[.type "enumerate", v], []⟩) (fun _ R s => Hv s.heap ∧
      R (.ok (.ret (.ref (s.heap.push o).objs.size))) { s with heap := (s.heap.push o).push { cls := .type "enumerate", data := .fields #[.none, .bool false, .ref s.heap.objs.size, rawInt 0, .none, .none] } }) :=
  .of_wp fun prog w A R s h => by
    obtain ⟨hp, g, d, tk, os⟩ := s
    obtain ⟨h1, h⟩ := h
    have hsub := sub_enumerate
    have q1 : ∀ {A' : Around} {E : Value → Shared → Prop} {Q : Value → Shared → Prop}, Q (.ref hp.objs.size) ⟨hp.push o, g, d, tk, os⟩ → wpAny (model prog w) A' (pyIter v) Q E ⟨hp, g, d, tk, os⟩ :=
      fun q => B.iter prog w _ _ ⟨hp, g, d, tk, os⟩ _ h1 q
    wp_walk
    refine wpAny_stack_any fun st => wpAny_pure ?_
    split
    · rename_i c _ _ _ _ _
      cases (c == Value.type "enumerate")
      · wp_walk using q1
        exact ⟨_, rfl, h⟩
      · wp_walk using q1
        exact ⟨_, rfl, h⟩
    · wp_walk using q1
      exact ⟨_, rfl, h⟩
theorem call_enumerate_of {prog : Program} {w : World} {A : Around} {E : Value → Shared → Prop} {s : Shared} {v : Value} {o : Obj} {Hv : Heap → Prop} (B : Begins v o Hv) {Q : Value → Shared → Prop} (hv : Hv s.heap)
    (h : ∀ h', IsEnum h' (s.heap.objs.size + 1) s.heap.objs.size 0 .none → h'.get? s.heap.objs.size = some o → h'.objs.size = s.heap.objs.size + 2 →
      (∀ b o, s.heap.get? b = some o → h'.get? b = some o) → Q (.ref (s.heap.objs.size + 1)) { s with heap := h' }) :
    wpAny (model prog w) A (call (.type "enumerate") [v]) Q E s := by
  refine callType_new F.called_enumerate (by decide) (F.typeCall_enumerate_1 _) (F.newCall_enumerate_1 _) (fun obj => F.args_object_init_2 obj _) F.entry_enumerate_new
    (meets_enumerate_of B) ⟨hv, ?_⟩
  have hz : (s.heap.push o).objs.size = s.heap.objs.size + 1 := Heap.size_push ..
  show _ ∧ _
  rw [hz]
  have he : IsEnum ((s.heap.push o).push { cls := .type "enumerate", data := .fields #[.none, .bool false, .ref s.heap.objs.size, rawInt 0, .none, .none] }) (s.heap.objs.size + 1) s.heap.objs.size 0 .none := by
    have := Heap.get?_push_size (s.heap.push o) (o := { cls := .type "enumerate", data := .fields #[.none, .bool false, .ref s.heap.objs.size, rawInt 0, .none, .none] }) rfl
    rw [hz] at this; exact this
  exact ⟨⟨_, he, rfl⟩, h _ he (Heap.get?_push_of_some _ (Heap.get?_push_size _ B.free)) (by rw [Heap.size_push, hz]) fun b o x => Heap.get?_push_of_some _ (Heap.get?_push_of_some _ x)⟩
/-- the end of an enumerate of a tuple, wherever its iterator stands behind the last item -/
theorem wpAny_pyNext_enum_endT {prog : Program} {w : World} {A : Around} {E : Value → Shared → Prop} {s : Shared} {e it l : Addr} {i : Nat} {items : Array Value} {old : Value} {Q : Option Value → Shared → Prop} (hh : A.handled = none)
    (he : IsEnum s.heap e it i old) (hit : s.heap.IsTupleIter it l i) (hl : s.heap.IsTuple l items) (hx : items[i]? = none)
    (hQ : ∀ h', Heap.ExtBut it s.heap h' → Q none { s with heap := h' }) : wpAny (model prog w) A (pyNext (.ref e)) Q E s := by
  have hT : s.TypeIs (.ref e) "enumerate" := ⟨_, he, rfl⟩
  unfold pyNext
  refine wpAny_bind (wpAny_attempt (wpAny_callSpecial?_slot (name := Str.ofString "__next__") hT F.slot_enumerate_next
    (wpAny_call_entry F.slot_enumerate_next hT F.entry_enumerate_next ?_ (F.args_enumerate_next_1 _))))
  show wpAny _ _ (field (.ref e) 2 >>= _) _ _ _
  refine wpAny_bind (wpAny_field he rfl (x := .ref it) rfl ?_)
  refine wpAny_bind (wpAny_nextOf_tuple_end hh hit hl hx fun h' x he' hx' => ?_)
  obtain ⟨o, ho, hc⟩ := hx'
  refine wpAny_bind (wpAny_isInstance (T := "StopIteration") (b := true) ⟨o, ho, hc⟩ isSubtype_stop ?_)
  exact wpAny_pure (hQ _ he')
end PySem
namespace L2
open PySem PySem.Spec PyProof.Rows
/-- the tuple at a, each item in a new pair -/
def IteT (K : PySem.W.Frag) (a : Addr) : It :=
  ⟨fun i H => ∃ (xs : List V) (x : V), SqT K H a xs ∧ xs[i]? = some x, fun i H v H' => ∃ T x, v = .ref T ∧ H T = none ∧ H' = upd H T (.tup [.int (i : Nat), x]) ∧ ∀ xs, SqT K H a xs → xs[i]? = some x, fun i H => ∃ xs : List V, SqT K H a xs ∧ xs.length ≤ i⟩
theorem turn_enumT {P : Program} {w : World} {K : PySem.W.Frag} {elts : List Expr} {kk : Nat} {tpos : Pos} (a e it : Addr) (hai : a ≠ it) (hae : a ≠ e) :
    Turn P w K (.Tuple elts kk tpos) (IteT K a) [e, it] e (fun i h => (∃ old, IsEnum h e it ((i : Nat) : Int) old) ∧ h.IsTupleIter it a i ∧ e ≠ it) where
  mem := by simp
  obj := fun i h st b hb => by
    obtain ⟨⟨old, he⟩, ⟨o, ho, hc, hd⟩, _⟩ := st
    have e' : b = e ∨ b = it := by simpa using hb
    rcases e' with z | z
    · rw [z]; exact ⟨_, he, fun v q => nomatch q⟩
    · rw [z]; exact ⟨o, ho, fun v q => by rw [hd] at q; cases q⟩
  keep := fun i h h' st k => let ⟨⟨old, he⟩, hi, hne⟩ := st; ⟨⟨old, k e (by simp) _ he⟩, hi.at fun o q => k it (by simp) o q, hne⟩
  item := by
    intro X hP hw hK hc i pins s σ H E I hf st hg
    subst hP hw hK
    obtain ⟨⟨old, he⟩, hit, hne⟩ := st
    obtain ⟨xs, x, hq, hx⟩ := hg
    obtain ⟨its, rv, p, hz⟩ := I.tuple hq
    obtain ⟨u, hu, ru⟩ := rv.get hx
    have hel : e < s.heap.objs.size := Heap.lt_size he
    have hil : it < s.heap.objs.size := by obtain ⟨_, q, _⟩ := hit; exact Heap.lt_size q
    have hlt : i < its.toArray.size := by
      have := rv.length
      have h2 := (List.getElem?_eq_some_iff.mp hx).1
      simp
      omega
    refine wpAny_pyNext_enum_itemD (Draws.tuple (A := X.A.in1) (I.ok.hd hc) it a hai its.toArray) he ⟨hit, p⟩ hlt hne (by simp [Ne.symm hae, hne]) fun x' h' tk hx' ho hst' hT hsz hk => ?_
    have ex : x' = u := by
      have h1 : its[i]? = some x' := by simpa using hx'
      rw [h1] at hu
      exact Option.some.inj hu
    subst ex
    refine ⟨_, rfl, wpAny_letOwnedTupleGo_enum (s := { s with heap := h', toks := tk + 1 }) ho fun h'' he' sb => ?_⟩
    have hT2 : h''.get? s.heap.objs.size = some { cls := .type "tuple", data := .seq #[.int i tk, x'] } := (sb.2 _ (Nat.ne_of_gt hel)).trans hT
    have new : ObjOk X.prog X.w (upd H s.heap.objs.size (.tup [.int (i : Nat), x])) h'' s.heap.objs.size (.tup [.int (i : Nat), x]) :=
      ⟨by show 2 ≤ sizeLine; decide, [.int i tk, x'], .cons ⟨_, rfl⟩ (.cons ru .nil), ⟨_, hT2, rfl, _, rfl⟩⟩
    have I1 : Inv X pins σ (upd H s.heap.objs.size (.tup [.int (i : Nat), x])) { s with heap := h'', toks := tk + 1 } :=
      I.turnedNew (ch := [e, it]) (fun b ob hb q => (sb.2 b (fun z => hb (by simp [z]))).trans (hk b ob (fun z => hb (by simp [z])) (fun z => hb (by simp [z])) q)) hf (Nat.le_refl _) new
    refine ⟨.ref s.heap.objs.size, _, I1, rfl, ⟨_, x, rfl, I.hok.fresh (Nat.le_refl _), rfl, fun ys hy => by rw [I.tuple_inj hy hq]; exact hx⟩, ⟨⟨x', ?_⟩, hst'.1.at fun o q => (sb.2 it (Ne.symm hne)).trans q, hne⟩, fun b hb => ?_⟩
    · have e1 : ((i + 1 : Nat) : Int) = (i : Int) + 1 := by omega
      rw [e1]; exact he'
    · have hb' : b < s.heap.objs.size := by
        have e' : b = e ∨ b = it := by simpa using hb
        rcases e' with z | z
        · rw [z]; exact hel
        · rw [z]; exact hil
      rw [upd_ne (Nat.ne_of_lt hb')]
      exact (hf b hb).1
  done := by
    intro X hP hw hK hc i pins s σ H E I hf st hg
    subst hP hw hK
    obtain ⟨⟨old, he⟩, hit, hne⟩ := st
    obtain ⟨xs, hq, hx⟩ := hg
    obtain ⟨its, rv, p, hz⟩ := I.tuple hq
    obtain ⟨f0, f1, f2, f3, f4, f5⟩ := hf it (by simp)
    have hl := rv.length
    refine wpAny_pyNext_enum_endT (I.ok.hd hc) he hit p (by simp; omega) fun h' eb => ⟨rfl, I.turned (t' := s.toks) (fun b o hb q => eb b o hb q) f0 f1 f3 f4 f5⟩
  self := fun A i s Q E st h => let ⟨⟨_, he⟩, _⟩ := st; wpAny_pyIter_enum he h
theorem walk_enumT {K : PySem.W.Frag} {a : Addr} {xs : List V} : Walk (IteT K a) xs.length (fun H => SqT K H a xs) (YPair (fun i => some (.int (i : Nat))) (fun i => xs[i]?)) := by
  refine ⟨fun i _ hi q => ⟨xs, xs[i], q, by simp [hi]⟩, fun _ q => ⟨xs, q, Nat.le_refl _⟩, fun i H v H' _ q y => ?_⟩
  obtain ⟨T, x, h1, h2, h3, h4⟩ := y
  exact ⟨T, .int (i : Nat), x, h1, h2, h3, rfl, h4 xs q⟩
def iEnumA (K : PySem.W.Frag) (te : TA) : TI := fun σ H R => te σ H fun vs H1 => ∃ a, vs = [.ref a] ∧ (((∃ xs, SqL K H1 a xs) ∧ R (Ite K a) H1) ∨ ((∃ xs, SqT K H1 a xs) ∧ R (IteT K a) H1))
theorem pi_enumA {X : Cx} {e : Expr} {ta : TA} {p pos tpos : Pos} {elts : List Expr} {kk : Nat} (hg : Gl X "enumerate") (hm : X.mg "enumerate" = none) (ha : PA X [e] ta) (hs : starEach [e] X.env = [(false, eval e X.env)]) :
    PI X (.Tuple elts kk tpos) (.Call (.Name "enumerate" p) [e] [] pos) (iEnumA X.K ta) := by
  refine ⟨fun pins s σ H R I h => ?_⟩
  refine Call_ (ld_blt I hg hm boot_enumerate (PyProof.Rows.callWith_type1 (thn (ha.run pos pins s σ H _ I h) fun us s1 ⟨vs, H1, I1, r1, q1⟩ => ?_) hs rfl))
  obtain ⟨a, ex, q⟩ := q1
  subst ex
  cases r1 with
  | cons r rr =>
    cases rr
    cases r
    have young : ∀ b ∈ [s1.heap.objs.size + 1, s1.heap.objs.size], FpOk X pins H1 b := fun b hb => by
      have e' : b = s1.heap.objs.size + 1 ∨ b = s1.heap.objs.size := by simpa using hb
      have hle : s1.heap.objs.size ≤ b := by
        rcases e' with z | z
        · rw [z]; exact Nat.le_add_right _ _
        · rw [z]; exact Nat.le_refl _
      exact I1.fpOk hle (I1.hok.fresh hle)
    rcases q with ⟨⟨xs, hq⟩, q⟩ | ⟨⟨xs, hq⟩, q⟩
    · obtain ⟨its, rv, p', hz⟩ := I1.list hq
      refine call_enumerate_list p'.isList fun h' he hit hsz hk => wpAny_pyIter_enum he ?_
      have I2 : Inv X pins σ H1 { s1 with heap := h' } := I1.kept (t' := s1.toks) hk
      exact ⟨s1.heap.objs.size + 1, [s1.heap.objs.size + 1, s1.heap.objs.size], _, _, H1, rfl, I2, turn_enum a (s1.heap.objs.size + 1) s1.heap.objs.size, ⟨⟨.none, he⟩, hit, Nat.succ_ne_self _⟩, young, q⟩
    · obtain ⟨its, rv, p', hz⟩ := I1.tuple hq
      have hlt : a < s1.heap.objs.size := by obtain ⟨o, ho, _⟩ := p'; exact Heap.lt_size ho
      refine call_enumerate_of (begins_tuple a its.toArray) p' fun h' he hit hsz hk => wpAny_pyIter_enum he ?_
      have I2 : Inv X pins σ H1 { s1 with heap := h' } := I1.kept (t' := s1.toks) hk
      exact ⟨s1.heap.objs.size + 1, [s1.heap.objs.size + 1, s1.heap.objs.size], _, _, H1, rfl, I2, turn_enumT a (s1.heap.objs.size + 1) s1.heap.objs.size (Nat.ne_of_lt hlt) (Nat.ne_of_lt (Nat.lt_succ_of_lt hlt)), ⟨⟨.none, he⟩, ⟨_, hit, rfl, rfl⟩, Nat.succ_ne_self _⟩, young, q⟩
end L2

/-! ## EvT -/
set_option maxHeartbeats 4000000
/-! tuple[::-1], and tuple * int for every small int -/
namespace HT
open PySem PySem.Spec PyProof.Rows
section
variable {prog : Program} {w : World} {A : Around} {E : Value → Shared → Prop} {s : Shared}
theorem rev_adjust (n : Nat) : Builtin.Slice.sliceAdjust none none (-1) (n : Int) = ((n : Int) - 1, -1) := rfl
theorem rev_places (n : Nat) : Builtin.Slice.slicePlaces ((n : Int) - 1) (-1) (-1) = n := by
  unfold Builtin.Slice.slicePlaces
  rw [if_neg (by omega)]
  by_cases h : (n : Int) - 1 > -1
  · rw [if_pos h, show (-(-1) : Int) = 1 from rfl, Int.ediv_one]
    omega
  · rw [if_neg h]
    omega
theorem fm_congr {α β : Type} {f g : α → Option β} : ∀ {l : List α}, (∀ k, k ∈ l → f k = g k) → l.filterMap f = l.filterMap g
  | [], _ => rfl
  | a :: l, h => by
    rw [List.filterMap_cons, List.filterMap_cons, h a (List.mem_cons_self ..), fm_congr fun k hk => h k (List.mem_cons_of_mem _ hk)]
theorem rev_pick (xs : Array Value) : ((List.range xs.size).filterMap fun (k : Nat) => xs[(((xs.size : Int) - 1) + (k : Int) * (-1)).toNat]?).toArray = xs.toList.reverse.toArray := by
  have e : ∀ k, k ∈ List.range xs.size → (fun (k : Nat) => xs[(((xs.size : Int) - 1) + (k : Int) * (-1)).toNat]?) k = (fun k => xs.toList.reverse[k]?) k := by
    intro k hk
    have hk := List.mem_range.mp hk
    have e1 : (((xs.size : Int) - 1) + (k : Int) * (-1)).toNat = xs.size - 1 - k := by omega
    simp only [e1]
    rw [List.getElem?_reverse (by simpa using hk)]
    simp
  rw [fm_congr e]
  congr 1
  have h2 : ∀ l : List Value, (List.range l.length).filterMap (fun k => l[k]?) = l := by
    intro l
    induction l with
    | nil => rfl
    | cons a l ih =>
      rw [List.length_cons, List.range_succ_eq_map, List.filterMap_cons]
      simp only [List.getElem?_cons_zero, List.filterMap_map]
      congr 1
  have := h2 xs.toList.reverse
  rw [List.length_reverse, Array.length_toList] at this
  exact this
theorem sliceApplied_rev {sl : Addr} {vl vu vs : Value} {n : Nat} {Q : Int × Int × Nat → Shared → Prop} (hs : s.heap.IsSliceOf sl vl vu vs) (pl : IsPart vl none) (pu : IsPart vu none) (ps : IsPart vs (some (-1)))
    (h : Q ((n : Int) - 1, -1, n) s) : wpAny (model prog w) A (Builtin.Slice.sliceApplied (.ref sl) (pure (n : Int))) Q E s := by
  obtain ⟨os, hos, hcs, hds⟩ := id hs
  unfold Builtin.Slice.sliceApplied Builtin.Slice.sliceFields
  refine wpAny_bind (wpAny_bind (wpAny_field hos hds (x := vl) rfl (wpAny_bind (wpAny_field hos hds (x := vu) rfl (wpAny_bind (wpAny_field hos hds (x := vs) rfl (wpAny_pure ?_)))))))
  refine wpAny_bind (slicePart_ ps ?_)
  show wpAny _ _ (if ((-1 : Int) == 0) = true then _ else _) _ _ s
  rw [if_neg (by decide)]
  refine wpAny_bind (slicePart_ pl (wpAny_bind (slicePart_ pu (wpAny_bind (wpAny_pure ?_)))))
  show wpAny _ _ (pure ((n : Int) - 1, (-1 : Int), Builtin.Slice.slicePlaces ((n : Int) - 1) (-1) (-1))) _ _ s
  rw [rev_places]
  exact wpAny_pure h
theorem getItem_tuple_rev {t sl : Addr} {items : Array Value} {vl vu vs : Value} {Q : Value → Shared → Prop} (ht : IsTup s.heap t items) (hs : s.heap.IsSliceOf sl vl vu vs) (pl : IsPart vl none) (pu : IsPart vu none) (ps : IsPart vs (some (-1)))
    (h : Q (.ref s.heap.objs.size) { s with heap := s.heap.push { cls := .type "tuple", data := .seq items.toList.reverse.toArray } }) (hsz : items.size ≤ sizeLine) : wpAny (model prog w) A (getItem (.ref t) (.ref sl)) Q E s := by
  have htake : sizeOk (.seq items.toList.reverse.toArray) := by
    show items.toList.reverse.toArray.size ≤ sizeLine
    rw [List.size_toArray, List.length_reverse, Array.length_toList]
    exact hsz
  obtain ⟨os, hos, hcs, hds⟩ := id hs
  have hTs : s.TypeIs (.ref sl) "slice" := ⟨os, hos, hcs⟩
  unfold getItem
  try with_reducible refine wpAny_holding ?_
  first | refine wpAny_bind (wpAny_pure ?_) | skip
  refine wpAny_bind (wpAny_sequenceKey ht.typeIs (by decide) ?_)
  refine wpAny_bind (wpAny_callSpecial?_slot (name := Str.ofString "__getitem__") ht.typeIs PyProof.Rows.slot_tuple_getitem
    (wpAny_call_entry PyProof.Rows.slot_tuple_getitem ht.typeIs entry_tuple_getitem ?_ (args_tuple_getitem _ _)))
  show wpAny _ _ (Builtin.Tuple.tupleItemsOf (.ref t) >>= _) _ _ s
  refine wpAny_bind (tupleItemsOf_ ht ?_)
  refine wpAny_bind (wpAny_typeOf hTs ?_)
  rw [if_pos (by decide)]
  refine wpAny_bind (sliceApplied_rev (n := items.size) hs pl pu ps ?_)
  have hno : ¬ ((((items.size : Int) - 1) == 0 && (-1 : Int) == 1 && items.size == items.size) = true) := by
    intro q
    rw [Bool.and_eq_true, Bool.and_eq_true] at q
    exact absurd q.1.2 (by decide)
  show wpAny _ _ (if (((items.size : Int) - 1) == 0 && (-1 : Int) == 1 && items.size == items.size) = true then _ else _) _ _ s
  rw [if_neg hno, rev_pick]
  first
    | exact wpAny_bind (m := Builtin.Tuple.tupleExact _) (wpAny_newObj_type (wpAny_pure ⟨_, rfl, wpAny_pure h⟩) htake)
    | exact wpAny_bind (m := Builtin.Tuple.tupleExact _) (wpAny_newObj_type (wpAny_bind (wpAny_pure (wpAny_pure ⟨_, rfl, wpAny_pure h⟩))) htake)
    | exact wpAny_bind (wpAny_bind (m := Builtin.Tuple.tupleExact _) (wpAny_newObj_type (wpAny_pure (wpAny_pure ⟨_, rfl, wpAny_pure h⟩)) htake))
    | exact wpAny_bind (wpAny_bind (m := Builtin.Tuple.tupleExact _) (wpAny_newObj_type (wpAny_pure ⟨_, rfl, wpAny_pure h⟩) htake))
end
end HT
namespace L2
open PySem PySem.Spec PyProof.Rows
/-- xs[::-1] of a list or a tuple -/
def tRevA (K : PySem.W.Frag) (te : TE) : TE := fun σ H Q => te σ H fun x H1 => ∃ a xs, x = .ref a ∧ ((SqL K H1 a xs ∧ ∀ p, H1 p = none → Q (.ref p) (upd H1 p (.lst xs.reverse))) ∨ (SqT K H1 a xs ∧ ∀ p, H1 p = none → Q (.ref p) (upd H1 p (.tup xs.reverse))))
theorem pe_revA {X : Cx} {e : Expr} {te : TE} {k : Nat} {p1 p2 p3 pos : Pos} (he : PE X e te) : PE X (.Subscript e (.Slice none none (some (.UnaryOp .USub (.Constant (.int 1) k p1) p2)) p3) pos) (tRevA X.K te) := by
  refine ⟨fun pins s σ H Q I h => ?_⟩
  refine Subscript_ (thn (he.run pins s σ H _ I h) fun v s1 ⟨x, H1, I1, r1, q1⟩ => ?_)
  obtain ⟨a, xs, ex, q⟩ := q1
  subst ex
  cases r1
  have hst : PO X (some (.UnaryOp .USub (.Constant (.int 1) k p1) p2)) (tPart (tUn (rU fun i => .int (-i)) (tC (.int 1)))) := po_some (pe_un un_neg pe_int)
  refine wpAny_Slice (thn (po_none.run pins s1 σ H1 (fun o H2 => o = none ∧ H2 = H1) I1 ⟨rfl, rfl⟩) fun vl s2 ⟨l, H2, I2, pl, el, e2⟩ => ?_)
  subst el e2
  refine thn (po_none.run pins s2 σ H2 (fun o H3 => o = none ∧ H3 = H2) I2 ⟨rfl, rfl⟩) fun vu s3 ⟨u, H3, I3, pu, eu, e3⟩ => ?_
  subst eu e3
  refine thn (hst.run pins s3 σ H3 (fun o H4 => o = some (-1) ∧ H4 = H3) I3 ⟨1, rfl, -1, rfl, rfl, rfl⟩) fun vs s4 ⟨o, H4, I4, ps, eo, e4⟩ => ?_
  subst eo e4
  have I5 : Inv X pins σ H4 { s4 with heap := s4.heap.push { cls := .type "slice", data := .fields #[vl, vu, vs] } } := I4.kept (t' := s4.toks) fun b ob q => Heap.get?_push_of_some _ q
  show wpAny (model X.prog X.w) X.A (subscriptTail e (.Slice none none (some (.UnaryOp .USub (.Constant (.int 1) k p1) p2)) p3) (.ref a) (.ref s4.heap.objs.size)) (EP X pins σ Q) X.xe { s4 with heap := s4.heap.push { cls := .type "slice", data := .fields #[vl, vu, vs] } }
  rcases q with ⟨hx, q⟩ | ⟨hx, q⟩
  · obtain ⟨its, r, ht, hz⟩ := I5.list hx
    have hlen := r.length
    refine tail_any (ops := [.ref a, .ref s4.heap.objs.size]) ht.isList.typeIs (PySem.slot_list_getitem.lookup) ?_ (by with_unfolding_all rfl)
    refine wpAny_getItem_list_slice ht.isList (Heap.IsSliceOf.new _ vl vu vs) pl pu ps (by decide) ?_ (by rw [List.size_toArray]; omega)
    rw [PySem.W.krv_pick]
    refine ⟨.ref _, _, I5.laid (t' := s4.toks) (o := .lst xs.reverse) (fun b ob q => Heap.get?_push_of_some _ q) (Nat.le_refl _) ?_, rfl, q _ (I5.hok.fresh (Nat.le_refl _))⟩
    exact ⟨by rw [List.length_reverse]; exact hz, _, 0, r.reverse, Heap.get?_push_size _ rfl⟩
  · obtain ⟨its, r, ht, hz⟩ := I5.tuple hx
    have hlen := r.length
    refine tail_any (ops := [.ref a, .ref s4.heap.objs.size]) ht.typeIs (PyProof.Rows.slot_tuple_getitem.lookup) ?_ (by with_unfolding_all rfl)
    refine HT.getItem_tuple_rev ht (Heap.IsSliceOf.new _ vl vu vs) pl pu ps ?_ (by rw [List.size_toArray]; omega)
    refine ⟨.ref _, _, I5.laid (t' := s4.toks) (o := .tup xs.reverse) (fun b ob q => Heap.get?_push_of_some _ q) (Nat.le_refl _) ?_, rfl, q _ (I5.hok.fresh (Nat.le_refl _))⟩
    exact ⟨by rw [List.length_reverse]; exact hz, _, r.reverse, IsTup.new _ _⟩

/-! ### tuple * int -/
theorem tuple_mul1 (l : Addr) (items : Array Value) (n : Nat) (dd : Option Addr) (sl : Array (Option Value)) (x : Int) (u : Tok) (c0 : (decide (x < -(2 ^ 63)) || decide (x ≥ 2 ^ 63)) = false) (c1 : (items.isEmpty || x == 1) = true) :
    Meets (Builtin.«tuple.__mul__» ⟨[.ref l, .int x u], []⟩) (fun _ R s => s.heap.get? l = some { cls := .type "tuple", dict := dd, data := .seq items n, slots := sl } ∧ R (.ok (.ret (.ref l))) s) :=
  .of_wp fun prog w A R s h => by
    obtain ⟨hp, g, d, tk, os⟩ := s
    obtain ⟨hl, h⟩ := h
    have f1 := AutoSeq1.idx_int
    wp_walk using wpAny_loadPart' hl
    repeat (first
      | (refine wpAny_ite_false (decide_eq_false (by rw [c0]; exact Bool.false_ne_true)) ?_; wp_walk using wpAny_loadPart' hl)
      | (refine wpAny_ite_true (decide_eq_true c1) ?_; wp_walk using wpAny_loadPart' hl)
      | (refine wpAny_ite_true c1 ?_; wp_walk using wpAny_loadPart' hl))
    exact ⟨_, rfl, h⟩
theorem tuple_mul0 (l : Addr) (items : Array Value) (n : Nat) (dd : Option Addr) (sl : Array (Option Value)) (x : Int) (u : Tok) (c0 : (decide (x < -(2 ^ 63)) || decide (x ≥ 2 ^ 63)) = false) (c1 : (items.isEmpty || x == 1) = false) (c2 : (decide (x ≤ 0) || items.isEmpty) = true) :
    Meets (Builtin.«tuple.__mul__» ⟨[.ref l, .int x u], []⟩) (fun _ R s => s.heap.get? l = some { cls := .type "tuple", dict := dd, data := .seq items n, slots := sl } ∧
      R (.ok (.ret (Value.ref s.heap.objs.size))) { s with heap := s.heap.push { cls := Value.type "tuple", data := Data.seq #[] }, toks := s.toks }) :=
  .of_wp fun prog w A R s h => by
    obtain ⟨hp, g, d, tk, os⟩ := s
    obtain ⟨hl, h⟩ := h
    have f1 := AutoSeq1.idx_int
    wp_walk using wpAny_loadPart' hl
    repeat (first
      | (refine wpAny_ite_false (decide_eq_false (by rw [c0]; exact Bool.false_ne_true)) ?_; wp_walk using wpAny_loadPart' hl)
      | (refine wpAny_ite_false (decide_eq_false (by rw [c1]; exact Bool.false_ne_true)) ?_; wp_walk using wpAny_loadPart' hl)
      | (refine wpAny_ite_true (decide_eq_true c2) ?_; wp_walk using wpAny_loadPart' hl)
      | (refine wpAny_ite_true c2 ?_; wp_walk using wpAny_loadPart' hl))
    exact ⟨_, rfl, h⟩
/-- a tuple so often: once it is the tuple itself -/
def rRepA (K : PySem.W.Frag) : R2 := fun x y H Q => ∃ l k xs, x = .ref l ∧ y = .int k ∧ SqT K H l xs ∧ -(2 ^ 62) ≤ k ∧ k ≤ 1000 ∧ xs.length ≤ 1000 ∧
  ((xs = [] ∨ k = 1) → Q (.ref l) H) ∧ (xs ≠ [] → k ≠ 1 → ∀ p, H p = none → Q (.ref p) (upd H p (.tup (List.replicate k.toNat xs).flatten)))
theorem op_repA {X : Cx} : OpR X (binaryOp .Mult) (rRepA X.K) := by
  intro pins s σ H x y v u Q I rx ry h
  obtain ⟨l, k, xs, rfl, rfl, hT, hk, h2, hz, q1, q2⟩ := h
  by_cases hs : xs = [] ∨ k = 1
  · cases rx
    obtain ⟨t, rfl⟩ := ry
    obtain ⟨its, r, ⟨⟨cls, dd, data, sl⟩, ho, hc, n, hd⟩, hs'⟩ := I.tuple hT
    simp only at hc hd
    subst hc hd
    have c0 : (decide (k < -(2 ^ 63)) || decide (k ≥ 2 ^ 63)) = false := by
      rw [decide_eq_false (by omega), decide_eq_false (by omega)] <;> rfl
    have c1 : (its.toArray.isEmpty || k == 1) = true := by
      rcases hs with e | e
      · subst e
        cases r
        rfl
      · subst e
        simp
    exact wpAny_binaryOp_repeat_ref (T := "tuple") (U := "int") (by decide) ⟨_, ho, rfl⟩ (fun s' => typeIs_int s' k t) noFill_tuple_mul F.fills_int_mul F.slot_int_rmul repeat_tuple F.slot_int_index.lookup
      (call_meets F.slot_int_rmul (typeIs_int s k t) F.entry_int_rmul (F.args_int_rmul_2 _ _) (int_rmul_tuple k t l its.toArray n dd sl)
        ⟨ho, rfl, ⟨_, ho, rfl⟩, call_meets F.slot_tuple_mul ⟨_, ho, rfl⟩ F.entry_tuple_mul (F.args_tuple_mul_2 _ _) (tuple_mul1 l its.toArray n dd sl k t c0 c1) ⟨ho, ⟨.ref l, H, I, rfl, q1 hs⟩⟩⟩)
  · have hne : xs ≠ [] := fun e => hs (.inl e)
    have hk1 : k ≠ 1 := fun e => hs (.inr e)
    by_cases h0 : 2 ≤ k
    · exact op_repT pins s σ H _ _ v u Q I rx ry ⟨l, k, xs, rfl, rfl, hT, hne, h0, h2, hz, q2 hne hk1⟩
    · cases rx
      obtain ⟨t, rfl⟩ := ry
      obtain ⟨its, r, ⟨⟨cls, dd, data, sl⟩, ho, hc, n, hd⟩, hs'⟩ := I.tuple hT
      simp only at hc hd
      subst hc hd
      have hle : its.length = xs.length := r.length.symm
      have hi : its.toArray.isEmpty = false := by
        cases its with
        | nil => exact absurd (List.eq_nil_of_length_eq_zero hle.symm) hne
        | cons a b => rfl
      have c0 : (decide (k < -(2 ^ 63)) || decide (k ≥ 2 ^ 63)) = false := by
        rw [decide_eq_false (by omega), decide_eq_false (by omega)] <;> rfl
      have c1 : (its.toArray.isEmpty || k == 1) = false := by
        rw [hi, Bool.false_or]
        exact beq_eq_false_iff_ne.mpr hk1
      have c2 : (decide (k ≤ 0) || its.toArray.isEmpty) = true := by
        rw [decide_eq_true (show k ≤ 0 by omega)] <;> rfl
      have e0 : (List.replicate k.toNat xs).flatten = [] := by
        rw [show k.toNat = 0 by omega]; rfl
      refine wpAny_binaryOp_repeat_ref (T := "tuple") (U := "int") (by decide) ⟨_, ho, rfl⟩ (fun s' => typeIs_int s' k t) noFill_tuple_mul F.fills_int_mul F.slot_int_rmul repeat_tuple F.slot_int_index.lookup
        (call_meets F.slot_int_rmul (typeIs_int s k t) F.entry_int_rmul (F.args_int_rmul_2 _ _) (int_rmul_tuple k t l its.toArray n dd sl)
          ⟨ho, rfl, ⟨_, ho, rfl⟩, call_meets F.slot_tuple_mul ⟨_, ho, rfl⟩ F.entry_tuple_mul (F.args_tuple_mul_2 _ _) (tuple_mul0 l its.toArray n dd sl k t c0 c1 c2) ⟨ho, ?_⟩⟩)
      have q3 := q2 hne hk1
      rw [e0] at q3
      refine ⟨.ref s.heap.objs.size, _, I.laid (t' := s.toks) (o := .tup []) (fun b ob q => Heap.get?_push_of_some _ q) (Nat.le_refl _) ?_, rfl, q3 _ (I.hok.fresh (Nat.le_refl _))⟩
      exact ⟨Nat.zero_le _, [], .nil, IsTup.new _ _⟩
end L2

/-! ## EvS -/
/-! len(set(t)), t a tuple of ints -/
namespace RZ
open PySem PySem.Spec PyProof.Rows L2
/-- each number once -/
def nubI : List Int → List Int
  | [] => []
  | x :: r => if (nubI r).contains x then nubI r else x :: nubI r
theorem nubI_mem : ∀ {l : List Int} {x : Int}, x ∈ nubI l ↔ x ∈ l
  | [], _ => by simp [nubI]
  | y :: r, x => by
    unfold nubI
    split
    · rename_i h
      have hy : y ∈ r := nubI_mem.mp (List.contains_iff_mem.mp h)
      rw [nubI_mem, List.mem_cons]
      exact ⟨.inr, fun q => q.elim (fun e => e ▸ hy) id⟩
    · rw [List.mem_cons, List.mem_cons, nubI_mem]
theorem nubI_nodup : ∀ l : List Int, (nubI l).Nodup
  | [] => by simp [nubI]
  | y :: r => by
    unfold nubI
    split
    · exact nubI_nodup r
    · rename_i h
      exact List.nodup_cons.mpr ⟨fun q => h (List.contains_iff_mem.mpr q), nubI_nodup r⟩
theorem len_of_same : ∀ {l m : List Int}, l.Nodup → m.Nodup → (∀ x, x ∈ l ↔ x ∈ m) → l.length = m.length
  | [], m, _, _, h => by
    cases m with
    | nil => rfl
    | cons y r => exact absurd ((h y).mpr List.mem_cons_self) (by simp)
  | x :: l, m, hl, hm, h => by
    have hx : x ∈ m := (h x).mp List.mem_cons_self
    have hl' := List.nodup_cons.mp hl
    have he : (m.erase x).length = m.length - 1 := List.length_erase_of_mem hx
    have hp : 0 < m.length := List.length_pos_of_mem hx
    have ih := len_of_same (l := l) (m := m.erase x) hl'.2 (hm.erase x) fun y => by
      rw [hm.mem_erase_iff]
      constructor
      · intro hy
        exact ⟨fun e => hl'.1 (e ▸ hy), (h y).mp (List.mem_cons_of_mem _ hy)⟩
      · intro ⟨hne, hy⟩
        rcases List.mem_cons.mp ((h y).mpr hy) with e | e
        · exact absurd e hne
        · exact e
    rw [List.length_cons, ih, he]
    omega
def tLenSetT (K : PySem.W.Frag) (ta : TE) : TE := fun σ H Q => ta σ H fun x H1 => ∃ (l : Addr) (ns : List Int), x = .ref l ∧ SqT K H1 l (ns.map V.int) ∧ ns.length ≤ 4000 ∧ Q (.int ((nubI ns).length : Nat)) H1
theorem pe_lenSetT {X : Cx} {a : Expr} {ta : TE} {p p2 q pos : Pos} (hg : Gl X "len") (hm : X.mg "len" = none) (hg2 : Gl X "set") (hm2 : X.mg "set" = none) (ha : PE X a ta) (hc : X.calm = true)
    (na : starEach [a] X.env = (false, eval a X.env) :: starEach [] X.env) : PE X (.Call (.Name "len" p) [.Call (.Name "set" p2) [a] [] q] [] pos) (tLenSetT X.K ta) := by
  refine ⟨fun pins s σ H Q I h => ?_⟩
  refine Call_ (ld_blt I hg hm boot_len ?_)
  refine PyProof.Rows.callWith_builtin1 (PyProof.Rows.args_cons ?_ rfl) rfl rfl
  refine Call_ (ld_blt I hg2 hm2 boot_set ?_)
  refine PyProof.Rows.callWith_type1 (PyProof.Rows.args_cons (thn (ha.run pins s σ H _ I h) fun v s1 ⟨x, H1, I1, r1, q1⟩ => PyProof.Rows.args_nil ?_) na) na rfl
  obtain ⟨l, ns, rfl, hq, hl, q1⟩ := q1
  cases r1
  obtain ⟨its, r, pl, hz⟩ := I1.tuple hq
  refine call_set_tupI ns (I1.ok.hd hc) pl (by simpa using intsAre_vals r) (by unfold scanBound; omega) fun h' tk c hS _ hk => ?_
  refine PyProof.Rows.args_nil ?_
  obtain ⟨o, es, ep, t, ho, hex, hd, hg1, hnd, hmem, hsz, hf, hn, _⟩ := hS
  have hlen : es.size = (nubI ns).length := by
    have e1 : (es.toList.map keyOf).length = (nubI ns).length := len_of_same hnd (nubI_nodup ns) fun x => by
      rw [nubI_mem, ← hmem x]
      exact decide_eq_true_iff
    rw [← e1, List.length_map, Array.length_toList]
  have hle : (nubI ns).length ≤ 4000 := by
    rw [← hlen]
    have : c ≤ ns.length := by assumption
    omega
  have I2 : Inv X pins σ H1 { s1 with heap := h', toks := tk } := I1.kept fun b o e => hk b o e
  exact call_len_set ho hex hd hf (by rw [hlen]; omega) ⟨.int (nubI ns).length, H1, I2.tok _, ⟨_, by rw [hlen]⟩, q1⟩
end RZ

/-! ## Ev1 -/
/-! A small functional semantics (evaluator) of the pure part of Python: values are PyData; local lists are owned by their slots. -/
namespace Ev
open PySem PySem.Spec PyProof.Rows L2

abbrev D := PyData
/-- how a value came: borrowed from a slot that owns it, stable, fresh -/
inductive Kd where | B | S | F
  deriving DecidableEq, Repr
structure R where
  k : Kd
  d : D
/-- a slot: unset, a stable value, an owned list, the tape -/
inductive Sl where | un | im (d : D) | ow (ds : List D) | tp
structure Tp where
  cells : List Int
  pos : Nat
  cur : Int
  seed : Int
abbrev Rho := List Sl

inductive Bo where | add | sub | mul | fdiv | mod | pow
  deriving DecidableEq, Repr
inductive Co where | eq | ne | lt | le | gt | ge | isin | notin
  deriving DecidableEq, Repr
inductive Bl where | len | abs | min | max | int | tuple | list | sum | any | all | sorted | bitlen | setlen
  deriving DecidableEq, Repr
/-- targets -/
inductive Tg where | nm (i : Nat) | tu (ts : List Nat)
  deriving DecidableEq, Repr

inductive E where
  | cst (d : D)
  | var (i : Nat)
  | bin (op : Bo) (a b : E)
  | neg (a : E)
  | cmp (op : Co) (a b : E)
  | chn (o1 o2 : Co) (a b c : E)
  | isN (a : E)
  | notN (a : E)
  | isB (a b : E)
  | notB (a b : E)
  | con (a b : E)
  | dis (a b : E)
  | inv (a : E)
  | tru (a : E)
  | ite (c a b : E)
  | tup (es : List E)
  | lst (es : List E)
  | idx (a b : E)
  | slc (a lo hi : E)
  | slcL (a lo : E)
  | slcH (a hi : E)
  | slcA (a : E)
  | rev (a : E)
  | call (n : Nat) (es : List E)
  | callT (n : Nat) (i : Nat) (es : List E)
  | blt (b : Bl) (es : List E)
  | comp (elt : E) (tg : Tg) (k : Nat) (its : List E) (cond : List E)
  | ch3 (o1 o2 o3 : Co) (a b c d : E)

inductive S where
  | set (tg : Tg) (e : E)
  | par2 (i j : Nat) (a b : E)
  | par3 (i j l : Nat) (a b c : E)
  | aug (i : Nat) (op : Bo) (e : E)
  | app (i : Nat) (e : E)
  | ext (i : Nat) (e : E)
  | pop (i : Nat)
  | popt (tg : Tg) (i : Nat)
  | mov (i j : Nat)
  | sti (i : Nat) (ix e : E)
  | ret (e : E)
  | retv (i : Nat)
  | retn
  | ite (c : E) (a b : List S)
  | whl (c : E) (b : List S)
  | for_ (tg : Tg) (k : Nat) (its : List E) (b : List S)
  | forv (tg : Tg) (i : Nat) (b : List S)
  | brk
  | cnt
  | pas
  | exp (e : E)
  | nev

/-! ### operations on data -/
def intOf : D → Option Int
  | .int i => some i
  | _ => none
def intsOf : List D → Option (List Int)
  | [] => some []
  | .int i :: r => (intsOf r).map (i :: ·)
  | _ => none
def boolsOf : List D → Option (List Bool)
  | [] => some []
  | .bool b :: r => (boolsOf r).map (b :: ·)
  | _ => none
def nonD : D → Bool
  | .none => true
  | _ => false
def scalD : D → Bool
  | .none => true
  | .bool _ => true
  | .int _ => true
  | .str _ => true
  | _ => false
mutual
/-- no list within -/
def noList : D → Bool
  | .list _ => false
  | .dict _ => false
  | .tuple ds => noListAll ds
  | _ => true
def noListAll : List D → Bool
  | [] => true
  | d :: r => noList d && noListAll r
end
/-- a def's answer as the caller may take it -/
def clean : R → Bool
  | ⟨.S, d⟩ => noList d
  | ⟨.F, .list ds⟩ => noListAll ds
  | _ => false
/-- two factors of together less than a million bits -/
def mulFits (i j : Int) : Bool := decide (i.natAbs.log2 + j.natAbs.log2 < 1000000)
def divFits (j : Int) : Bool := decide (j ≠ 0) && decide (j.natAbs.log2 < 9000)
def powFits (i j : Int) : Bool := decide (0 ≤ j) && decide (j ≤ 1000000) && decide (i.natAbs < 2 ^ 64)
def shortL (ds : List D) : Bool := decide (ds.length < 16777216)
def binD : Bo → D → D → Option R
  | .add, .int i, .int j => some ⟨.S, .int (i + j)⟩
  | .sub, .int i, .int j => some ⟨.S, .int (i - j)⟩
  | .mul, .int i, .int j => if mulFits i j then some ⟨.S, .int (i * j)⟩ else none
  | .fdiv, .int i, .int j => if divFits j then some ⟨.S, .int (i.fdiv j)⟩ else none
  | .mod, .int i, .int j => if j ≠ 0 then some ⟨.S, .int (i.fmod j)⟩ else none
  | .pow, .int i, .int j => if powFits i j then some ⟨.S, .int (i ^ j.toNat)⟩ else none
  | .add, .tuple xs, .tuple ys => if shortL (xs ++ ys) then some ⟨.S, .tuple (xs ++ ys)⟩ else none
  | .add, .list xs, .list ys => if shortL (xs ++ ys) then some ⟨.F, .list (xs ++ ys)⟩ else none
  | .mul, .list xs, .int k => if decide (-(2 ^ 63) ≤ k) && decide (k < 2 ^ 63) && decide (xs.length * k.toNat < 16777216) then some ⟨.F, .list (List.replicate k.toNat xs).flatten⟩ else none
  | .mul, .tuple xs, .int k => if decide (-4611686018427387904 ≤ k) && decide (k ≤ 1000) && decide (xs.length ≤ 1000) then some ⟨.S, .tuple (List.replicate k.toNat xs).flatten⟩ else none
  | _, _, _ => none
def cmpD : Co → D → D → Option Bool
  | .lt, .int i, .int j => some (decide (i < j))
  | .le, .int i, .int j => some (decide (i ≤ j))
  | .gt, .int i, .int j => some (decide (j < i))
  | .ge, .int i, .int j => some (decide (j ≤ i))
  | .eq, .int i, .int j => some (decide (i = j))
  | .ne, .int i, .int j => some (!decide (i = j))
  | .eq, .bool i, .bool j => some (i == j)
  | .ne, .bool i, .bool j => some (!(i == j))
  | .eq, d, e => if SeqAt.shaped d && SeqAt.shaped e then some (PyData.eqv d e) else none
  | .ne, d, e => if SeqAt.shaped d && SeqAt.shaped e then some (!PyData.eqv d e) else none
  | .isin, .int i, .tuple ds => (intsOf ds).map fun ns => ns.any (fun n => decide (n = i))
  | .notin, .int i, .tuple ds => (intsOf ds).map fun ns => !ns.any (fun n => decide (n = i))
  | .isin, d, .list ds => if SeqAt.shaped d && SeqAt.shaped (.list ds) then some (ds.any fun z => PyData.eqv z d) else none
  | .notin, d, .list ds => if SeqAt.shaped d && SeqAt.shaped (.list ds) then some (!ds.any fun z => PyData.eqv z d) else none
  | _, _, _ => none
def atD (ds : List D) (i : Int) : Option D := atI ds i
def cutD (ds : List D) (lo hi : Option Int) : List D := (ds.drop (HT.sIx ds.length 0 lo)).take (HT.sIx ds.length ds.length hi - HT.sIx ds.length 0 lo)
def idxD : D → D → Option R
  | .tuple ds, .int i => (atD ds i).map fun d => ⟨.S, d⟩
  | .list ds, .int i => (atD ds i).map fun d => ⟨.S, d⟩
  | _, _ => none
def slcD (d : D) (lo hi : Option Int) : Option R :=
  match d with
  | .tuple ds => some ⟨.S, .tuple (cutD ds lo hi)⟩
  | .list ds => some ⟨.F, .list (cutD ds lo hi)⟩
  | _ => none
def revD : D → Option R
  | .list ds => some ⟨.F, .list ds.reverse⟩
  | .tuple ds => some ⟨.S, .tuple ds.reverse⟩
  | _ => none
/-- truth -/
def truD : D → Option Bool
  | .bool b => some b
  | .int i => some (!decide (i = 0))
  | .none => some false
  | .list ds => some (!ds.isEmpty)
  | .tuple ds => some (!ds.isEmpty)
  | _ => none
def insI (x : Int) : List Int → List Int
  | [] => [x]
  | y :: r => if x ≤ y then x :: y :: r else y :: insI x r
/-- in order -/
def sortI : List Int → List Int
  | [] => []
  | x :: r => insI x (sortI r)
def maxL : List Int → Option Int
  | [] => none
  | x :: r => some (r.foldl max x)
def minL : List Int → Option Int
  | [] => none
  | x :: r => some (r.foldl min x)
/-- data that can be sorted: tuples with an item at least, alike place by place, not deep -/
def okS (ds : List D) : Bool := (ds.all fun x => ds.all fun y => PySem.W.alike x y) && ds.all fun d => match d with
  | .tuple (x :: r) => decide (PyData.depth (.tuple (x :: r)) ≤ 8)
  | _ => false
def minT : List D → Option R
  | d :: r => if okS (d :: r) then some ⟨.S, PySem.W.minD d r⟩ else none
  | [] => none
def srtT (ds : List D) : Option R := if okS ds then some ⟨.F, .list (ds.mergeSort (PySem.W.dataLe false id))⟩ else none
def bltD : Bl → List D → Option R
  | .len, [.tuple ds] => some ⟨.S, .int ds.length⟩
  | .len, [.list ds] => some ⟨.S, .int ds.length⟩
  | .abs, [.int i] => some ⟨.S, .int (if i < 0 then -i else i)⟩
  | .min, [.int i, .int j] => some ⟨.S, .int (if j < i then j else i)⟩
  | .max, [.int i, .int j] => some ⟨.S, .int (if j > i then j else i)⟩
  | .max, [.list ds] => (intsOf ds).bind fun ns => (maxL ns).map fun m => ⟨.S, .int m⟩
  | .min, [.list ds] => match intsOf ds with
    | some ns => (minL ns).map fun m => ⟨.S, .int m⟩
    | none => minT ds
  | .max, [.tuple ds] => (intsOf ds).bind fun ns => (maxL ns).map fun m => ⟨.S, .int m⟩
  | .min, [.tuple ds] => (intsOf ds).bind fun ns => (minL ns).map fun m => ⟨.S, .int m⟩
  | .int, [.int i] => some ⟨.S, .int i⟩
  | .int, [.bool b] => some ⟨.S, .int (if b then 1 else 0)⟩
  | .tuple, [.list ds] => some ⟨.S, .tuple ds⟩
  | .tuple, [.tuple ds] => some ⟨.S, .tuple ds⟩
  | .list, [.list ds] => some ⟨.F, .list ds⟩
  | .list, [.tuple ds] => some ⟨.F, .list ds⟩
  | .sum, [.list ds] => (intsOf ds).map fun ns => ⟨.S, .int ns.sum⟩
  | .sorted, [.list ds] => match intsOf ds with
    | some ns => some ⟨.F, .list ((sortI ns).map PyData.int)⟩
    | none => srtT ds
  | .any, [.list ds] => (boolsOf ds).map fun bs => ⟨.S, .bool (bs.any id)⟩
  | .all, [.list ds] => (boolsOf ds).map fun bs => ⟨.S, .bool (bs.all id)⟩
  | .setlen, [.tuple ds] => (intsOf ds).bind fun ns => if decide (ns.length ≤ 4000) then some ⟨.S, .int ((RZ.nubI ns).length : Nat)⟩ else none
  | .bitlen, [.int i] => some ⟨.S, .int (Builtin.Int.intBits i : Nat)⟩
  | _, _ => none
/-- the ints of a range -/
def rngD (lo : Int) : Nat → List D
  | 0 => []
  | n + 1 => .int lo :: rngD (lo + 1) n
def rngFits (i j : Int) : Bool := decide (-(2 ^ 62) ≤ i) && decide (i < 2 ^ 62) && decide (-(2 ^ 62) ≤ j) && decide (j < 2 ^ 62)
/-- the pairs of enumerate -/
def enumD (i : Nat) : List D → List D
  | [] => []
  | d :: ds => .tuple [.int i, d] :: enumD (i + 1) ds
/-- a range with a step, by its size -/
def rngC (lo c : Int) : Nat → List D
  | 0 => []
  | n + 1 => .int lo :: rngC (lo + c) c n
/-- how many items a range with a step above 0 has -/
def rngN (i j c : Int) : Nat := if i < j then ((j - i - 1) / c + 1).toNat else 0
/-- what a for walks: 1 range(a), 2 range(a, b), 0 a sequence, 3 enumerate, 4 range(a, b, c), c = -1 or above 0 -/
def itD : Nat → List D → Option (List D)
  | 0, [.tuple ds] => some ds
  | 0, [.list ds] => some ds
  | 1, [.int j] => if rngFits 0 j then some (rngD 0 j.toNat) else none
  | 2, [.int i, .int j] => if rngFits i j then some (rngD i (j - i).toNat) else none
  | 3, [.tuple ds] => some (enumD 0 ds)
  | 3, [.list ds] => some (enumD 0 ds)
  | 4, [.int i, .int j, .int c] => if rngFits i j && decide (c = -1) then some (rngC i (-1) (i - j).toNat)
    else if rngFits i j && (decide (0 < c) && decide (c < 1073741824)) then some (rngC i c (rngN i j c)) else none
  | _, _ => none
def setsD (ρ : Rho) : List Nat → List D → Option Rho
  | [], [] => some ρ
  | i :: is, d :: ds => setsD (ρ.set i (.im d)) is ds
  | _, _ => none
def tgD (ρ : Rho) : Tg → D → Option Rho
  | .nm i, d => some (ρ.set i (.im d))
  | .tu is, .tuple ds => setsD ρ is ds
  | _, _ => none
def tgVs : Tg → List Nat
  | .nm i => [i]
  | .tu is => is
def wipeR (ρ : Rho) : List Nat → Rho
  | [] => ρ
  | v :: vs => (wipeR ρ vs).set v .un
/-- an answer that is put into another thing must not be borrowed -/
def stb (r : R) : Option D := match r.k with
  | .B => none
  | _ => some r.d

/-! ### expressions -/
def compL (fe : Rho → Tp → Option (R × Tp)) (fc : Rho → Tp → Option (Bool × Tp)) (ρ : Rho) (tg : Tg) : List D → Tp → Option (List D × Tp)
  | [], τ => some ([], τ)
  | d :: ds, τ => (tgD ρ tg d).bind fun ρ1 => (fc ρ1 τ).bind fun c =>
      if c.1 then (fe ρ1 c.2).bind fun x => (stb x.1).bind fun v => (compL fe fc ρ tg ds x.2).map fun y => (v :: y.1, y.2)
      else compL fe fc ρ tg ds c.2
section
variable (Φ : Nat → List D → Option R) (Ψ : Nat → List D → Tp → Option (R × Tp))
mutual
def ev (ρ : Rho) (τ : Tp) : E → Option (R × Tp)
  | .cst d => some (⟨.S, d⟩, τ)
  | .var i => match ρ[i]? with
    | some (.im d) => some (⟨.S, d⟩, τ)
    | some (.ow ds) => some (⟨.B, .list ds⟩, τ)
    | _ => none
  | .bin op a b => (ev ρ τ a).bind fun x => (ev ρ x.2 b).bind fun y => (binD op x.1.d y.1.d).map fun r => (r, y.2)
  | .neg a => (ev ρ τ a).bind fun x => (intOf x.1.d).map fun i => (⟨.S, .int (-i)⟩, x.2)
  | .cmp op a b => (ev ρ τ a).bind fun x => (ev ρ x.2 b).bind fun y => (cmpD op x.1.d y.1.d).map fun r => (⟨.S, .bool r⟩, y.2)
  | .chn o1 o2 a b c => (ev ρ τ a).bind fun x => (ev ρ x.2 b).bind fun y => (cmpD o1 x.1.d y.1.d).bind fun k =>
      if k then (ev ρ y.2 c).bind fun z => (cmpD o2 y.1.d z.1.d).map fun r => (⟨.S, .bool r⟩, z.2) else some (⟨.S, .bool false⟩, y.2)
  | .isN a => (ev ρ τ a).map fun x => (⟨.S, .bool (nonD x.1.d)⟩, x.2)
  | .notN a => (ev ρ τ a).map fun x => (⟨.S, .bool (!nonD x.1.d)⟩, x.2)
  | .isB a b => (ev ρ τ a).bind fun x => (ev ρ x.2 b).bind fun y => match x.1.d, y.1.d with
    | .bool i, .bool j => some (⟨.S, .bool (i == j)⟩, y.2)
    | _, _ => none
  | .notB a b => (ev ρ τ a).bind fun x => (ev ρ x.2 b).bind fun y => match x.1.d, y.1.d with
    | .bool i, .bool j => some (⟨.S, .bool (!(i == j))⟩, y.2)
    | _, _ => none
  | .con a b => (ev ρ τ a).bind fun x => match x.1.d with
    | .bool true => (ev ρ x.2 b).bind fun y => match y.1.d with
      | .bool k => some (⟨.S, .bool k⟩, y.2)
      | _ => none
    | .bool false => some (⟨.S, .bool false⟩, x.2)
    | _ => none
  | .dis a b => (ev ρ τ a).bind fun x => match x.1.d with
    | .bool false => (ev ρ x.2 b).bind fun y => match y.1.d with
      | .bool k => some (⟨.S, .bool k⟩, y.2)
      | _ => none
    | .bool true => some (⟨.S, .bool true⟩, x.2)
    | _ => none
  | .inv a => (ev ρ τ a).bind fun x => match x.1.d with
    | .bool k => some (⟨.S, .bool (!k)⟩, x.2)
    | _ => none
  | .tru a => (ev ρ τ a).bind fun x => (truD x.1.d).map fun k => (⟨.S, .bool k⟩, x.2)
  | .ite c a b => (ev ρ τ c).bind fun x => match x.1.d with
    | .bool true => ev ρ x.2 a
    | .bool false => ev ρ x.2 b
    | _ => none
  | .tup es => (evs ρ τ es).bind fun x => (x.1.mapM stb).bind fun ds => if shortL ds then some (⟨.S, .tuple ds⟩, x.2) else none
  | .lst es => (evs ρ τ es).bind fun x => (x.1.mapM stb).bind fun ds => if shortL ds then some (⟨.F, .list ds⟩, x.2) else none
  | .idx a b => (ev ρ τ a).bind fun x => (ev ρ x.2 b).bind fun y => (idxD x.1.d y.1.d).map fun r => (r, y.2)
  | .slc a lo hi => (ev ρ τ a).bind fun x => (ev ρ x.2 lo).bind fun y => (ev ρ y.2 hi).bind fun z =>
      (intOf y.1.d).bind fun i => (intOf z.1.d).bind fun j => (slcD x.1.d (some i) (some j)).map fun r => (r, z.2)
  | .slcL a lo => (ev ρ τ a).bind fun x => (ev ρ x.2 lo).bind fun y => (intOf y.1.d).bind fun i => (slcD x.1.d (some i) none).map fun r => (r, y.2)
  | .slcH a hi => (ev ρ τ a).bind fun x => (ev ρ x.2 hi).bind fun y => (intOf y.1.d).bind fun i => (slcD x.1.d none (some i)).map fun r => (r, y.2)
  | .slcA a => (ev ρ τ a).bind fun x => (slcD x.1.d none none).map fun r => (r, x.2)
  | .rev a => (ev ρ τ a).bind fun x => (revD x.1.d).map fun r => (r, x.2)
  | .call n es => (evs ρ τ es).bind fun x => (Φ n (x.1.map (·.d))).bind fun r => if clean r then some (r, x.2) else none
  | .callT n i es => match ρ[i]? with
    | some .tp => (evs ρ τ es).bind fun x => (Ψ n (x.1.map (·.d)) x.2).bind fun r => if clean r.1 then some r else none
    | _ => none
  | .blt b es => (evs ρ τ es).bind fun x => (bltD b (x.1.map (·.d))).map fun r => (r, x.2)
  | .comp elt tg k its cond => (evs ρ τ its).bind fun x => (itD k (x.1.map (·.d))).bind fun ds =>
      (compL (fun ρ τ => ev ρ τ elt) (fun ρ τ => evAll ρ τ cond) (wipeR ρ (tgVs tg)) tg ds x.2).bind fun y => if shortL y.1 then some (⟨.F, .list y.1⟩, y.2) else none
  | .ch3 o1 o2 o3 a b c d => (ev ρ τ a).bind fun x => (ev ρ x.2 b).bind fun y => (cmpD o1 x.1.d y.1.d).bind fun k =>
      if k then (ev ρ y.2 c).bind fun z => (cmpD o2 y.1.d z.1.d).bind fun k2 =>
        if k2 then (ev ρ z.2 d).bind fun w => (cmpD o3 z.1.d w.1.d).map fun r => (⟨.S, .bool r⟩, w.2) else some (⟨.S, .bool false⟩, z.2)
      else some (⟨.S, .bool false⟩, y.2)
def evs (ρ : Rho) (τ : Tp) : List E → Option (List R × Tp)
  | [] => some ([], τ)
  | e :: es => (ev ρ τ e).bind fun x => (evs ρ x.2 es).map fun y => (x.1 :: y.1, y.2)
/-- tests, one after another -/
def evAll (ρ : Rho) (τ : Tp) : List E → Option (Bool × Tp)
  | [] => some (true, τ)
  | e :: es => (ev ρ τ e).bind fun x => match x.1.d with
    | .bool true => evAll ρ x.2 es
    | .bool false => some (false, x.2)
    | _ => none
end
end
end Ev

/-! ## Ev2 -/
namespace Ev
open PySem PySem.Spec PyProof.Rows L2

inductive Out where
  | nx (ρ : Rho) (τ : Tp)
  | bk (ρ : Rho) (τ : Tp)
  | ct (ρ : Rho) (τ : Tp)
  | rt (r : R) (τ : Tp)

/-- a slot takes an answer -/
def putR (ρ : Rho) (i : Nat) (r : R) : Option Rho := match r with
  | ⟨.S, d⟩ => some (ρ.set i (.im d))
  | ⟨.F, .list ds⟩ => some (ρ.set i (.ow ds))
  | _ => none
def putTg (ρ : Rho) : Tg → R → Option Rho
  | .nm i, r => putR ρ i r
  | .tu is, ⟨_, .tuple ds⟩ => setsD ρ is ds
  | _, _ => none
def augD : Bo → D → D → Option D
  | .add, .int i, .int j => some (.int (i + j))
  | .sub, .int i, .int j => some (.int (i - j))
  | .mul, .int i, .int j => if mulFits i j then some (.int (i * j)) else none
  | .fdiv, .int i, .int j => if divFits j && decide (0 < j) then some (.int (i.fdiv j)) else none
  | .mod, .int i, .int j => if decide (0 < j) then some (.int (i.fmod j)) else none
  | _, _, _ => none
def forL (f : Rho → Tp → Option Out) (tg : Tg) : List D → Rho → Tp → Option Out
  | [], ρ, τ => some (.nx ρ τ)
  | d :: ds, ρ, τ => (tgD ρ tg d).bind fun ρ1 => (f ρ1 τ).bind fun o => match o with
    | .nx ρ2 τ2 => forL f tg ds ρ2 τ2
    | .ct ρ2 τ2 => forL f tg ds ρ2 τ2
    | .bk ρ2 τ2 => some (.nx ρ2 τ2)
    | .rt r τ2 => some (.rt r τ2)
def whL (c : Rho → Tp → Option (R × Tp)) (f : Rho → Tp → Option Out) : Nat → Rho → Tp → Option Out
  | 0, _, _ => none
  | n + 1, ρ, τ => (c ρ τ).bind fun x => match x.1.d with
    | .bool true => (f ρ x.2).bind fun o => match o with
      | .nx ρ2 τ2 => whL c f n ρ2 τ2
      | .ct ρ2 τ2 => whL c f n ρ2 τ2
      | .bk ρ2 τ2 => some (.nx ρ2 τ2)
      | .rt r τ2 => some (.rt r τ2)
    | .bool false => some (.nx ρ x.2)
    | _ => none
section
variable (Φ : Nat → List D → Option R) (Ψ : Nat → List D → Tp → Option (R × Tp)) (N : Nat)
mutual
def evS (ρ : Rho) (τ : Tp) : S → Option Out
  | .set tg e => (ev Φ Ψ ρ τ e).bind fun x => (putTg ρ tg x.1).map fun ρ1 => .nx ρ1 x.2
  | .par2 i j a b => (ev Φ Ψ ρ τ a).bind fun x => (ev Φ Ψ ρ x.2 b).bind fun y =>
      (stb x.1).bind fun v => (stb y.1).map fun w => .nx ((ρ.set i (.im v)).set j (.im w)) y.2
  | .par3 i j l a b c => (ev Φ Ψ ρ τ a).bind fun x => (ev Φ Ψ ρ x.2 b).bind fun y => (ev Φ Ψ ρ y.2 c).bind fun z =>
      (stb x.1).bind fun v => (stb y.1).bind fun w => (stb z.1).map fun u => .nx (((ρ.set i (.im v)).set j (.im w)).set l (.im u)) z.2
  | .aug i op e => match ρ[i]? with
    | some (.im d) => (ev Φ Ψ ρ τ e).bind fun x => (augD op d x.1.d).map fun r => .nx (ρ.set i (.im r)) x.2
    | _ => none
  | .app i e => match ρ[i]? with
    | some (.ow ds) => (ev Φ Ψ ρ τ e).bind fun x => (stb x.1).bind fun d => if shortL ds then some (.nx (ρ.set i (.ow (ds ++ [d]))) x.2) else none
    | _ => none
  | .ext i e => match ρ[i]? with
    | some (.ow ds) => (ev Φ Ψ ρ τ e).bind fun x => match x.1.d with
      | .list es => if shortL (ds ++ es) then some (.nx (ρ.set i (.ow (ds ++ es))) x.2) else none
      | _ => none
    | _ => none
  | .pop i => match ρ[i]? with
    | some (.ow ds) => if ds.isEmpty then none else some (.nx (ρ.set i (.ow ds.dropLast)) τ)
    | _ => none
  | .popt tg i => match ρ[i]? with
    | some (.ow ds) => match ds.getLast? with
      | some d => (tgD (ρ.set i (.ow ds.dropLast)) tg d).map fun ρ1 => .nx ρ1 τ
      | none => none
    | _ => none
  | .mov i j => match ρ[j]? with
    | some (.im d) => some (.nx (ρ.set i (.im d)) τ)
    | some (.ow ds) => some (.nx ((ρ.set j .un).set i (.ow ds)) τ)
    | _ => none
  | .sti i ix e => (ev Φ Ψ ρ τ e).bind fun x => (stb x.1).bind fun d => match ρ[i]? with
    | some (.ow ds) => (ev Φ Ψ ρ x.2 ix).bind fun y => (intOf y.1.d).bind fun k => (ixN ds.length k).map fun j => .nx (ρ.set i (.ow (ds.set j d))) y.2
    | _ => none
  | .ret e => (ev Φ Ψ ρ τ e).bind fun x => match x.1.k with
    | .B => none
    | _ => some (.rt x.1 x.2)
  | .retv i => match ρ[i]? with
    | some (.im d) => some (.rt ⟨.S, d⟩ τ)
    | some (.ow ds) => some (.rt ⟨.F, .list ds⟩ τ)
    | _ => none
  | .retn => some (.rt ⟨.S, .none⟩ τ)
  | .ite c a b => (ev Φ Ψ ρ τ c).bind fun x => match x.1.d with
    | .bool true => evSs ρ x.2 a
    | .bool false => evSs ρ x.2 b
    | _ => none
  | .whl c b => whL (fun ρ τ => ev Φ Ψ ρ τ c) (fun ρ τ => evSs ρ τ b) N ρ τ
  | .for_ tg k its b => (evs Φ Ψ ρ τ its).bind fun x => (itD k (x.1.map (·.d))).bind fun ds => if x.1.any (fun r => r.k == .B) then none else forL (fun ρ τ => evSs ρ τ b) tg ds ρ x.2
  | .forv tg i b => match ρ[i]? with
    | some (.ow ds) => forL (fun ρ τ => evSs ρ τ b) tg ds (ρ.set i (.im (.list ds))) τ
    | some (.im d) => (itD 0 [d]).bind fun ds => forL (fun ρ τ => evSs ρ τ b) tg ds ρ τ
    | _ => none
  | .brk => some (.bk ρ τ)
  | .cnt => some (.ct ρ τ)
  | .pas => some (.nx ρ τ)
  | .exp e => (ev Φ Ψ ρ τ e).map fun x => .nx ρ x.2
  | .nev => none
def evSs (ρ : Rho) (τ : Tp) : List S → Option Out
  | [] => some (.nx ρ τ)
  | s :: ss => (evS ρ τ s).bind fun o => match o with
    | .nx ρ1 τ1 => evSs ρ1 τ1 ss
    | o => some o
end
end

/-! ### what a value stands for -/
mutual
def Rp (K : PySem.W.Frag) (H : Hp) (v : V) : D → Prop
  | .none => v = .non
  | .bool b => v = .bl b
  | .int i => v = .int i
  | .str x => v = .str x
  | .list ds => ∃ p vs, v = .ref p ∧ H p = some (.lst vs) ∧ RpAll K H vs ds
  | .tuple ds => ∃ p vs, v = .ref p ∧ SqT K H p vs ∧ RpAll K H vs ds
  | .dict _ => False
def RpAll (K : PySem.W.Frag) (H : Hp) (vs : List V) : List D → Prop
  | [] => vs = []
  | d :: ds => ∃ x r, vs = x :: r ∧ Rp K H x d ∧ RpAll K H r ds
end
section
variable {K : PySem.W.Frag} {S S' H H' : Hp}
theorem Same.seqT {a : Addr} {xs : List V} (e : Same H H') (h : SqT K H a xs) : SqT K H' a xs := by
  rcases h with (h | ⟨o, h⟩) | h
  · exact .inl (.inl (e _ _ h))
  · exact .inl (.inr ⟨o, e _ _ h⟩)
  · exact .inr h
mutual
theorem Rp.mono (e : Same H H') : ∀ (d : D) {v : V}, Rp K H v d → Rp K H' v d
  | .none, _, h => h
  | .bool _, _, h => h
  | .int _, _, h => h
  | .str _, _, h => h
  | .list ds, _, ⟨p, vs, e1, e2, e3⟩ => ⟨p, vs, e1, e _ _ e2, RpAll.mono e ds e3⟩
  | .tuple ds, _, ⟨p, vs, e1, e2, e3⟩ => ⟨p, vs, e1, Same.seqT e e2, RpAll.mono e ds e3⟩
  | .dict _, _, h => h
theorem RpAll.mono (e : Same H H') : ∀ (ds : List D) {vs : List V}, RpAll K H vs ds → RpAll K H' vs ds
  | [], _, h => h
  | d :: ds, _, ⟨x, r, e1, e2, e3⟩ => ⟨x, r, e1, Rp.mono e d e2, RpAll.mono e ds e3⟩
end
mutual
theorem Rp.dp : ∀ (d : D) {v : V}, Rp K H v d → Dp K H v d
  | .none, _, h => by cases h; exact .non
  | .bool _, _, h => by cases h; exact .bl _
  | .int _, _, h => by cases h; exact .int _
  | .str _, _, h => by cases h; exact .str _
  | .list ds, _, ⟨p, vs, e1, e2, e3⟩ => by subst e1; exact .lst (SqL.of e2) (RpAll.dp ds e3)
  | .tuple ds, _, ⟨p, vs, e1, e2, e3⟩ => by subst e1; exact .tup e2 (RpAll.dp ds e3)
  | .dict _, _, h => h.elim
theorem RpAll.dp : ∀ (ds : List D) {vs : List V}, RpAll K H vs ds → DpAll K H vs ds
  | [], _, h => by cases h; exact .nil
  | d :: ds, _, ⟨x, r, e1, e2, e3⟩ => by subst e1; exact .cons (Rp.dp d e2) (RpAll.dp ds e3)
end
theorem RpAll.length : ∀ {ds : List D} {vs : List V}, RpAll K H vs ds → vs.length = ds.length
  | [], _, h => by cases h; rfl
  | d :: ds, _, ⟨x, r, e1, e2, e3⟩ => by subst e1; simp [RpAll.length e3]
theorem RpAll.append : ∀ {ds es : List D} {vs ws : List V}, RpAll K H vs ds → RpAll K H ws es → RpAll K H (vs ++ ws) (ds ++ es)
  | [], _, _, _, h, g => by cases h; exact g
  | d :: ds, _, _, _, ⟨x, r, e1, e2, e3⟩, g => by subst e1; exact ⟨x, r ++ _, rfl, e2, RpAll.append e3 g⟩
theorem RpAll.split : ∀ {ds es : List D} {vs : List V}, RpAll K H vs (ds ++ es) → ∃ v1 v2, vs = v1 ++ v2 ∧ RpAll K H v1 ds ∧ RpAll K H v2 es
  | [], _, vs, h => ⟨[], vs, rfl, rfl, h⟩
  | d :: ds, _, _, ⟨x, r, e1, e2, e3⟩ => by
    obtain ⟨v1, v2, f1, f2, f3⟩ := RpAll.split e3
    exact ⟨x :: v1, v2, by rw [e1, f1]; rfl, ⟨x, v1, rfl, e2, f2⟩, f3⟩
theorem RpAll.get : ∀ {ds : List D} {vs : List V} {i : Nat} {d : D}, RpAll K H vs ds → ds[i]? = some d → ∃ v, vs[i]? = some v ∧ Rp K H v d
  | [], _, _, _, _, e => by simp at e
  | d :: ds, _, 0, _, ⟨x, r, e1, e2, e3⟩, e => by
    simp at e
    subst e e1
    exact ⟨x, rfl, e2⟩
  | d :: ds, _, i + 1, _, ⟨x, r, e1, e2, e3⟩, e => by
    subst e1
    obtain ⟨v, h1, h2⟩ := RpAll.get (i := i) e3 (by simpa using e)
    exact ⟨v, by simpa using h1, h2⟩
theorem RpAll.drop : ∀ {ds : List D} {vs : List V} (n : Nat), RpAll K H vs ds → RpAll K H (vs.drop n) (ds.drop n)
  | ds, vs, 0, h => by simpa using h
  | [], _, n + 1, h => by cases h; exact rfl
  | d :: ds, _, n + 1, ⟨x, r, e1, e2, e3⟩ => by subst e1; exact RpAll.drop n e3
theorem RpAll.take : ∀ {ds : List D} {vs : List V} (n : Nat), RpAll K H vs ds → RpAll K H (vs.take n) (ds.take n)
  | ds, vs, 0, h => by simp [RpAll]
  | [], _, n + 1, h => by cases h; exact rfl
  | d :: ds, _, n + 1, ⟨x, r, e1, e2, e3⟩ => by subst e1; exact ⟨x, _, rfl, e2, RpAll.take n e3⟩
theorem RpAll.set : ∀ {ds : List D} {vs : List V} {d : D} {v : V} (j : Nat), RpAll K H vs ds → Rp K H v d → RpAll K H (vs.set j v) (ds.set j d)
  | [], _, _, _, _, h, _ => by cases h; exact rfl
  | d :: ds, _, _, _, 0, ⟨x, r, e1, e2, e3⟩, g => by subst e1; exact ⟨_, r, rfl, g, e3⟩
  | d :: ds, _, _, _, j + 1, ⟨x, r, e1, e2, e3⟩, g => by subst e1; exact ⟨x, _, rfl, e2, RpAll.set j e3 g⟩
theorem RpAll.reverse : ∀ {ds : List D} {vs : List V}, RpAll K H vs ds → RpAll K H vs.reverse ds.reverse
  | [], _, h => by cases h; exact rfl
  | d :: ds, _, ⟨x, r, e1, e2, e3⟩ => by
    subst e1
    rw [List.reverse_cons, List.reverse_cons]
    exact RpAll.append (RpAll.reverse e3) ⟨x, [], rfl, e2, rfl⟩
theorem RpAll.rep {ds : List D} {vs : List V} (h : RpAll K H vs ds) : ∀ k : Nat, RpAll K H (List.replicate k vs).flatten (List.replicate k ds).flatten
  | 0 => rfl
  | k + 1 => by
    rw [List.replicate_succ, List.replicate_succ, List.flatten_cons, List.flatten_cons]
    exact RpAll.append h (RpAll.rep h k)
theorem RpAll.ints : ∀ {ds : List D} {ns : List Int} {vs : List V}, intsOf ds = some ns → RpAll K H vs ds → vs = ns.map V.int
  | [], ns, _, e, h => by
    cases h
    simp [intsOf] at e
    subst e
    rfl
  | d :: ds, ns, _, e, ⟨x, r, e1, e2, e3⟩ => by
    cases d <;> simp [intsOf] at e
    obtain ⟨ms, f1, f2⟩ := e
    subst f2 e1
    have e4 : x = V.int _ := e2
    rw [e4, RpAll.ints f1 e3]
    rfl
theorem RpAll.bools : ∀ {ds : List D} {ns : List Bool} {vs : List V}, boolsOf ds = some ns → RpAll K H vs ds → vs = ns.map V.bl
  | [], ns, _, e, h => by
    cases h
    simp [boolsOf] at e
    subst e
    rfl
  | d :: ds, ns, _, e, ⟨x, r, e1, e2, e3⟩ => by
    cases d <;> simp [boolsOf] at e
    obtain ⟨ms, f1, f2⟩ := e
    subst f2 e1
    have e4 : x = V.bl _ := e2
    rw [e4, RpAll.bools f1 e3]
    rfl
end
end Ev

/-! ## Ev3 -/
namespace Ev
open PySem PySem.Spec PyProof.Rows L2

/-- where the tape (the law's d) stands, and its cells -/
structure Ta where
  a : Option Addr
  b : Addr
def TapeAt (K : PySem.W.Frag) (S H : Hp) (a b : Addr) (τ : Tp) : Prop :=
  S a = none ∧ H a = some (.lst [.ref b, .int (τ.pos : Int), .int τ.cur, .int τ.seed]) ∧ SqL K S b (τ.cells.map V.int)
def TpOk (K : PySem.W.Frag) (ta : Ta) (S H : Hp) (τ : Tp) : Prop := ∀ a, ta.a = some a → TapeAt K S H a ta.b τ
/-- one step of the heap: S its stable part -/
structure Stp (K : PySem.W.Frag) (ta : Ta) (τ : Tp) (S H S' H' : Hp) : Prop where
  same : Same S S'
  sub : Same S' H'
  gro : ∀ b o, ta.a ≠ some b → H b = some o → H' b = some o
  nn : ∀ b xs, ta.a ≠ some b → H b = some (.lst xs) → S b = none → S' b = none
  tape : TpOk K ta S' H' τ
def SlOk (K : PySem.W.Frag) (ta : Ta) (S H : Hp) (w : Option V) : Sl → Prop
  | .un => True
  | .im d => ∃ v, w = some v ∧ Rp K S v d
  | .ow ds => ∃ p vs, w = some (.ref p) ∧ H p = some (.lst vs) ∧ S p = none ∧ RpAll K S vs ds ∧ ta.a ≠ some p
  | .tp => ∃ a, ta.a = some a ∧ w = some (.ref a)
structure Rel (K : PySem.W.Frag) (ta : Ta) (ρ : Rho) (S : Hp) (σ : L2.St) (H : Hp) : Prop where
  len : ρ.length = σ.length
  sub : Same S H
  slot : ∀ (i : Nat) (s : Sl), ρ[i]? = some s → SlOk K ta S H (σ[i]?.getD none) s
  dist : ∀ (i j : Nat) (di dj : List D) (p : Addr), ρ[i]? = some (.ow di) → ρ[j]? = some (.ow dj) → σ[i]? = some (some (.ref p)) → σ[j]? = some (some (.ref p)) → i = j
/-- an answer's value: at the end's stable part, heap; H the heap at the start -/
def RV (K : PySem.W.Frag) (ta : Ta) (S' H' H : Hp) (v : V) (r : R) : Prop := match r.k with
  | .S => Rp K S' v r.d
  | .F => ∃ p ds vs, r.d = .list ds ∧ v = .ref p ∧ H' p = some (.lst vs) ∧ S' p = none ∧ H p = none ∧ RpAll K S' vs ds
  | .B => ∃ p ds vs, r.d = .list ds ∧ v = .ref p ∧ H' p = some (.lst vs) ∧ RpAll K S' vs ds ∧ ta.a ≠ some p
/-- the same where a fresh list has been made stable -/
def UV (K : PySem.W.Frag) (ta : Ta) (S' H' : Hp) (v : V) (r : R) : Prop := match r.k with
  | .B => ∃ p ds vs, r.d = .list ds ∧ v = .ref p ∧ H' p = some (.lst vs) ∧ RpAll K S' vs ds ∧ ta.a ≠ some p
  | _ => Rp K S' v r.d
def UVs (K : PySem.W.Frag) (ta : Ta) (S' H' : Hp) : List V → List R → Prop
  | [], [] => True
  | v :: vs, r :: rs => UV K ta S' H' v r ∧ UVs K ta S' H' vs rs
  | _, _ => False

section
variable {K : PySem.W.Frag} {ta : Ta} {τ τ1 τ2 : Tp} {S S1 S2 H H1 H2 : Hp} {ρ : Rho} {σ : L2.St} {v : V} {r : R}

theorem Stp.refl (h1 : Same S H) (t : TpOk K ta S H τ) : Stp K ta τ S H S H := ⟨Same.refl _, h1, fun _ _ _ h => h, fun _ _ _ _ h => h, t⟩
theorem Stp.trans (a : Stp K ta τ1 S H S1 H1) (b : Stp K ta τ2 S1 H1 S2 H2) : Stp K ta τ2 S H S2 H2 :=
  ⟨a.same.trans b.same, b.sub, fun c o n h => b.gro c o n (a.gro c o n h), fun c xs n h z => b.nn c xs n (a.gro c _ n h) (a.nn c xs n h z), b.tape⟩
/-- a free place was free at the start -/
theorem Stp.free (a : Stp K ta τ S H S1 H1) {p : Addr} (n : H1 p = none) : H p = none := by
  cases q : H p with
  | none => rfl
  | some o =>
    by_cases e : ta.a = some p
    · obtain ⟨_, h, _⟩ := a.tape p e
      rw [n] at h; cases h
    · have := a.gro p o e q
      rw [n] at this; cases this
theorem Stp.free' (a : Stp K ta τ S H S1 H1) {p : Addr} (n : H1 p = none) : S1 p = none := by
  cases q : S1 p with
  | none => rfl
  | some o => have := a.sub _ _ q; rw [n] at this; cases this
theorem Stp.nta (a : Stp K ta τ S H S1 H1) {p : Addr} (n : H1 p = none) : ta.a ≠ some p := fun e => by
  obtain ⟨_, h, _⟩ := a.tape p e
  rw [n] at h; cases h
theorem same_upd {S : Hp} {p : Addr} {o : HO} (h : S p = none) : Same S (upd S p o) := fun b x e => by
  rw [upd_ne (ne_of_none e h)]; exact e
theorem upd_sub {p : Addr} {o : HO} (s : Same S H) : Same (upd S p o) (upd H p o) := fun b x e => by
  by_cases h : b = p
  · subst h; rw [upd_same] at e ⊢; exact e
  · rw [upd_ne h] at e ⊢; exact s _ _ e
theorem TapeAt.mono {a b : Addr} (t : TapeAt K S H a b τ) (s : Same S S1) (n : S1 a = none) (h : H1 a = H a) : TapeAt K S1 H1 a b τ := by
  obtain ⟨_, e, q⟩ := t
  exact ⟨n, by rw [h]; exact e, s.seq q⟩
/-- a new stable object -/
theorem Stp.newS {p : Addr} {o : HO} (a : Stp K ta τ S H S1 H1) (n : H1 p = none) (nl : ∀ xs, o = .lst xs → True) : Stp K ta τ S H (upd S1 p o) (upd H1 p o) := by
  have n1 := a.free' n
  refine ⟨a.same.trans (same_upd n1), upd_sub a.sub, fun b x nt e => ?_, fun b xs nt e z => ?_, fun b e => ?_⟩
  · have := a.gro b x nt e
    rw [upd_ne (ne_of_none this n)]; exact this
  · have := a.gro b _ nt e
    rw [upd_ne (ne_of_none this n)]; exact a.nn b xs nt e z
  · have nb : b ≠ p := fun q => a.nta n (q ▸ e)
    exact (a.tape b e).mono (same_upd n1) (by rw [upd_ne nb]; exact (a.tape b e).1) (upd_ne nb)
/-- a new list that no one holds -/
theorem Stp.newL {p : Addr} {o : HO} (a : Stp K ta τ S H S1 H1) (n : H1 p = none) : Stp K ta τ S H S1 (upd H1 p o) := by
  refine ⟨a.same, fun b x e => ?_, fun b x nt e => ?_, a.nn, fun b e => ?_⟩
  · have := a.sub b x e
    rw [upd_ne (ne_of_none this n)]; exact this
  · have := a.gro b x nt e
    rw [upd_ne (ne_of_none this n)]; exact this
  · have nb : b ≠ p := fun q => a.nta n (q ▸ e)
    exact (a.tape b e).mono (Same.refl _) (a.tape b e).1 (upd_ne nb)
/-- a fresh list is made stable -/
theorem Stp.freeze {p : Addr} {vs : List V} (a : Stp K ta τ S H S1 H1) (h : H1 p = some (.lst vs)) (n : S1 p = none) (n0 : H p = none) (nt : ta.a ≠ some p) : Stp K ta τ S H (upd S1 p (.lst vs)) H1 := by
  refine ⟨a.same.trans (same_upd n), fun b x e => ?_, a.gro, fun b xs nt e z => ?_, fun b e => ?_⟩
  · by_cases hb : b = p
    · subst hb; rw [upd_same] at e; cases e; exact h
    · rw [upd_ne hb] at e; exact a.sub _ _ e
  · rw [upd_ne (ne_of_none e n0)]; exact a.nn b xs nt e z
  · have nb : b ≠ p := fun q => nt (q ▸ e)
    exact (a.tape b e).mono (same_upd n) (by rw [upd_ne nb]; exact (a.tape b e).1) rfl
theorem Stp.ntaF (a : Stp K ta τ S H S1 H1) {p : Addr} {τ0 : Tp} (t : TpOk K ta S H τ0) (n0 : H p = none) : ta.a ≠ some p := fun e => by
  obtain ⟨_, h, _⟩ := t p e
  rw [n0] at h; cases h
theorem Rel.step (R : Rel K ta ρ S σ H) (a : Stp K ta τ S H S1 H1) : Rel K ta ρ S1 σ H1 := by
  refine ⟨R.len, a.sub, fun i s e => ?_, R.dist⟩
  have h := R.slot i s e
  cases s with
  | un => trivial
  | im d => obtain ⟨v, e1, e2⟩ := h; exact ⟨v, e1, Rp.mono a.same d e2⟩
  | ow ds => obtain ⟨p, vs, e1, e2, e3, e4, e5⟩ := h; exact ⟨p, vs, e1, a.gro _ _ e5 e2, a.nn _ _ e5 e2 e3, RpAll.mono a.same ds e4, e5⟩
  | tp => exact h
theorem RV.uv {τ0 : Tp} (t : TpOk K ta S H τ0) (a : Stp K ta τ S H S1 H1) (h : RV K ta S1 H1 H v r) : ∃ S2, Stp K ta τ S H S2 H1 ∧ UV K ta S2 H1 v r := by
  obtain ⟨k, d⟩ := r
  cases k with
  | S => exact ⟨S1, a, h⟩
  | B => exact ⟨S1, a, h⟩
  | F =>
    obtain ⟨p, ds, vs, e1, e2, e3, e4, e5, e6⟩ := h
    refine ⟨upd S1 p (.lst vs), a.freeze e3 e4 e5 (a.ntaF t e5), ?_⟩
    have e1' : d = .list ds := e1
    subst e1'
    exact ⟨p, vs, e2, upd_same, RpAll.mono (same_upd e4) ds e6⟩
theorem UV.mono (h : UV K ta S1 H1 v r) (a : Stp K ta τ S1 H1 S2 H2) : UV K ta S2 H2 v r := by
  obtain ⟨k, d⟩ := r
  cases k with
  | S => exact Rp.mono a.same d h
  | F => exact Rp.mono a.same d h
  | B =>
    obtain ⟨p, ds, vs, e1, e2, e3, e4, e5⟩ := h
    exact ⟨p, ds, vs, e1, e2, a.gro _ _ e5 e3, RpAll.mono a.same ds e4, e5⟩
theorem UVs.mono (a : Stp K ta τ S1 H1 S2 H2) : ∀ {vs : List V} {rs : List R}, UVs K ta S1 H1 vs rs → UVs K ta S2 H2 vs rs
  | [], [], _ => trivial
  | v :: vs, r :: rs, ⟨h1, h2⟩ => ⟨h1.mono a, UVs.mono a h2⟩
  | [], _ :: _, h => h.elim
  | _ :: _, [], h => h.elim
/-- it is readable in the heap -/
theorem UV.rp (h : UV K ta S1 H1 v r) (s : Same S1 H1) : Rp K H1 v r.d := by
  obtain ⟨k, d⟩ := r
  cases k with
  | S => exact Rp.mono s d h
  | F => exact Rp.mono s d h
  | B =>
    obtain ⟨p, ds, vs, e1, e2, e3, e4, e5⟩ := h
    have e1' : d = .list ds := e1
    subst e1'
    exact ⟨p, vs, e2, e3, RpAll.mono s ds e4⟩
/-- what is no list is stable -/
theorem UV.st (h : UV K ta S1 H1 v r) (hs : stb r = some d) : Rp K S1 v d := by
  obtain ⟨k, d'⟩ := r
  cases k with
  | S => cases hs; exact h
  | F => cases hs; exact h
  | B => cases hs
/-- a list's items are stable -/
theorem UV.lst {ds : List D} (h : UV K ta S1 H1 v r) (s : Same S1 H1) (e : r.d = .list ds) : ∃ p vs, v = .ref p ∧ H1 p = some (.lst vs) ∧ RpAll K S1 vs ds := by
  obtain ⟨k, d⟩ := r
  have e' : d = .list ds := e
  subst e'
  cases k with
  | S => obtain ⟨p, vs, e1, e2, e3⟩ := h; exact ⟨p, vs, e1, s _ _ e2, e3⟩
  | F => obtain ⟨p, vs, e1, e2, e3⟩ := h; exact ⟨p, vs, e1, s _ _ e2, e3⟩
  | B =>
    obtain ⟨p, ds', vs, e1, e2, e3, e4, e5⟩ := h
    cases e1
    exact ⟨p, vs, e2, e3, e4⟩
theorem UV.nl (h : UV K ta S1 H1 v r) (e : ∀ ds, r.d ≠ .list ds) : Rp K S1 v r.d := by
  obtain ⟨k, d⟩ := r
  cases k with
  | S => exact h
  | F => exact h
  | B =>
    obtain ⟨p, ds', vs, e1, _⟩ := h
    exact absurd e1 (e _)
theorem UV.int {i : Int} (h : UV K ta S1 H1 v r) (e : r.d = .int i) : v = .int i := by
  have q := h.nl (fun ds z => by rw [e] at z; cases z)
  rw [e] at q
  exact q
theorem UV.bool {i : Bool} (h : UV K ta S1 H1 v r) (e : r.d = .bool i) : v = .bl i := by
  have q := h.nl (fun ds z => by rw [e] at z; cases z)
  rw [e] at q
  exact q
theorem UV.tup {ds : List D} (h : UV K ta S1 H1 v r) (e : r.d = .tuple ds) : ∃ p vs, v = .ref p ∧ SqT K S1 p vs ∧ RpAll K S1 vs ds := by
  have q := h.nl (fun ds z => by rw [e] at z; cases z)
  rw [e] at q
  exact q
theorem UVs.length : ∀ {vs : List V} {rs : List R}, UVs K ta S1 H1 vs rs → vs.length = rs.length
  | [], [], _ => rfl
  | v :: vs, r :: rs, ⟨_, h2⟩ => by simp [UVs.length h2]
  | [], _ :: _, h => h.elim
  | _ :: _, [], h => h.elim
theorem UVs.rp (s : Same S1 H1) : ∀ {vs : List V} {rs : List R}, UVs K ta S1 H1 vs rs → RpAll K H1 vs (rs.map (·.d))
  | [], [], _ => rfl
  | v :: vs, r :: rs, ⟨h1, h2⟩ => ⟨v, vs, rfl, h1.rp s, UVs.rp s h2⟩
  | [], _ :: _, h => h.elim
  | _ :: _, [], h => h.elim
theorem UVs.st : ∀ {vs : List V} {rs : List R} {ds : List D}, UVs K ta S1 H1 vs rs → rs.mapM stb = some ds → RpAll K S1 vs ds
  | [], [], ds, _, e => by
    have e' : ds = [] := by simpa using e.symm
    subst e'
    rfl
  | v :: vs, r :: rs, ds, ⟨h1, h2⟩, e => by
    rw [List.mapM_cons] at e
    cases q : stb r with
    | none => rw [q] at e; cases e
    | some d =>
      rw [q] at e
      cases q2 : rs.mapM stb with
      | none => rw [q2] at e; cases e
      | some es =>
        rw [q2] at e
        have e' : d :: es = ds := Option.some.inj e
        subst e'
        exact ⟨v, vs, rfl, h1.st q, UVs.st h2 q2⟩
  | [], _ :: _, _, h, _ => h.elim
  | _ :: _, [], _, h, _ => h.elim
end

/-! ### readings -/
section
variable (K : PySem.W.Frag) (ta : Ta) (Φ : Nat → List D → Option R) (Ψ : Nat → List D → Tp → Option (R × Tp)) (N : Nat)
def tE (c : E) : TE := fun σ H Q => ∃ S ρ τ r τ', Rel K ta ρ S σ H ∧ TpOk K ta S H τ ∧ ev Φ Ψ ρ τ c = some (r, τ') ∧ ∀ v S' H', Stp K ta τ' S H S' H' → RV K ta S' H' H v r → Q v H'
def tU (c : E) : TE := fun σ H Q => ∃ S ρ τ r τ', Rel K ta ρ S σ H ∧ TpOk K ta S H τ ∧ ev Φ Ψ ρ τ c = some (r, τ') ∧ ∀ v S' H', Stp K ta τ' S H S' H' → UV K ta S' H' v r → Q v H'
def tT (c : E) : TT := fun σ H Q => ∃ S ρ τ r τ' b, Rel K ta ρ S σ H ∧ TpOk K ta S H τ ∧ ev Φ Ψ ρ τ c = some (r, τ') ∧ r.d = .bool b ∧ ∀ S' H', Stp K ta τ' S H S' H' → Q b H'
def tAs (cs : List E) : TA := fun σ H Q => ∃ S ρ τ rs τ', Rel K ta ρ S σ H ∧ TpOk K ta S H τ ∧ evs Φ Ψ ρ τ cs = some (rs, τ') ∧ ∀ vs S' H', Stp K ta τ' S H S' H' → UVs K ta S' H' vs rs → Q vs H'
end
section
variable {X : Cx} {K : PySem.W.Frag} {ta : Ta} {Φ : Nat → List D → Option R} {Ψ : Nat → List D → Tp → Option (R × Tp)} {e a b c : Expr} {ca cb cc : E}
theorem PE.weak {t t' : TE} (h : PE X e t) (w : ∀ σ H Q, t' σ H Q → t σ H Q) : PE X e t' := ⟨fun pins s σ H Q I q => h.run pins s σ H Q I (w _ _ _ q)⟩
theorem PT.weak {t t' : TT} (h : PT X e t) (w : ∀ σ H Q, t' σ H Q → t σ H Q) : PT X e t' := ⟨fun pins s σ H Q I q => h.run pins s σ H Q I (w _ _ _ q)⟩
theorem PW.weak {t t' : TT} (h : PW X e t) (w : ∀ σ H Q, t' σ H Q → t σ H Q) : PW X e t' := ⟨fun wh pins s σ H Q I q => h.run wh pins s σ H Q I (w _ _ _ q)⟩
theorem PA.weak {es : List Expr} {t t' : TA} (h : PA X es t) (w : ∀ σ H Q, t' σ H Q → t σ H Q) : PA X es t' := ⟨fun pos pins s σ H Q I q => h.run pos pins s σ H Q I (w _ _ _ q)⟩
theorem PS.weak {st : Stmt} {t t' : TS} (h : PS X st t) (w : ∀ D σ H, t' D σ H → t D σ H) : PS X st t' := ⟨fun pins s σ H D I q => h.run pins s σ H D I (w _ _ _ q)⟩
theorem PSs.weak {st : List Stmt} {t t' : TS} (h : PSs X st t) (w : ∀ D σ H, t' D σ H → t D σ H) : PSs X st t' := ⟨fun pins s σ H D I q => h.run pins s σ H D I (w _ _ _ q)⟩
theorem _root_.L2.PE.use (h : PE X e (tE K ta Φ Ψ ca)) : PE X e (tU K ta Φ Ψ ca) := PE.weak h fun σ H Q ⟨S, ρ, τ, r, τ', h1, h2, h3, h4⟩ =>
  ⟨S, ρ, τ, r, τ', h1, h2, h3, fun v S' H' st rv => by
    obtain ⟨S2, st2, uv⟩ := rv.uv h2 st
    exact h4 v S2 H' st2 uv⟩
end
end Ev

/-! ## Ev4 -/
namespace Ev
open PySem PySem.Spec PyProof.Rows L2

/-- what is wanted of an answer r -/
def Post (K : PySem.W.Frag) (ta : Ta) (S H : Hp) (τ : Tp) (r : R) (Q : VK) : Prop := ∀ v S' H', Stp K ta τ S H S' H' → RV K ta S' H' H v r → Q v H'
section
variable {K : PySem.W.Frag} {ta : Ta} {τ τ1 τ2 : Tp} {S S1 S2 H H1 H2 : Hp} {ρ : Rho} {σ : L2.St} {v : V} {r : R} {Q : VK}
theorem RV.back {S' H' : Hp} (a : Stp K ta τ S H S1 H1) (h : RV K ta S' H' H1 v r) : RV K ta S' H' H v r := by
  obtain ⟨k, d⟩ := r
  cases k with
  | S => exact h
  | B => exact h
  | F =>
    obtain ⟨p, ds, vs, e1, e2, e3, e4, e5, e6⟩ := h
    exact ⟨p, ds, vs, e1, e2, e3, e4, a.free e5, e6⟩
theorem Post.later (p : Post K ta S H τ2 r Q) (a : Stp K ta τ1 S H S1 H1) : Post K ta S1 H1 τ2 r Q := fun v S' H' st rv => p v S' H' (a.trans st) (rv.back a)
theorem Post.here {d : D} (p : Post K ta S H τ ⟨.S, d⟩ Q) (s : Same S H) (t : TpOk K ta S H τ) (h : Rp K S v d) : Q v H := p v S H (Stp.refl s t) h
theorem Post.tup {zs : List V} {ds : List D} (p : Post K ta S H τ ⟨.S, .tuple ds⟩ Q) (s : Same S H) (t : TpOk K ta S H τ) (h : RpAll K S zs ds) {q : Addr} (n : H q = none) : Q (.ref q) (upd H q (.tup zs)) := by
  have st := Stp.refl s t
  have n1 := st.free' n
  exact p _ _ _ (st.newS n fun _ _ => trivial) ⟨q, zs, rfl, SqT.of upd_same, RpAll.mono (same_upd n1) ds h⟩
theorem Post.lst {zs : List V} {ds : List D} (p : Post K ta S H τ ⟨.F, .list ds⟩ Q) (s : Same S H) (t : TpOk K ta S H τ) (h : RpAll K S zs ds) {q : Addr} (n : H q = none) : Q (.ref q) (upd H q (.lst zs)) := by
  have st := Stp.refl s t
  exact p _ _ _ (st.newL n) ⟨q, ds, zs, rfl, rfl, upd_same, st.free' n, n, h⟩
end

/-! ### operators -/
def boO : Bo → Operator
  | .add => .Add | .sub => .Sub | .mul => .Mult | .fdiv => .FloorDiv | .mod => .Mod | .pow => .Pow
def coO : Co → CmpOp
  | .eq => .Eq | .ne => .NotEq | .lt => .Lt | .le => .LtE | .gt => .Gt | .ge => .GtE | .isin => .In | .notin => .NotIn
/-- two answers' values and what is wanted of the result -/
def rTwo (K : PySem.W.Frag) (ta : Ta) (f : D → D → Option R) : R2 := fun x y H Q => ∃ S τ r1 r2 r, Same S H ∧ TpOk K ta S H τ ∧ UV K ta S H x r1 ∧ UV K ta S H y r2 ∧ f r1.d r2.d = some r ∧ Post K ta S H τ r Q
section
variable {X : Cx} {ta : Ta}
theorem len_of {n : Nat} (h : n < 16777216) : n ≤ sizeLine := by rw [sizeLine_eq]; omega
theorem lt_of {n : Nat} (h : n < 16777216) : n < sizeLine := by rw [sizeLine_eq]; omega
theorem op_fdivG : OpR X (binaryOp .FloorDiv) (rI (fun _ j => j ≠ 0 ∧ j.natAbs.log2 < 9000) fun i j => .int (i.fdiv j)) := opI fun _ _ _ _ _ _ _ hc q => floordiv_int hc.1 q (.inl (PyProof.noPylong_of_log2 hc.2))
theorem bo_run (op : Bo) : OpR X (binaryOp (boO op)) (rTwo X.K ta (binD op)) := by
  intro pins s σ H x y v u Q I rx ry ⟨S, τ, r1, r2, r, hs, ht, u1, u2, e, p⟩
  have isI : ∀ {i j : Int}, r1.d = .int i → r2.d = .int j → x = .int i ∧ y = .int j := fun e1 e2 => ⟨u1.int e1, u2.int e2⟩
  cases q1 : r1.d with
  | none => rw [q1] at e; cases op <;> simp [binD] at e
  | bool _ => rw [q1] at e; cases op <;> simp [binD] at e
  | str _ => rw [q1] at e; cases op <;> simp [binD] at e
  | dict _ => rw [q1] at e; cases op <;> simp [binD] at e
  | int i =>
    cases q2 : r2.d with
    | int j =>
      obtain ⟨rfl, rfl⟩ := isI q1 q2
      rw [q1, q2] at e
      cases op with
      | add => simp only [binD, Option.some.injEq] at e; subst e; exact op_add pins s σ H _ _ v u Q I rx ry ⟨i, j, rfl, rfl, p.here hs ht rfl⟩
      | sub => simp only [binD, Option.some.injEq] at e; subst e; exact op_sub pins s σ H _ _ v u Q I rx ry ⟨i, j, rfl, rfl, p.here hs ht rfl⟩
      | mul =>
        simp only [binD] at e
        by_cases hc : mulFits i j = true
        · rw [if_pos hc] at e
          cases e
          exact op_mulW pins s σ H _ _ v u Q I rx ry ⟨i, j, rfl, rfl, (show CMulW i j by unfold CMulW; unfold mulFits at hc; exact of_decide_eq_true hc), p.here hs ht rfl⟩
        · rw [if_neg hc] at e; cases e
      | fdiv =>
        simp only [binD, divFits, Bool.and_eq_true, decide_eq_true_eq] at e
        split at e
        · rename_i hc
          cases e
          exact op_fdivG pins s σ H _ _ v u Q I rx ry ⟨i, j, rfl, rfl, hc, p.here hs ht rfl⟩
        · cases e
      | mod =>
        simp only [binD] at e
        split at e
        · rename_i hc
          cases e
          exact op_modN pins s σ H _ _ v u Q I rx ry ⟨i, j, rfl, rfl, hc, p.here hs ht rfl⟩
        · cases e
      | pow =>
        simp only [binD, powFits, Bool.and_eq_true, decide_eq_true_eq] at e
        split at e
        · rename_i hc
          cases e
          exact op_pow pins s σ H _ _ v u Q I rx ry ⟨i, j, rfl, rfl, ⟨hc.1.1, hc.1.2, hc.2⟩, p.here hs ht rfl⟩
        · cases e
    | none => rw [q1, q2] at e; cases op <;> simp [binD] at e
    | bool _ => rw [q1, q2] at e; cases op <;> simp [binD] at e
    | str _ => rw [q1, q2] at e; cases op <;> simp [binD] at e
    | dict _ => rw [q1, q2] at e; cases op <;> simp [binD] at e
    | list _ => rw [q1, q2] at e; cases op <;> simp [binD] at e
    | tuple _ => rw [q1, q2] at e; cases op <;> simp [binD] at e
  | tuple xs =>
    obtain ⟨a, vs, rfl, hq, hall⟩ := u1.tup q1
    have hq' : SqT X.K H a vs := Same.seqT hs hq
    cases q2 : r2.d with
    | tuple ys =>
      rw [q1, q2] at e
      obtain ⟨b, ws, rfl, hq2, hall2⟩ := u2.tup q2
      have hq2' : SqT X.K H b ws := Same.seqT hs hq2
      cases op with
      | add =>
        simp only [binD, shortL, decide_eq_true_eq] at e
        split at e
        · rename_i hc
          cases e
          have l1 := hall.length
          have l2 := hall2.length
          refine op_catA pins s σ H _ _ v u Q I rx ry ⟨a, b, vs, ws, rfl, rfl, hq', hq2', len_of (by rw [List.length_append] at hc; omega), fun z => ?_, fun z z2 => ?_, fun z z2 q n => p.tup hs ht (hall.append hall2) n⟩
          · subst z
            have : xs = [] := List.eq_nil_of_length_eq_zero (by simpa using l1.symm)
            subst this
            exact p.here hs ht ⟨b, ws, rfl, hq2, hall2⟩
          · subst z2
            have : ys = [] := List.eq_nil_of_length_eq_zero (by simpa using l2.symm)
            subst this
            rw [List.append_nil] at p
            exact p.here hs ht ⟨a, vs, rfl, hq, hall⟩
        · cases e
      | sub => simp [binD] at e
      | mul => simp [binD] at e
      | fdiv => simp [binD] at e
      | mod => simp [binD] at e
      | pow => simp [binD] at e
    | int k =>
      rw [q1, q2] at e
      have ey := u2.int q2
      subst ey
      cases op with
      | mul =>
        simp only [binD] at e
        split at e
        · rename_i hc
          cases e
          simp only [Bool.and_eq_true, decide_eq_true_eq] at hc
          obtain ⟨⟨h1, h2⟩, h3⟩ := hc
          have l1 := hall.length
          refine op_repA pins s σ H _ _ v u Q I rx ry ⟨a, k, vs, rfl, rfl, hq', by omega, h2, by omega, fun z => ?_, fun _ _ q n => p.tup hs ht (hall.rep _) n⟩
          have ez : (List.replicate k.toNat xs).flatten = xs := by
            rcases z with z | z
            · subst z
              have : xs = [] := List.eq_nil_of_length_eq_zero (by simpa using l1.symm)
              subst this
              simp
            · subst z
              simp
          rw [ez] at p
          exact p.here hs ht ⟨a, vs, rfl, hq, hall⟩
        · cases e
      | add => simp [binD] at e
      | sub => simp [binD] at e
      | fdiv => simp [binD] at e
      | mod => simp [binD] at e
      | pow => simp [binD] at e
    | none => rw [q1, q2] at e; cases op <;> simp [binD] at e
    | bool _ => rw [q1, q2] at e; cases op <;> simp [binD] at e
    | str _ => rw [q1, q2] at e; cases op <;> simp [binD] at e
    | dict _ => rw [q1, q2] at e; cases op <;> simp [binD] at e
    | list _ => rw [q1, q2] at e; cases op <;> simp [binD] at e
  | list xs =>
    obtain ⟨a, vs, rfl, hq, hall⟩ := u1.lst hs q1
    cases q2 : r2.d with
    | list ys =>
      rw [q1, q2] at e
      obtain ⟨b, ws, rfl, hq2, hall2⟩ := u2.lst hs q2
      cases op with
      | add =>
        simp only [binD, shortL, decide_eq_true_eq] at e
        split at e
        · rename_i hc
          cases e
          have l1 := hall.length
          have l2 := hall2.length
          exact op_cat pins s σ H _ _ v u Q I rx ry ⟨a, b, vs, ws, rfl, rfl, hq, hq2, len_of (by rw [List.length_append] at hc; omega), fun q n => p.lst hs ht (hall.append hall2) n⟩
        · cases e
      | sub => simp [binD] at e
      | mul => simp [binD] at e
      | fdiv => simp [binD] at e
      | mod => simp [binD] at e
      | pow => simp [binD] at e
    | int k =>
      rw [q1, q2] at e
      have ey := u2.int q2
      subst ey
      cases op with
      | mul =>
        simp only [binD] at e
        split at e
        · rename_i hc
          cases e
          simp only [Bool.and_eq_true, decide_eq_true_eq] at hc
          obtain ⟨⟨h1, h2⟩, h3⟩ := hc
          have l1 := hall.length
          exact op_rep pins s σ H _ _ v u Q I rx ry ⟨a, k, vs, rfl, rfl, hq, h1, h2, len_of (by rw [l1]; exact h3), fun q n => p.lst hs ht (hall.rep _) n⟩
        · cases e
      | add => simp [binD] at e
      | sub => simp [binD] at e
      | fdiv => simp [binD] at e
      | mod => simp [binD] at e
      | pow => simp [binD] at e
    | none => rw [q1, q2] at e; cases op <;> simp [binD] at e
    | bool _ => rw [q1, q2] at e; cases op <;> simp [binD] at e
    | str _ => rw [q1, q2] at e; cases op <;> simp [binD] at e
    | dict _ => rw [q1, q2] at e; cases op <;> simp [binD] at e
    | tuple _ => rw [q1, q2] at e; cases op <;> simp [binD] at e

theorem in_ints {i : Int} : ∀ ns : List Int, inV (.int i) (ns.map V.int) = ns.any (fun n => decide (n = i))
  | [] => rfl
  | n :: ns => by
    show (eqV (.int n) (.int i) || inV (.int i) (ns.map V.int)) = _
    rw [in_ints ns, List.any_cons]
    congr 1
theorem flat_ints (ns : List Int) : (ns.map V.int).all flatV = true := by
  rw [List.all_eq_true]
  intro v hv
  obtain ⟨n, _, rfl⟩ := List.mem_map.mp hv
  rfl
/-- an eq of data by its general rule -/
theorem eq_gen (hu : X.A.units + 80 < cLine) {pins : List (Addr × Obj)} {s : Shared} {σ : L2.St} {H S : Hp} {x y : V} {v u : Value} {Q : VK} {τ : Tp} {r1 r2 : R} {b : Bool} (I : Inv X pins σ H s) (rx : RelV x v) (ry : RelV y u)
    (hs : Same S H) (ht : TpOk X.K ta S H τ) (u1 : UV X.K ta S H x r1) (u2 : UV X.K ta S H y r2) (e : (if SeqAt.shaped r1.d && SeqAt.shaped r2.d then some (PyData.eqv r1.d r2.d) else none) = some b) (p : Post X.K ta S H τ ⟨.S, .bool b⟩ Q) :
    wpAny (model X.prog X.w) X.A (compareOp .Eq v u) (EP X pins σ Q) X.xe s := by
  split at e
  · rename_i hc
    cases e
    rw [Bool.and_eq_true] at hc
    exact op_eqD (by omega) pins s σ H x y v u Q I rx ry ⟨r1.d, r2.d, (u1.rp hs).dp, (u2.rp hs).dp, hc.1, hc.2, p.here hs ht rfl⟩
  · cases e
theorem ne_gen (hu : X.A.units + 80 < cLine) {pins : List (Addr × Obj)} {s : Shared} {σ : L2.St} {H S : Hp} {x y : V} {v u : Value} {Q : VK} {τ : Tp} {r1 r2 : R} {b : Bool} (I : Inv X pins σ H s) (rx : RelV x v) (ry : RelV y u)
    (hs : Same S H) (ht : TpOk X.K ta S H τ) (u1 : UV X.K ta S H x r1) (u2 : UV X.K ta S H y r2) (e : (if SeqAt.shaped r1.d && SeqAt.shaped r2.d then some (!PyData.eqv r1.d r2.d) else none) = some b) (p : Post X.K ta S H τ ⟨.S, .bool b⟩ Q) :
    wpAny (model X.prog X.w) X.A (compareOp .NotEq v u) (EP X pins σ Q) X.xe s := by
  split at e
  · rename_i hc
    cases e
    rw [Bool.and_eq_true] at hc
    exact op_neD (by omega) pins s σ H x y v u Q I rx ry ⟨r1.d, r2.d, (u1.rp hs).dp, (u2.rp hs).dp, hc.1, hc.2, p.here hs ht rfl⟩
  · cases e
def cmpR (op : Co) (d e : D) : Option R := (cmpD op d e).map fun b => ⟨.S, .bool b⟩
theorem cmpR_some {op : Co} {d e : D} {r : R} (h : cmpR op d e = some r) : ∃ b, cmpD op d e = some b ∧ r = ⟨.S, .bool b⟩ := by
  unfold cmpR at h
  cases q : cmpD op d e with
  | none => rw [q] at h; cases h
  | some b => rw [q] at h; cases h; exact ⟨b, rfl, rfl⟩
theorem ofDp {K : PySem.W.Frag} {H : Hp} {d : D} {v : V} (h : Rp K H v d) : Dp K H v d := Rp.dp d h
theorem co_run (hu : X.A.units + 80 < cLine) (op : Co) : OpR X (compareOp (coO op)) (rTwo X.K ta (cmpR op)) := by
  intro pins s σ H x y v u Q I rx ry ⟨S, τ, r1, r2, r, hs, ht, u1, u2, e0, p⟩
  obtain ⟨b, e, rfl⟩ := cmpR_some e0
  have isI : ∀ {i j : Int}, r1.d = .int i → r2.d = .int j → x = .int i ∧ y = .int j := fun e1 e2 => ⟨u1.int e1, u2.int e2⟩
  cases op with
  | lt =>
    cases q1 : r1.d <;> cases q2 : r2.d <;> rw [q1, q2] at e <;> simp [cmpD] at e
    obtain ⟨rfl, rfl⟩ := isI q1 q2
    subst e
    exact op_lt pins s σ H _ _ v u Q I rx ry ⟨_, _, rfl, rfl, p.here hs ht rfl⟩
  | le =>
    cases q1 : r1.d <;> cases q2 : r2.d <;> rw [q1, q2] at e <;> simp [cmpD] at e
    obtain ⟨rfl, rfl⟩ := isI q1 q2
    subst e
    exact op_le pins s σ H _ _ v u Q I rx ry ⟨_, _, rfl, rfl, p.here hs ht rfl⟩
  | gt =>
    cases q1 : r1.d <;> cases q2 : r2.d <;> rw [q1, q2] at e <;> simp [cmpD] at e
    obtain ⟨rfl, rfl⟩ := isI q1 q2
    subst e
    exact op_gt pins s σ H _ _ v u Q I rx ry ⟨_, _, rfl, rfl, p.here hs ht rfl⟩
  | ge =>
    cases q1 : r1.d <;> cases q2 : r2.d <;> rw [q1, q2] at e <;> simp [cmpD] at e
    obtain ⟨rfl, rfl⟩ := isI q1 q2
    subst e
    exact op_ge pins s σ H _ _ v u Q I rx ry ⟨_, _, rfl, rfl, p.here hs ht rfl⟩
  | eq =>
    by_cases hi : ∃ i j, r1.d = .int i ∧ r2.d = .int j
    · obtain ⟨i, j, q1, q2⟩ := hi
      obtain ⟨rfl, rfl⟩ := isI q1 q2
      rw [q1, q2] at e
      simp only [cmpD, Option.some.injEq] at e
      subst e
      refine op_eq pins s σ H _ _ v u Q I rx ry ⟨rfl, ?_⟩
      have e2 : decide (V.int i = V.int j) = decide (i = j) := by rw [dec_int, Bool.beq_eq_decide_eq]
      rw [e2]
      exact p.here hs ht rfl
    · by_cases hb : ∃ i j, r1.d = .bool i ∧ r2.d = .bool j
      · obtain ⟨i, j, q1, q2⟩ := hb
        have e1 := u1.bool q1
        have e2 := u2.bool q2
        subst e1 e2
        rw [q1, q2] at e
        simp only [cmpD, Option.some.injEq] at e
        subst e
        refine op_eq pins s σ H _ _ v u Q I rx ry ⟨rfl, ?_⟩
        rw [dec_bl]
        exact p.here hs ht rfl
      · refine eq_gen hu I rx ry hs ht u1 u2 ?_ p
        rw [← e]
        cases q1 : r1.d <;> cases q2 : r2.d <;> first
          | rfl
          | exact absurd ⟨_, _, q1, q2⟩ hi
          | exact absurd ⟨_, _, q1, q2⟩ hb
  | ne =>
    by_cases hi : ∃ i j, r1.d = .int i ∧ r2.d = .int j
    · obtain ⟨i, j, q1, q2⟩ := hi
      obtain ⟨rfl, rfl⟩ := isI q1 q2
      rw [q1, q2] at e
      simp only [cmpD, Option.some.injEq] at e
      subst e
      refine op_ne pins s σ H _ _ v u Q I rx ry ⟨rfl, ?_⟩
      have e2 : decide (V.int i = V.int j) = decide (i = j) := by rw [dec_int, Bool.beq_eq_decide_eq]
      rw [e2]
      exact p.here hs ht rfl
    · by_cases hb : ∃ i j, r1.d = .bool i ∧ r2.d = .bool j
      · obtain ⟨i, j, q1, q2⟩ := hb
        have e1 := u1.bool q1
        have e2 := u2.bool q2
        subst e1 e2
        rw [q1, q2] at e
        simp only [cmpD, Option.some.injEq] at e
        subst e
        refine op_ne pins s σ H _ _ v u Q I rx ry ⟨rfl, ?_⟩
        rw [dec_bl]
        exact p.here hs ht rfl
      · refine ne_gen hu I rx ry hs ht u1 u2 ?_ p
        rw [← e]
        cases q1 : r1.d <;> cases q2 : r2.d <;> first
          | rfl
          | exact absurd ⟨_, _, q1, q2⟩ hi
          | exact absurd ⟨_, _, q1, q2⟩ hb
  | isin =>
    cases q2 : r2.d with
    | tuple ds =>
      cases q1 : r1.d <;> rw [q1, q2] at e <;> simp [cmpD] at e
      rename_i i
      obtain ⟨ns, e1, e2⟩ := e
      obtain ⟨a, vs, rfl, hq, hall⟩ := u2.tup q2
      have ex := u1.int q1
      subst ex
      have ev := hall.ints e1
      subst ev
      refine op_in_seq pins s σ H _ _ v u Q I rx ry ⟨a, _, rfl, .inr (Same.seqT hs hq), rfl, flat_ints ns, ?_⟩
      show Q (.bl (inV (.int i) (ns.map V.int))) H
      rw [in_ints, e2]
      exact p.here hs ht rfl
    | list ds =>
      rw [q2] at e
      have e' : (if SeqAt.shaped r1.d && SeqAt.shaped (.list ds) then some (ds.any fun z => PyData.eqv z r1.d) else none) = some b := by
        rw [← e]; unfold cmpD; cases r1.d <;> rfl
      split at e'
      · rename_i hc
        cases e'
        rw [Bool.and_eq_true] at hc
        exact op_inD (by omega) pins s σ H x y v u Q I rx ry ⟨r1.d, ds, ofDp (u1.rp hs), by rw [← q2]; exact ofDp (u2.rp hs), hc.1, hc.2, p.here hs ht rfl⟩
      · cases e'
    | none => rw [q2] at e; cases q1 : r1.d <;> rw [q1] at e <;> simp [cmpD] at e
    | bool _ => rw [q2] at e; cases q1 : r1.d <;> rw [q1] at e <;> simp [cmpD] at e
    | str _ => rw [q2] at e; cases q1 : r1.d <;> rw [q1] at e <;> simp [cmpD] at e
    | int _ => rw [q2] at e; cases q1 : r1.d <;> rw [q1] at e <;> simp [cmpD] at e
    | dict _ => rw [q2] at e; cases q1 : r1.d <;> rw [q1] at e <;> simp [cmpD] at e
  | notin =>
    cases q2 : r2.d with
    | tuple ds =>
      cases q1 : r1.d <;> rw [q1, q2] at e <;> simp [cmpD] at e
      rename_i i
      obtain ⟨ns, e1, e2⟩ := e
      obtain ⟨a, vs, rfl, hq, hall⟩ := u2.tup q2
      have ex := u1.int q1
      subst ex
      have ev := hall.ints e1
      subst ev
      refine op_notIn_seq pins s σ H _ _ v u Q I rx ry ⟨a, _, rfl, .inr (Same.seqT hs hq), rfl, flat_ints ns, ?_⟩
      show Q (.bl (!inV (.int i) (ns.map V.int))) H
      rw [in_ints, e2, Bool.not_not]
      exact p.here hs ht rfl
    | list ds =>
      rw [q2] at e
      have e' : (if SeqAt.shaped r1.d && SeqAt.shaped (.list ds) then some (!ds.any fun z => PyData.eqv z r1.d) else none) = some b := by
        rw [← e]; unfold cmpD; cases r1.d <;> rfl
      split at e'
      · rename_i hc
        cases e'
        rw [Bool.and_eq_true] at hc
        exact op_notInD (by omega) pins s σ H x y v u Q I rx ry ⟨r1.d, ds, ofDp (u1.rp hs), by rw [← q2]; exact ofDp (u2.rp hs), hc.1, hc.2, p.here hs ht rfl⟩
      · cases e'
    | none => rw [q2] at e; cases q1 : r1.d <;> rw [q1] at e <;> simp [cmpD] at e
    | bool _ => rw [q2] at e; cases q1 : r1.d <;> rw [q1] at e <;> simp [cmpD] at e
    | str _ => rw [q2] at e; cases q1 : r1.d <;> rw [q1] at e <;> simp [cmpD] at e
    | int _ => rw [q2] at e; cases q1 : r1.d <;> rw [q1] at e <;> simp [cmpD] at e
    | dict _ => rw [q2] at e; cases q1 : r1.d <;> rw [q1] at e <;> simp [cmpD] at e
end
end Ev

/-! ## Ev5 -/
namespace Ev
open PySem PySem.Spec PyProof.Rows L2

/-! ### what a caller may use of a def, and what a def promises -/
def RetP (K : PySem.W.Frag) (H H' : Hp) (v : V) (r : R) : Prop := match r.k with
  | .F => ∃ p ds vs, r.d = .list ds ∧ v = .ref p ∧ H p = none ∧ H' p = some (.lst vs) ∧ RpAll K H' vs ds
  | _ => Rp K H' v r.d
def spP (K : PySem.W.Frag) (φ : List D → Option R) : Sp := fun vs H Q _ => ∃ ds r, RpAll K H vs ds ∧ φ ds = some r ∧ clean r = true ∧ ∀ v H', Same H H' → RetP K H H' v r → Q v H'
def del (H : Hp) (a : Addr) : Hp := fun b => if b = a then none else H b
theorem del_same {H : Hp} {a : Addr} : del H a a = none := if_pos rfl
theorem del_ne {H : Hp} {a b : Addr} (h : b ≠ a) : del H a b = H b := if_neg h
theorem del_sub {H : Hp} {a : Addr} : Same (del H a) H := fun b o e => by
  by_cases h : b = a
  · subst h; rw [del_same] at e; cases e
  · rw [del_ne h] at e; exact e
theorem del_upd {H : Hp} {a : Addr} {o : HO} : del (upd H a o) a = del H a := by
  funext b
  by_cases h : b = a
  · subst h; rw [del_same, del_same]
  · rw [del_ne h, del_ne h, upd_ne h]
theorem del_none {H : Hp} {a : Addr} (n : H a = none) : del H a = H := by
  funext b
  by_cases h : b = a
  · subst h; rw [del_same, n]
  · rw [del_ne h]
def spT (K : PySem.W.Frag) (ψ : List D → Tp → Option (R × Tp)) : Sp := fun vs H Q _ => ∃ a b vs' ds τ r τ', vs = .ref a :: vs' ∧ TapeAt K (del H a) H a b τ ∧ RpAll K (del H a) vs' ds ∧ ψ ds τ = some (r, τ') ∧ clean r = true ∧
  ∀ v H', Same (del H a) (del H' a) → TapeAt K (del H' a) H' a b τ' → RetP K (del H a) (del H' a) v r → Q v H'
section
variable {K : PySem.W.Frag} {ta : Ta} {τ τ1 τ2 : Tp} {S S1 S2 H H1 H2 H' : Hp} {ρ : Rho} {σ : L2.St} {v : V} {r : R} {Q : VK}
/-- the stable part behind a call -/
def aft (S H' : Hp) : Hp := fun b => match S b with
  | some o => some o
  | none => match H' b with
    | some (.tup xs) => some (.tup xs)
    | some (.frz o u) => some (.frz o u)
    | _ => none
theorem aft_same : Same S (aft S H') := fun b o e => by unfold aft; rw [e]
theorem aft_sub (h : ∀ b o, S b = some o → H' b = some o) : Same (aft S H') H' := fun b o e => by
  unfold aft at e
  split at e
  · rename_i q; cases e; exact h _ _ q
  · split at e
    · rename_i q; cases e; exact q
    · rename_i q; cases e; exact q
    · cases e
theorem aft_lst {b : Addr} {xs : List V} (n : S b = none) (e : H' b = some (.lst xs)) : aft S H' b = none := by unfold aft; rw [n, e]
theorem aft_tup {a : Addr} {xs : List V} (h : ∀ b o, S b = some o → H' b = some o) (q : SqT K H' a xs) : SqT K (aft S H') a xs := by
  rcases q with (q | ⟨o, q⟩) | q
  · refine .inl (.inl ?_)
    unfold aft
    cases z : S a with
    | some o => have := h _ _ z; rw [q] at this; cases this; rfl
    | none => rw [q]
  · refine .inl (.inr ⟨o, ?_⟩)
    unfold aft
    cases z : S a with
    | some o => have := h _ _ z; rw [q] at this; cases this; rfl
    | none => rw [q]
  · exact .inr q
mutual
theorem aft_rp (h : ∀ b o, S b = some o → H' b = some o) : ∀ (d : D) {v : V}, noList d = true → Rp K H' v d → Rp K (aft S H') v d
  | .none, _, _, q => q
  | .bool _, _, _, q => q
  | .int _, _, _, q => q
  | .str _, _, _, q => q
  | .list _, _, n, _ => by simp [noList] at n
  | .tuple ds, _, n, ⟨p, vs, e1, e2, e3⟩ => ⟨p, vs, e1, aft_tup h e2, aft_rpAll h ds (by simpa [noList] using n) e3⟩
  | .dict _, _, n, _ => by simp [noList] at n
theorem aft_rpAll (h : ∀ b o, S b = some o → H' b = some o) : ∀ (ds : List D) {vs : List V}, noListAll ds = true → RpAll K H' vs ds → RpAll K (aft S H') vs ds
  | [], _, _, q => q
  | d :: ds, _, n, ⟨x, r, e1, e2, e3⟩ => by
    simp only [noListAll, Bool.and_eq_true] at n
    exact ⟨x, r, e1, aft_rp h d n.1 e2, aft_rpAll h ds n.2 e3⟩
end
/-- behind a call -/
theorem after_call (s : Same S H) (t : TpOk K ta S H τ1) (g : ∀ b o, ta.a ≠ some b → H b = some o → H' b = some o) (t2 : ∀ a, ta.a = some a → H' a = some (.lst [.ref ta.b, .int (τ2.pos : Int), .int τ2.cur, .int τ2.seed]) ∧ τ2.cells = τ1.cells)
    (c : clean r = true) (hr : RetP K H H' v r) : ∃ S', Stp K ta τ2 S H S' H' ∧ RV K ta S' H' H v r := by
  have sub : ∀ b o, S b = some o → H' b = some o := fun b o e => g b o (fun z => by have := (t b z).1; rw [e] at this; cases this) (s _ _ e)
  refine ⟨aft S H', ⟨aft_same, aft_sub sub, g, fun b xs n e z => aft_lst z (g _ _ n e), fun a e => ?_⟩, ?_⟩
  · obtain ⟨e1, e2⟩ := t2 a e
    obtain ⟨n, _, q⟩ := t a e
    exact ⟨aft_lst n e1, e1, by rw [e2]; exact aft_same.seq q⟩
  · obtain ⟨k, d⟩ := r
    cases k with
    | S => exact aft_rp sub d c hr
    | B => cases d <;> simp [clean] at c
    | F =>
      obtain ⟨p, ds, vs, e1, e2, e3, e4, e5⟩ := hr
      have e1' : d = .list ds := e1
      subst e1'
      have n : S p = none := by
        cases z : S p with
        | none => rfl
        | some o => have := s _ _ z; rw [e3] at this; cases this
      exact ⟨p, ds, vs, rfl, e2, e4, aft_lst n e4, e3, aft_rpAll sub ds c e5⟩
end

section
variable {X : Cx} {ta : Ta} {Φ : Nat → List D → Option R} {Ψ : Nat → List D → Tp → Option (R × Tp)} {e a b c : Expr} {ca cb cc : E} {pos : Pos}
/-- constants -/
theorem e_const {v : V} {d : D} (h : PE X e (tC v)) (hd : ∀ H, Rp X.K H v d) : PE X e (tE X.K ta Φ Ψ (.cst d)) := PE.weak h fun σ H Q ⟨S, ρ, τ, r, τ', hR, hT, he, hQ⟩ => by
  simp only [ev, Option.some.injEq, Prod.mk.injEq] at he
  obtain ⟨rfl, rfl⟩ := he
  exact hQ v S H (Stp.refl hR.sub hT) (hd S)
theorem getD_some {σ : L2.St} {i : Nat} {v : V} (h : σ[i]?.getD none = some v) : σ[i]? = some (some v) := by
  cases q : σ[i]? with
  | none => rw [q] at h; cases h
  | some o => rw [q] at h; exact congrArg some h
theorem e_var {i : Nat} (h : PE X e (tVar i)) : PE X e (tE X.K ta Φ Ψ (.var i)) := PE.weak h fun σ H Q ⟨S, ρ, τ, r, τ', hR, hT, he, hQ⟩ => by
  simp only [ev] at he
  cases q : ρ[i]? with
  | none => rw [q] at he; cases he
  | some s =>
    rw [q] at he
    have hs := hR.slot i s q
    cases s with
    | un => cases he
    | tp => cases he
    | im d =>
      cases he
      obtain ⟨v, e1, e2⟩ := hs
      exact ⟨v, getD_some e1, hQ v S H (Stp.refl hR.sub hT) e2⟩
    | ow ds =>
      cases he
      obtain ⟨p, vs, e1, e2, e3, e4, e5⟩ := hs
      exact ⟨.ref p, getD_some e1, hQ (.ref p) S H (Stp.refl hR.sub hT) ⟨p, ds, vs, rfl, rfl, e2, e4, e5⟩⟩
/-- two operands, one after the other -/
theorem two_ok {r : R2} {Q : VK} {S H : Hp} {σ : L2.St} {ρ : Rho} {τ : Tp} {x y : R × Tp} (hR : Rel X.K ta ρ S σ H) (hT : TpOk X.K ta S H τ) (hx : ev Φ Ψ ρ τ ca = some x) (hy : ev Φ Ψ ρ x.2 cb = some y)
    (hr : ∀ vx vy S2 H2, Stp X.K ta y.2 S H S2 H2 → UV X.K ta S2 H2 vx x.1 → UV X.K ta S2 H2 vy y.1 → r vx vy H2 Q) : tOp r (tU X.K ta Φ Ψ ca) (tU X.K ta Φ Ψ cb) σ H Q :=
  ⟨S, ρ, τ, x.1, x.2, hR, hT, hx, fun vx S1 H1 st1 u1 => ⟨S1, ρ, x.2, y.1, y.2, hR.step st1, st1.tape, hy, fun vy S2 H2 st2 u2 => hr vx vy S2 H2 (st1.trans st2) (u1.mono st2) u2⟩⟩
theorem bind_some {α β : Type} {o : Option α} {f : α → Option β} {z : β} (h : o.bind f = some z) : ∃ x, o = some x ∧ f x = some z := by
  cases o with
  | none => cases h
  | some x => exact ⟨x, rfl, h⟩
theorem map_some {α β : Type} {o : Option α} {f : α → β} {z : β} (h : o.map f = some z) : ∃ x, o = some x ∧ f x = z := by
  cases o with
  | none => cases h
  | some x => exact ⟨x, rfl, Option.some.inj h⟩
theorem e_bin {op : Bo} (ha : PE X a (tE X.K ta Φ Ψ ca)) (hb : PE X b (tE X.K ta Φ Ψ cb)) : PE X (.BinOp a (boO op) b pos) (tE X.K ta Φ Ψ (.bin op ca cb)) :=
  PE.weak (pe_op (bo_run (ta := ta) op) ha.use hb.use) fun σ H Q ⟨S, ρ, τ, r, τ', hR, hT, he, hQ⟩ => by
    simp only [ev] at he
    obtain ⟨x, hx, he⟩ := bind_some he
    obtain ⟨y, hy, he⟩ := bind_some he
    obtain ⟨z, hz, he⟩ := map_some he
    cases he
    exact two_ok hR hT hx hy fun vx vy S2 H2 st u1 u2 => ⟨S2, y.2, x.1, y.1, _, st.sub, st.tape, u1, u2, hz, Post.later hQ st⟩
theorem one_ok {Q : VK} {S H : Hp} {σ : L2.St} {ρ : Rho} {τ : Tp} {x : R × Tp} (hR : Rel X.K ta ρ S σ H) (hT : TpOk X.K ta S H τ) (hx : ev Φ Ψ ρ τ ca = some x)
    (hr : ∀ vx S2 H2, Stp X.K ta x.2 S H S2 H2 → UV X.K ta S2 H2 vx x.1 → Q vx H2) : tU X.K ta Φ Ψ ca σ H Q := ⟨S, ρ, τ, x.1, x.2, hR, hT, hx, fun vx S1 H1 st u => hr vx S1 H1 st u⟩
theorem intOf_some {d : D} {i : Int} (h : intOf d = some i) : d = .int i := by
  cases d <;> simp [intOf] at h
  rw [h]
theorem e_neg (ha : PE X a (tE X.K ta Φ Ψ ca)) : PE X (.UnaryOp .USub a pos) (tE X.K ta Φ Ψ (.neg ca)) :=
  PE.weak (pe_un un_neg ha.use) fun σ H Q ⟨S, ρ, τ, r, τ', hR, hT, he, hQ⟩ => by
    simp only [ev] at he
    obtain ⟨x, hx, he⟩ := bind_some he
    obtain ⟨i, hi, he⟩ := map_some he
    cases he
    exact one_ok hR hT hx fun vx S2 H2 st u => ⟨i, u.int (intOf_some hi), hQ _ S2 H2 st rfl⟩
theorem cmp_data {op : Co} {σ : L2.St} {H : Hp} {Q : VK} {S : Hp} {ρ : Rho} {τ τ' : Tp} {r : R} (hR : Rel X.K ta ρ S σ H) (hT : TpOk X.K ta S H τ) (he : ev Φ Ψ ρ τ (.cmp op ca cb) = some (r, τ')) (hQ : Post X.K ta S H τ' r Q) :
    tOp (rTwo X.K ta (cmpR op)) (tU X.K ta Φ Ψ ca) (tU X.K ta Φ Ψ cb) σ H Q := by
  simp only [ev] at he
  obtain ⟨x, hx, he⟩ := bind_some he
  obtain ⟨y, hy, he⟩ := bind_some he
  obtain ⟨z, hz, he⟩ := map_some he
  cases he
  exact two_ok hR hT hx hy fun vx vy S2 H2 st u1 u2 => ⟨S2, y.2, x.1, y.1, _, st.sub, st.tape, u1, u2, by unfold cmpR; rw [hz]; rfl, Post.later hQ st⟩
theorem e_cmp {op : Co} (hu : X.A.units + 80 < cLine) (ha : PE X a (tE X.K ta Φ Ψ ca)) (hb : PE X b (tE X.K ta Φ Ψ cb)) (hm : behindInMarks (coO op) b = false) : PE X (.Compare a [coO op] [b] pos) (tE X.K ta Φ Ψ (.cmp op ca cb)) :=
  PE.weak (pe_cmpR (co_run (ta := ta) hu op) ha.use hb.use hm) fun σ H Q ⟨S, ρ, τ, r, τ', hR, hT, he, hQ⟩ => cmp_data hR hT he hQ
/-- a test's answer -/
theorem post_bool {K : PySem.W.Frag} {S H : Hp} {τ : Tp} {r : R} {k : Bool} {Q : Bool → Hp → Prop} (hr : r.d = .bool k) (hQ : ∀ S' H', Stp K ta τ S H S' H' → Q k H') : Post K ta S H τ r fun x H' => ∃ k', x = .bl k' ∧ Q k' H' := fun v S' H' st rv => by
  obtain ⟨kd, d⟩ := r
  have e : d = .bool k := hr
  subst e
  cases kd with
  | S => exact ⟨k, rv, hQ S' H' st⟩
  | B => obtain ⟨p, ds, vs, e1, _⟩ := rv; cases e1
  | F => obtain ⟨p, ds, vs, e1, _⟩ := rv; cases e1
theorem t_cmp {op : Co} (hu : X.A.units + 80 < cLine) (ha : PE X a (tE X.K ta Φ Ψ ca)) (hb : PE X b (tE X.K ta Φ Ψ cb)) (hm : behindInMarks (coO op) b = false) : PT X (.Compare a [coO op] [b] pos) (tT X.K ta Φ Ψ (.cmp op ca cb)) :=
  PT.weak (pt_cmpR (co_run (ta := ta) hu op) ha.use hb.use hm) fun σ H Q ⟨S, ρ, τ, r, τ', k, hR, hT, he, hr, hQ⟩ => cmp_data hR hT he (post_bool hr hQ)
/-- any expression as a test -/
theorem t_val (h : PE X e (tE X.K ta Φ Ψ ca)) (he : ∀ whole, isTrue e X.env whole = (do let v ← whole; standAt e.pos; holding [v] (truthy v))) : PT X e (tT X.K ta Φ Ψ ca) :=
  PT.weak (pt_val h he) fun σ H Q ⟨S, ρ, τ, r, τ', k, hR, hT, hv, hr, hQ⟩ => ⟨S, ρ, τ, r, τ', hR, hT, hv, post_bool hr hQ⟩
theorem chn_data {o1 o2 : Co} {σ : L2.St} {H : Hp} {Q : VK} {S : Hp} {ρ : Rho} {τ τ' : Tp} {r : R} (hR : Rel X.K ta ρ S σ H) (hT : TpOk X.K ta S H τ) (he : ev Φ Ψ ρ τ (.chn o1 o2 ca cb cc) = some (r, τ')) (hQ : Post X.K ta S H τ' r Q) :
    tChain (rTwo X.K ta (cmpR o1)) (rTwo X.K ta (cmpR o2)) (tU X.K ta Φ Ψ ca) (tU X.K ta Φ Ψ cb) (tU X.K ta Φ Ψ cc) σ H Q := by
  simp only [ev] at he
  obtain ⟨x, hx, he⟩ := bind_some he
  obtain ⟨y, hy, he⟩ := bind_some he
  obtain ⟨k, hk, he⟩ := bind_some he
  refine ⟨S, ρ, τ, x.1, x.2, hR, hT, hx, fun vx S1 H1 st1 u1 => ⟨S1, ρ, x.2, y.1, y.2, hR.step st1, st1.tape, hy, fun vy S2 H2 st2 u2 => ?_⟩⟩
  refine ⟨S2, y.2, x.1, y.1, ⟨.S, .bool k⟩, st2.sub, st2.tape, u1.mono st2, u2, by unfold cmpR; rw [hk]; rfl, ?_⟩
  refine post_bool (Q := fun k H3 => if k = true then _ else _) rfl fun S3 H3 st3 => ?_
  have st := (st1.trans st2).trans st3
  cases k with
  | true =>
    rw [if_pos rfl] at he
    obtain ⟨z, hz, he⟩ := bind_some he
    obtain ⟨q, hq, he⟩ := map_some he
    cases he
    refine iteT ⟨S3, ρ, y.2, z.1, z.2, (hR.step st), st.tape, hz, fun vz S4 H4 st4 u4 => ⟨S4, z.2, y.1, z.1, _, st4.sub, st4.tape, (u2.mono st3).mono st4, u4, by unfold cmpR; rw [hq]; rfl, Post.later hQ (st.trans st4)⟩⟩
  | false =>
    rw [if_neg Bool.false_ne_true] at he
    cases he
    exact iteF (hQ _ S3 H3 st rfl)
theorem e_chn {o1 o2 : Co} (hu : X.A.units + 80 < cLine) (ha : PE X a (tE X.K ta Φ Ψ ca)) (hb : PE X b (tE X.K ta Φ Ψ cb)) (hc : PE X c (tE X.K ta Φ Ψ cc)) (hm : lastMarks [coO o1, coO o2] [b, c] = false) : PE X (.Compare a [coO o1, coO o2] [b, c] pos) (tE X.K ta Φ Ψ (.chn o1 o2 ca cb cc)) :=
  PE.weak (pe_chain (co_run (ta := ta) hu o1) (co_run (ta := ta) hu o2) ha.use hb.use hc.use hm) fun σ H Q ⟨S, ρ, τ, r, τ', hR, hT, he, hQ⟩ => chn_data hR hT he hQ
theorem t_chn {o1 o2 : Co} (hu : X.A.units + 80 < cLine) (ha : PE X a (tE X.K ta Φ Ψ ca)) (hb : PE X b (tE X.K ta Φ Ψ cb)) (hc : PE X c (tE X.K ta Φ Ψ cc)) (hm : lastMarks [coO o1, coO o2] [b, c] = false) : PT X (.Compare a [coO o1, coO o2] [b, c] pos) (tT X.K ta Φ Ψ (.chn o1 o2 ca cb cc)) :=
  PT.weak (pt_chain (co_run (ta := ta) hu o1) (co_run (ta := ta) hu o2) ha.use hb.use hc.use hm) fun σ H Q ⟨S, ρ, τ, r, τ', k, hR, hT, he, hr, hQ⟩ => chn_data hR hT he (post_bool hr hQ)
/-- a op1 b op2 c op3 d -/
def tChain3 (r r' r'' : R2) (ta tb tc td : TE) : TE := fun σ H Q => ta σ H fun x H1 => tb σ H1 fun y H2 => r x y H2 fun z H3 => ∃ k, z = .bl k ∧
  (if k = true then tc σ H3 fun w' H4 => r' y w' H4 fun z2 H5 => ∃ k2, z2 = .bl k2 ∧ (if k2 = true then td σ H5 fun u' H6 => r'' w' u' H6 Q else Q (.bl false) H5) else Q (.bl false) H3)
theorem pe_chain3 {op op' op'' : CmpOp} {r r' r'' : R2} {t1 t2 t3 t4 : TE} (ho : OpR X (compareOp op) r) (ho' : OpR X (compareOp op') r') (ho2 : OpR X (compareOp op'') r'') (ha : PE X a t1) (hb : PE X b t2) (hc : PE X c t3) (hd : PE X e t4)
    (hm : lastMarks [op, op', op''] [b, c, e] = false) : PE X (.Compare a [op, op', op''] [b, c, e] pos) (tChain3 r r' r'' t1 t2 t3 t4) := by
  refine ⟨fun pins s σ H Q I h => ?_⟩
  refine Compare_chain (thn (ha.run pins s σ H _ I h) fun v s1 ⟨x, H1, I1, r1, q1⟩ => chain_link (thn (hb.run pins s1 σ H1 _ I1 q1) fun u s2 ⟨y, H2, I2, r2, q2⟩ =>
    thn (ho pins s2 σ H2 x y v u _ I2 r1 r2 q2) fun d s3 ⟨z, H3, I3, r3, k, e, q3⟩ => ?_)) hm
  subst e
  cases r3
  refine wpAny_truthy_bool ?_
  cases k with
  | false => exact ite_ff ⟨.bl false, H3, I3, rfl, q3⟩
  | true => exact ite_tt (chain_link (thn (hc.run pins s3 σ H3 _ I3 q3) fun w' s4 ⟨z', H4, I4, r4, q4⟩ =>
      thn (ho' pins s4 σ H4 y z' u w' _ I4 r2 r4 q4) fun d s5 ⟨z2, H5, I5, r5, k2, e2, q5⟩ => by
        subst e2
        cases r5
        refine wpAny_truthy_bool ?_
        cases k2 with
        | false => exact ite_ff ⟨.bl false, H5, I5, rfl, q5⟩
        | true => exact ite_tt (chain_last (thn (hd.run pins s5 σ H5 _ I5 q5) fun u2 s6 ⟨z3, H6, I6, r6, q6⟩ => ho2 pins s6 σ H6 z' z3 w' u2 Q I6 r4 r6 q6))))
theorem pt_chain3 {op op' op'' : CmpOp} {r r' r'' : R2} {t1 t2 t3 t4 : TE} (ho : OpR X (compareOp op) r) (ho' : OpR X (compareOp op') r') (ho2 : OpR X (compareOp op'') r'') (ha : PE X a t1) (hb : PE X b t2) (hc : PE X c t3) (hd : PE X e t4)
    (hm : lastMarks [op, op', op''] [b, c, e] = false) : PT X (.Compare a [op, op', op''] [b, c, e] pos) (tTest (tChain3 r r' r'' t1 t2 t3 t4)) := by
  refine ⟨fun pins s σ H Q I h => ?_⟩
  refine isTrue_chain (thn (ha.run pins s σ H _ I h) fun v s1 ⟨x, H1, I1, r1, q1⟩ => test_link (thn (hb.run pins s1 σ H1 _ I1 q1) fun u s2 ⟨y, H2, I2, r2, q2⟩ =>
    thn (ho pins s2 σ H2 x y v u _ I2 r1 r2 q2) fun d s3 ⟨z, H3, I3, r3, k, e, q3⟩ => ?_)) hm
  subst e
  cases r3
  refine wpAny_truthy_bool ?_
  cases k with
  | false =>
    obtain ⟨k', e', q'⟩ := q3
    cases e'
    exact ite_ff ⟨H3, I3, q'⟩
  | true => exact ite_tt (test_link (thn (hc.run pins s3 σ H3 _ I3 q3) fun w' s4 ⟨z', H4, I4, r4, q4⟩ =>
      thn (ho' pins s4 σ H4 y z' u w' _ I4 r2 r4 q4) fun d s5 ⟨z2, H5, I5, r5, k2, e2, q5⟩ => by
        subst e2
        cases r5
        refine wpAny_truthy_bool ?_
        cases k2 with
        | false =>
          obtain ⟨k', e', q'⟩ := q5
          cases e'
          exact ite_ff ⟨H5, I5, q'⟩
        | true => exact ite_tt (test_last (thn (hd.run pins s5 σ H5 _ I5 q5) fun u2 s6 ⟨z3, H6, I6, r6, q6⟩ => thn (ho2 pins s6 σ H6 z' z3 w' u2 _ I6 r4 r6 q6) fun d' s7 ⟨z4, H7, I7, r7, k4, e4, q7⟩ => by
            subst e4
            cases r7
            exact wpAny_truthy_bool ⟨H7, I7, q7⟩))))
theorem ch3_data {o1 o2 o3 : Co} {ce : E} {σ : L2.St} {H : Hp} {Q : VK} {S : Hp} {ρ : Rho} {τ τ' : Tp} {r : R} (hR : Rel X.K ta ρ S σ H) (hT : TpOk X.K ta S H τ) (he : ev Φ Ψ ρ τ (.ch3 o1 o2 o3 ca cb cc ce) = some (r, τ')) (hQ : Post X.K ta S H τ' r Q) :
    tChain3 (rTwo X.K ta (cmpR o1)) (rTwo X.K ta (cmpR o2)) (rTwo X.K ta (cmpR o3)) (tU X.K ta Φ Ψ ca) (tU X.K ta Φ Ψ cb) (tU X.K ta Φ Ψ cc) (tU X.K ta Φ Ψ ce) σ H Q := by
  simp only [ev] at he
  obtain ⟨x, hx, he⟩ := bind_some he
  obtain ⟨y, hy, he⟩ := bind_some he
  obtain ⟨k, hk, he⟩ := bind_some he
  refine ⟨S, ρ, τ, x.1, x.2, hR, hT, hx, fun vx S1 H1 st1 u1 => ⟨S1, ρ, x.2, y.1, y.2, hR.step st1, st1.tape, hy, fun vy S2 H2 st2 u2 => ?_⟩⟩
  refine ⟨S2, y.2, x.1, y.1, ⟨.S, .bool k⟩, st2.sub, st2.tape, u1.mono st2, u2, by unfold cmpR; rw [hk]; rfl, ?_⟩
  refine post_bool (Q := fun k H3 => if k = true then _ else _) rfl fun S3 H3 st3 => ?_
  have st := (st1.trans st2).trans st3
  cases k with
  | true =>
    rw [if_pos rfl] at he
    obtain ⟨z, hz, he⟩ := bind_some he
    obtain ⟨k2, hk2, he⟩ := bind_some he
    refine iteT ⟨S3, ρ, y.2, z.1, z.2, (hR.step st), st.tape, hz, fun vz S4 H4 st4 u4 => ?_⟩
    refine ⟨S4, z.2, y.1, z.1, ⟨.S, .bool k2⟩, st4.sub, st4.tape, (u2.mono st3).mono st4, u4, by unfold cmpR; rw [hk2]; rfl, ?_⟩
    refine post_bool (Q := fun k H3 => if k = true then _ else _) rfl fun S5 H5 st5 => ?_
    have st' := (st.trans st4).trans st5
    cases k2 with
    | true =>
      rw [if_pos rfl] at he
      obtain ⟨w, hw, he⟩ := bind_some he
      obtain ⟨q, hq, he⟩ := map_some he
      cases he
      refine iteT ⟨S5, ρ, z.2, w.1, w.2, (hR.step st'), st'.tape, hw, fun vz S6 H6 st6 u6 => ⟨S6, w.2, z.1, w.1, _, st6.sub, st6.tape, (u4.mono st5).mono st6, u6, by unfold cmpR; rw [hq]; rfl, Post.later hQ (st'.trans st6)⟩⟩
    | false =>
      rw [if_neg Bool.false_ne_true] at he
      cases he
      exact iteF (hQ _ S5 H5 st' rfl)
  | false =>
    rw [if_neg Bool.false_ne_true] at he
    cases he
    exact iteF (hQ _ S3 H3 st rfl)
theorem e_ch3 {o1 o2 o3 : Co} {ce : E} (hu : X.A.units + 80 < cLine) (ha : PE X a (tE X.K ta Φ Ψ ca)) (hb : PE X b (tE X.K ta Φ Ψ cb)) (hc : PE X c (tE X.K ta Φ Ψ cc)) (hd : PE X e (tE X.K ta Φ Ψ ce)) (hm : lastMarks [coO o1, coO o2, coO o3] [b, c, e] = false) : PE X (.Compare a [coO o1, coO o2, coO o3] [b, c, e] pos) (tE X.K ta Φ Ψ (.ch3 o1 o2 o3 ca cb cc ce)) :=
  PE.weak (pe_chain3 (co_run (ta := ta) hu o1) (co_run (ta := ta) hu o2) (co_run (ta := ta) hu o3) ha.use hb.use hc.use hd.use hm) fun σ H Q ⟨S, ρ, τ, r, τ', hR, hT, he, hQ⟩ => ch3_data hR hT he hQ
theorem t_ch3 {o1 o2 o3 : Co} {ce : E} (hu : X.A.units + 80 < cLine) (ha : PE X a (tE X.K ta Φ Ψ ca)) (hb : PE X b (tE X.K ta Φ Ψ cb)) (hc : PE X c (tE X.K ta Φ Ψ cc)) (hd : PE X e (tE X.K ta Φ Ψ ce)) (hm : lastMarks [coO o1, coO o2, coO o3] [b, c, e] = false) : PT X (.Compare a [coO o1, coO o2, coO o3] [b, c, e] pos) (tT X.K ta Φ Ψ (.ch3 o1 o2 o3 ca cb cc ce)) :=
  PT.weak (pt_chain3 (co_run (ta := ta) hu o1) (co_run (ta := ta) hu o2) (co_run (ta := ta) hu o3) ha.use hb.use hc.use hd.use hm) fun σ H Q ⟨S, ρ, τ, r, τ', k, hR, hT, he, hr, hQ⟩ => ch3_data hR hT he (post_bool hr hQ)
/-- is None -/
theorem non_iff {K : PySem.W.Frag} {S1 H1 : Hp} {v : V} {r : R} (u : UV K ta S1 H1 v r) : decide (v = .non) = nonD r.d := by
  obtain ⟨k, d⟩ := r
  have go : Rp K S1 v d → decide (v = .non) = nonD d := fun h => by
    cases d with
    | none => have h' : v = .non := h; subst h'; rfl
    | bool b => have h' : v = .bl b := h; subst h'; rfl
    | int b => have h' : v = .int b := h; subst h'; rfl
    | str b => have h' : v = .str b := h; subst h'; rfl
    | list ds => obtain ⟨p, vs, e1, _⟩ := h; subst e1; rfl
    | tuple ds => obtain ⟨p, vs, e1, _⟩ := h; subst e1; rfl
    | dict _ => exact h.elim
  cases k with
  | S => exact go u
  | F => exact go u
  | B =>
    obtain ⟨p, ds, vs, e1, e2, _⟩ := u
    have e1' : d = .list ds := e1
    subst e1' e2
    rfl
theorem isN_data {σ : L2.St} {H : Hp} {Q : VK} {S : Hp} {ρ : Rho} {τ τ' : Tp} {r : R} (hR : Rel X.K ta ρ S σ H) (hT : TpOk X.K ta S H τ) (he : ev Φ Ψ ρ τ (.isN ca) = some (r, τ')) (hQ : Post X.K ta S H τ' r Q) : tIsN (tU X.K ta Φ Ψ ca) σ H Q := by
  simp only [ev] at he
  obtain ⟨x, hx, he⟩ := map_some he
  cases he
  refine one_ok hR hT hx fun vx S2 H2 st u => hQ _ S2 H2 st ?_
  show V.bl _ = V.bl _
  rw [non_iff u]
theorem notN_data {σ : L2.St} {H : Hp} {Q : VK} {S : Hp} {ρ : Rho} {τ τ' : Tp} {r : R} (hR : Rel X.K ta ρ S σ H) (hT : TpOk X.K ta S H τ) (he : ev Φ Ψ ρ τ (.notN ca) = some (r, τ')) (hQ : Post X.K ta S H τ' r Q) : tNotN (tU X.K ta Φ Ψ ca) σ H Q := by
  simp only [ev] at he
  obtain ⟨x, hx, he⟩ := map_some he
  cases he
  refine one_ok hR hT hx fun vx S2 H2 st u => hQ _ S2 H2 st ?_
  show V.bl _ = V.bl _
  rw [non_iff u]
theorem e_isN {j pos'} (ha : PE X a (tE X.K ta Φ Ψ ca)) : PE X (.Compare a [.Is] [.Constant .none j pos'] pos) (tE X.K ta Φ Ψ (.isN ca)) := PE.weak (pe_cmp (pc_isN ha.use) rfl) fun σ H Q ⟨S, ρ, τ, r, τ', hR, hT, he, hQ⟩ => isN_data hR hT he hQ
theorem e_notN {j pos'} (ha : PE X a (tE X.K ta Φ Ψ ca)) : PE X (.Compare a [.IsNot] [.Constant .none j pos'] pos) (tE X.K ta Φ Ψ (.notN ca)) := PE.weak (pe_cmp (pc_notN ha.use) rfl) fun σ H Q ⟨S, ρ, τ, r, τ', hR, hT, he, hQ⟩ => notN_data hR hT he hQ
theorem t_isN {j pos'} (ha : PE X a (tE X.K ta Φ Ψ ca)) : PT X (.Compare a [.Is] [.Constant .none j pos'] pos) (tT X.K ta Φ Ψ (.isN ca)) := PT.weak (pt_cmp (pc_isN ha.use) rfl) fun σ H Q ⟨S, ρ, τ, r, τ', k, hR, hT, he, hr, hQ⟩ => isN_data hR hT he (post_bool hr hQ)
theorem t_notN {j pos'} (ha : PE X a (tE X.K ta Φ Ψ ca)) : PT X (.Compare a [.IsNot] [.Constant .none j pos'] pos) (tT X.K ta Φ Ψ (.notN ca)) := PT.weak (pt_cmp (pc_notN ha.use) rfl) fun σ H Q ⟨S, ρ, τ, r, τ', k, hR, hT, he, hr, hQ⟩ => notN_data hR hT he (post_bool hr hQ)
/-- is True -/
theorem isB_data {σ : L2.St} {H : Hp} {Q : VK} {S : Hp} {ρ : Rho} {τ τ' : Tp} {r : R} (hR : Rel X.K ta ρ S σ H) (hT : TpOk X.K ta S H τ) (he : ev Φ Ψ ρ τ (.isB ca cb) = some (r, τ')) (hQ : Post X.K ta S H τ' r Q) : tOp rIsB (tU X.K ta Φ Ψ ca) (tU X.K ta Φ Ψ cb) σ H Q := by
  simp only [ev] at he
  obtain ⟨x, hx, he⟩ := bind_some he
  obtain ⟨y, hy, he⟩ := bind_some he
  split at he
  · rename_i i j q1 q2
    cases he
    refine two_ok hR hT hx hy fun vx vy S2 H2 st u1 u2 => ⟨i, j, u1.bool q1, u2.bool q2, hQ _ S2 H2 st ?_⟩
    show V.bl _ = V.bl _
    cases i <;> cases j <;> rfl
  · cases he
theorem notB_data {σ : L2.St} {H : Hp} {Q : VK} {S : Hp} {ρ : Rho} {τ τ' : Tp} {r : R} (hR : Rel X.K ta ρ S σ H) (hT : TpOk X.K ta S H τ) (he : ev Φ Ψ ρ τ (.notB ca cb) = some (r, τ')) (hQ : Post X.K ta S H τ' r Q) : tOp rNotB (tU X.K ta Φ Ψ ca) (tU X.K ta Φ Ψ cb) σ H Q := by
  simp only [ev] at he
  obtain ⟨x, hx, he⟩ := bind_some he
  obtain ⟨y, hy, he⟩ := bind_some he
  split at he
  · rename_i i j q1 q2
    cases he
    refine two_ok hR hT hx hy fun vx vy S2 H2 st u1 u2 => ⟨i, j, u1.bool q1, u2.bool q2, hQ _ S2 H2 st ?_⟩
    show V.bl _ = V.bl _
    cases i <;> cases j <;> rfl
  · cases he
theorem e_isB (ha : PE X a (tE X.K ta Φ Ψ ca)) (hb : PE X b (tE X.K ta Φ Ψ cb)) (hm : behindInMarks .Is b = false) : PE X (.Compare a [.Is] [b] pos) (tE X.K ta Φ Ψ (.isB ca cb)) := PE.weak (pe_cmpR op_isBl ha.use hb.use hm) fun σ H Q ⟨S, ρ, τ, r, τ', hR, hT, he, hQ⟩ => isB_data hR hT he hQ
theorem e_notB (ha : PE X a (tE X.K ta Φ Ψ ca)) (hb : PE X b (tE X.K ta Φ Ψ cb)) (hm : behindInMarks .IsNot b = false) : PE X (.Compare a [.IsNot] [b] pos) (tE X.K ta Φ Ψ (.notB ca cb)) := PE.weak (pe_cmpR op_notBl ha.use hb.use hm) fun σ H Q ⟨S, ρ, τ, r, τ', hR, hT, he, hQ⟩ => notB_data hR hT he hQ
theorem t_isB (ha : PE X a (tE X.K ta Φ Ψ ca)) (hb : PE X b (tE X.K ta Φ Ψ cb)) (hm : behindInMarks .Is b = false) : PT X (.Compare a [.Is] [b] pos) (tT X.K ta Φ Ψ (.isB ca cb)) := PT.weak (pt_cmpR op_isBl ha.use hb.use hm) fun σ H Q ⟨S, ρ, τ, r, τ', k, hR, hT, he, hr, hQ⟩ => isB_data hR hT he (post_bool hr hQ)
theorem t_notB (ha : PE X a (tE X.K ta Φ Ψ ca)) (hb : PE X b (tE X.K ta Φ Ψ cb)) (hm : behindInMarks .IsNot b = false) : PT X (.Compare a [.IsNot] [b] pos) (tT X.K ta Φ Ψ (.notB ca cb)) := PT.weak (pt_cmpR op_notBl ha.use hb.use hm) fun σ H Q ⟨S, ρ, τ, r, τ', k, hR, hT, he, hr, hQ⟩ => notB_data hR hT he (post_bool hr hQ)
/-- and, or, not, if else: as tests, as values -/
theorem con_cases {σ : L2.St} {H S : Hp} {ρ : Rho} {τ τ' : Tp} {r : R} (he : ev Φ Ψ ρ τ (.con ca cb) = some (r, τ')) : ∃ x k, ev Φ Ψ ρ τ ca = some x ∧ x.1.d = .bool k ∧ (k = false → r = ⟨.S, .bool false⟩ ∧ τ' = x.2) ∧ (k = true → ∃ y j, ev Φ Ψ ρ x.2 cb = some (y, τ') ∧ y.d = .bool j ∧ r = ⟨.S, .bool j⟩) := by
  simp only [ev] at he
  obtain ⟨x, hx, he⟩ := bind_some he
  split at he
  · rename_i q
    obtain ⟨y, hy, he⟩ := bind_some he
    split at he
    · rename_i j q2
      cases he
      exact ⟨x, true, hx, q, (fun z => nomatch z), fun _ => ⟨y.1, j, hy, q2, rfl⟩⟩
    · cases he
  · rename_i q
    cases he
    exact ⟨x, false, hx, q, fun _ => ⟨rfl, rfl⟩, (fun z => nomatch z)⟩
  · cases he
theorem dis_cases {σ : L2.St} {H S : Hp} {ρ : Rho} {τ τ' : Tp} {r : R} (he : ev Φ Ψ ρ τ (.dis ca cb) = some (r, τ')) : ∃ x k, ev Φ Ψ ρ τ ca = some x ∧ x.1.d = .bool k ∧ (k = true → r = ⟨.S, .bool true⟩ ∧ τ' = x.2) ∧ (k = false → ∃ y j, ev Φ Ψ ρ x.2 cb = some (y, τ') ∧ y.d = .bool j ∧ r = ⟨.S, .bool j⟩) := by
  simp only [ev] at he
  obtain ⟨x, hx, he⟩ := bind_some he
  split at he
  · rename_i q
    obtain ⟨y, hy, he⟩ := bind_some he
    split at he
    · rename_i j q2
      cases he
      exact ⟨x, false, hx, q, (fun z => nomatch z), fun _ => ⟨y.1, j, hy, q2, rfl⟩⟩
    · cases he
  · rename_i q
    cases he
    exact ⟨x, true, hx, q, fun _ => ⟨rfl, rfl⟩, (fun z => nomatch z)⟩
  · cases he
theorem w_con {rest : List Expr} (ha : PT X a (tT X.K ta Φ Ψ ca)) (hb : PW X (.BoolOp .And (b :: rest) pos) (tT X.K ta Φ Ψ cb)) : PW X (.BoolOp .And (a :: b :: rest) pos) (tT X.K ta Φ Ψ (.con ca cb)) :=
  PW.weak (pw_and ha hb) fun σ H Q ⟨S, ρ, τ, r, τ', k0, hR, hT, he, hr, hQ⟩ => by
    obtain ⟨x, k, hx, q, h0, h1⟩ := con_cases (σ := σ) (H := H) (S := S) he
    refine ⟨S, ρ, τ, x.1, x.2, k, hR, hT, hx, q, fun S1 H1 st => ?_⟩
    cases k with
    | false =>
      obtain ⟨rfl, rfl⟩ := h0 rfl
      cases hr
      exact iteF (hQ S1 H1 st)
    | true =>
      obtain ⟨y, j, hy, q2, rfl⟩ := h1 rfl
      cases hr
      exact iteT ⟨S1, ρ, x.2, y, τ', _, hR.step st, st.tape, hy, q2, fun S2 H2 st2 => hQ S2 H2 (st.trans st2)⟩
theorem w_dis {rest : List Expr} (ha : PT X a (tT X.K ta Φ Ψ ca)) (hb : PW X (.BoolOp .Or (b :: rest) pos) (tT X.K ta Φ Ψ cb)) : PW X (.BoolOp .Or (a :: b :: rest) pos) (tT X.K ta Φ Ψ (.dis ca cb)) :=
  PW.weak (pw_or ha hb) fun σ H Q ⟨S, ρ, τ, r, τ', k0, hR, hT, he, hr, hQ⟩ => by
    obtain ⟨x, k, hx, q, h0, h1⟩ := dis_cases (σ := σ) (H := H) (S := S) he
    refine ⟨S, ρ, τ, x.1, x.2, k, hR, hT, hx, q, fun S1 H1 st => ?_⟩
    cases k with
    | true =>
      obtain ⟨rfl, rfl⟩ := h0 rfl
      cases hr
      exact iteT (hQ S1 H1 st)
    | false =>
      obtain ⟨y, j, hy, q2, rfl⟩ := h1 rfl
      cases hr
      exact iteF ⟨S1, ρ, x.2, y, τ', _, hR.step st, st.tape, hy, q2, fun S2 H2 st2 => hQ S2 H2 (st.trans st2)⟩
theorem tE_of {σ : L2.St} {H S : Hp} {ρ : Rho} {τ τ' : Tp} {y : R} {j : Bool} {Q : VK} (hR : Rel X.K ta ρ S σ H) (hT : TpOk X.K ta S H τ) (hy : ev Φ Ψ ρ τ cb = some (y, τ')) (q2 : y.d = .bool j) (hQ : ∀ S2 H2, Stp X.K ta τ' S H S2 H2 → Q (.bl j) H2) : (tE X.K ta Φ Ψ cb) σ H Q :=
  ⟨S, ρ, τ, y, τ', hR, hT, hy, fun v S2 H2 st rv => by
    obtain ⟨k', e1, e2⟩ := post_bool (Q := fun k H' => k = j → Q (.bl k) H') q2 (fun S' H' st' _ => hQ S' H' st') v S2 H2 st rv
    have : k' = j := by
      obtain ⟨kd, d⟩ := y
      have e : d = .bool j := q2
      subst e
      cases kd with
      | S => have e3 : v = .bl j := rv; rw [e3] at e1; cases e1; rfl
      | B => obtain ⟨p, ds, vs, z, _⟩ := rv; cases z
      | F => obtain ⟨p, ds, vs, z, _⟩ := rv; cases z
    subst this
    rw [e1]
    exact e2 rfl⟩
theorem e_con {rest : List Expr} (ha : PE X a (tE X.K ta Φ Ψ ca)) (hb : PE X (.BoolOp .And (b :: rest) pos) (tE X.K ta Φ Ψ cb)) : PE X (.BoolOp .And (a :: b :: rest) pos) (tE X.K ta Φ Ψ (.con ca cb)) :=
  PE.weak (pe_and ha hb) fun σ H Q ⟨S, ρ, τ, r, τ', hR, hT, he, hQ⟩ => by
    obtain ⟨x, k, hx, q, h0, h1⟩ := con_cases (σ := σ) (H := H) (S := S) he
    refine tE_of hR hT hx q fun S1 H1 st => ⟨k, rfl, ?_⟩
    cases k with
    | false =>
      obtain ⟨rfl, rfl⟩ := h0 rfl
      exact iteF (hQ _ S1 H1 st rfl)
    | true =>
      obtain ⟨y, j, hy, q2, rfl⟩ := h1 rfl
      exact iteT (tE_of (hR.step st) st.tape hy q2 fun S2 H2 st2 => hQ _ S2 H2 (st.trans st2) rfl)
theorem e_dis {rest : List Expr} (ha : PE X a (tE X.K ta Φ Ψ ca)) (hb : PE X (.BoolOp .Or (b :: rest) pos) (tE X.K ta Φ Ψ cb)) : PE X (.BoolOp .Or (a :: b :: rest) pos) (tE X.K ta Φ Ψ (.dis ca cb)) :=
  PE.weak (pe_or ha hb) fun σ H Q ⟨S, ρ, τ, r, τ', hR, hT, he, hQ⟩ => by
    obtain ⟨x, k, hx, q, h0, h1⟩ := dis_cases (σ := σ) (H := H) (S := S) he
    refine tE_of hR hT hx q fun S1 H1 st => ⟨k, rfl, ?_⟩
    cases k with
    | true =>
      obtain ⟨rfl, rfl⟩ := h0 rfl
      exact iteT (hQ _ S1 H1 st rfl)
    | false =>
      obtain ⟨y, j, hy, q2, rfl⟩ := h1 rfl
      exact iteF (tE_of (hR.step st) st.tape hy q2 fun S2 H2 st2 => hQ _ S2 H2 (st.trans st2) rfl)
theorem inv_cases {ρ : Rho} {τ τ' : Tp} {r : R} (he : ev Φ Ψ ρ τ (.inv ca) = some (r, τ')) : ∃ x k, ev Φ Ψ ρ τ ca = some (x, τ') ∧ x.d = .bool k ∧ r = ⟨.S, .bool (!k)⟩ := by
  simp only [ev] at he
  obtain ⟨x, hx, he⟩ := bind_some he
  split at he
  · rename_i k q
    cases he
    exact ⟨x.1, k, hx, q, rfl⟩
  · cases he
theorem t_inv (ha : PT X a (tT X.K ta Φ Ψ ca)) : PT X (.UnaryOp .Not a pos) (tT X.K ta Φ Ψ (.inv ca)) :=
  PT.weak (pt_not ha) fun σ H Q ⟨S, ρ, τ, r, τ', k0, hR, hT, he, hr, hQ⟩ => by
    obtain ⟨x, k, hx, q, rfl⟩ := inv_cases he
    cases hr
    exact ⟨S, ρ, τ, x, τ', k, hR, hT, hx, q, hQ⟩
theorem e_inv (ha : PE X a (tE X.K ta Φ Ψ ca)) : PE X (.UnaryOp .Not a pos) (tE X.K ta Φ Ψ (.inv ca)) :=
  PE.weak (pe_not ha) fun σ H Q ⟨S, ρ, τ, r, τ', hR, hT, he, hQ⟩ => by
    obtain ⟨x, k, hx, q, rfl⟩ := inv_cases he
    exact tE_of hR hT hx q fun S1 H1 st => ⟨k, rfl, hQ _ S1 H1 st rfl⟩
theorem e_ite (hc : PT X c (tT X.K ta Φ Ψ cc)) (ha : PE X a (tE X.K ta Φ Ψ ca)) (hb : PE X b (tE X.K ta Φ Ψ cb)) : PE X (.IfExp c a b pos) (tE X.K ta Φ Ψ (.ite cc ca cb)) :=
  PE.weak (pe_ifExp hc ha hb) fun σ H Q ⟨S, ρ, τ, r, τ', hR, hT, he, hQ⟩ => by
    simp only [ev] at he
    obtain ⟨x, hx, he⟩ := bind_some he
    split at he
    · rename_i q
      exact ⟨S, ρ, τ, x.1, x.2, true, hR, hT, hx, q, fun S1 H1 st => iteT ⟨S1, ρ, x.2, r, τ', hR.step st, st.tape, he, Post.later hQ st⟩⟩
    · rename_i q
      exact ⟨S, ρ, τ, x.1, x.2, false, hR, hT, hx, q, fun S1 H1 st => iteF ⟨S1, ρ, x.2, r, τ', hR.step st, st.tape, he, Post.later hQ st⟩⟩
    · cases he
/-- arguments -/
theorem as_nil : PA X [] (tAs X.K ta Φ Ψ []) := PA.weak pa_nil fun σ H Q ⟨S, ρ, τ, rs, τ', hR, hT, he, hQ⟩ => by
  simp only [evs, Option.some.injEq, Prod.mk.injEq] at he
  obtain ⟨rfl, rfl⟩ := he
  exact hQ [] S H (Stp.refl hR.sub hT) trivial
theorem as_cons {es : List Expr} {cs : List E} (ha : PE X e (tE X.K ta Φ Ψ ca)) (hr : PA X es (tAs X.K ta Φ Ψ cs)) (hs : starEach (e :: es) X.env = (false, eval e X.env) :: starEach es X.env) : PA X (e :: es) (tAs X.K ta Φ Ψ (ca :: cs)) :=
  PA.weak (pa_cons ha.use hr hs) fun σ H Q ⟨S, ρ, τ, rs, τ', hR, hT, he, hQ⟩ => by
    simp only [evs] at he
    obtain ⟨x, hx, he⟩ := bind_some he
    obtain ⟨y, hy, he⟩ := map_some he
    cases he
    exact one_ok hR hT hx fun vx S1 H1 st1 u1 => ⟨S1, ρ, x.2, y.1, y.2, hR.step st1, st1.tape, hy, fun vs S2 H2 st2 u2 => hQ _ S2 H2 (st1.trans st2) ⟨u1.mono st2, u2⟩⟩
theorem e_tup {es : List Expr} {cs : List E} {x1 : Nat} (h : PA X es (tAs X.K ta Φ Ψ cs)) : PE X (.Tuple es x1 pos) (tE X.K ta Φ Ψ (.tup cs)) :=
  PE.weak (pe_tup h) fun σ H Q ⟨S, ρ, τ, r, τ', hR, hT, he, hQ⟩ => by
    simp only [ev] at he
    obtain ⟨x, hx, he⟩ := bind_some he
    obtain ⟨ds, hd, he⟩ := bind_some he
    split at he
    · rename_i hc
      cases he
      refine ⟨S, ρ, τ, x.1, x.2, hR, hT, hx, fun vs S1 H1 st u => ?_⟩
      have hall := u.st hd
      refine ⟨len_of (by rw [hall.length]; exact of_decide_eq_true hc), fun p n => (Post.later hQ st).tup st.sub st.tape hall n⟩
    · cases he
theorem e_lst {es : List Expr} {cs : List E} (h : PA X es (tAs X.K ta Φ Ψ cs)) : PE X (.List es pos) (tE X.K ta Φ Ψ (.lst cs)) :=
  PE.weak (pe_lst h) fun σ H Q ⟨S, ρ, τ, r, τ', hR, hT, he, hQ⟩ => by
    simp only [ev] at he
    obtain ⟨x, hx, he⟩ := bind_some he
    obtain ⟨ds, hd, he⟩ := bind_some he
    split at he
    · rename_i hc
      cases he
      refine ⟨S, ρ, τ, x.1, x.2, hR, hT, hx, fun vs S1 H1 st u => ?_⟩
      have hall := u.st hd
      refine ⟨len_of (by rw [hall.length]; exact of_decide_eq_true hc), fun p n => (Post.later hQ st).lst st.sub st.tape hall n⟩
    · cases he
/-- subscripts, slices -/
theorem atI_len {α β : Type} {xs : List α} {ys : List β} {i : Int} {x : α} (h : xs.length = ys.length) (e : atI xs i = some x) : ∃ j, ixN ys.length i = some j ∧ xs[j]? = some x := by
  unfold atI at e
  rw [h] at e
  obtain ⟨j, h1, h2⟩ := bind_some e
  exact ⟨j, h1, h2⟩
theorem atD_rp {K : PySem.W.Frag} {H : Hp} {vs : List V} {ds : List D} {i : Int} {d : D} (h : RpAll K H vs ds) (e : atD ds i = some d) : ∃ v, atI vs i = some v ∧ Rp K H v d := by
  obtain ⟨j, h1, h2⟩ := atI_len (h.length).symm e
  obtain ⟨v, h3, h4⟩ := h.get h2
  exact ⟨v, by unfold atI; rw [h1]; exact h3, h4⟩
theorem e_idx (ha : PE X a (tE X.K ta Φ Ψ ca)) (hb : PE X b (tE X.K ta Φ Ψ cb)) (hs : PlainIx b) : PE X (.Subscript a b pos) (tE X.K ta Φ Ψ (.idx ca cb)) :=
  PE.weak (pe_ix ix_seq ha.use hb.use hs) fun σ H Q ⟨S, ρ, τ, r, τ', hR, hT, he, hQ⟩ => by
    simp only [ev] at he
    obtain ⟨x, hx, he⟩ := bind_some he
    obtain ⟨y, hy, he⟩ := bind_some he
    obtain ⟨z, hz, he⟩ := map_some he
    cases he
    refine two_ok hR hT hx hy fun vx vy S2 H2 st u1 u2 => ?_
    have p := Post.later hQ st
    cases q1 : x.1.d <;> cases q2 : y.1.d <;> rw [q1, q2] at hz <;> simp only [idxD] at hz <;> first | cases hz | skip
    · obtain ⟨d, hd, hz⟩ := map_some hz
      cases hz
      obtain ⟨q, vs, rfl, e2, e3⟩ := u1.lst st.sub q1
      obtain ⟨v, e4, e5⟩ := atD_rp e3 hd
      exact .inl ⟨q, vs, _, v, rfl, u2.int q2, SqL.of e2, e4, p.here st.sub st.tape e5⟩
    · obtain ⟨d, hd, hz⟩ := map_some hz
      cases hz
      obtain ⟨q, vs, rfl, e2, e3⟩ := u1.tup q1
      obtain ⟨v, e4, e5⟩ := atD_rp e3 hd
      exact .inr (.inl ⟨q, vs, _, v, rfl, u2.int q2, Same.seqT st.sub e2, e4, p.here st.sub st.tape e5⟩)
theorem cut_rp {K : PySem.W.Frag} {H : Hp} {vs : List V} {ds : List D} (h : RpAll K H vs ds) (lo hi : Option Int) : RpAll K H (cutV vs lo hi) (cutD ds lo hi) := by
  unfold cutV cutD
  rw [h.length]
  exact RpAll.take _ (RpAll.drop _ h)
theorem cut_all {ds : List D} {lo hi : Option Int} (h1 : HT.sIx ds.length 0 lo = 0) (h2 : HT.sIx ds.length ds.length hi = ds.length) : cutD ds lo hi = ds := by
  unfold cutD
  rw [h1, h2]
  simp
/-- a slice of a tuple or a list, by values -/
theorem slc_run : SlR X (fun x lo hi H Q => ∃ S τ r1 r, Same S H ∧ TpOk X.K ta S H τ ∧ UV X.K ta S H x r1 ∧ slcD r1.d lo hi = some r ∧ Post X.K ta S H τ r Q) := by
  intro pins s σ H x v vl vu lo hi sl Q I rx h1 h2 h3 ⟨S, τ, r1, r, hs, ht, u, e, p⟩
  unfold slcD at e
  split at e
  · rename_i ds q
    cases e
    obtain ⟨a, vs, rfl, e2, e3⟩ := u.tup q
    refine sl_tupA pins s σ H _ v vl vu lo hi sl Q I rx h1 h2 h3 ⟨a, vs, rfl, Same.seqT hs e2, fun z => ?_, fun z q n => p.tup hs ht (cut_rp e3 lo hi) n⟩
    rw [e3.length] at z
    rw [cut_all z.1 z.2] at p
    exact p.here hs ht ⟨a, vs, rfl, e2, e3⟩
  · rename_i ds q
    cases e
    obtain ⟨a, vs, rfl, e2, e3⟩ := u.lst hs q
    exact sl_list pins s σ H _ v vl vu lo hi sl Q I rx h1 h2 h3 ⟨a, vs, rfl, SqL.of e2, fun q n => p.lst hs ht (cut_rp e3 lo hi) n⟩
  · cases e
theorem e_slc {p2 : Pos} (ha : PE X a (tE X.K ta Φ Ψ ca)) (hb : PE X b (tE X.K ta Φ Ψ cb)) (hc : PE X c (tE X.K ta Φ Ψ cc)) : PE X (.Subscript a (.Slice (some b) (some c) none p2) pos) (tE X.K ta Φ Ψ (.slc ca cb cc)) :=
  PE.weak (pe_slice (slc_run (ta := ta)) ha.use (po_some hb.use) (po_some hc.use)) fun σ H Q ⟨S, ρ, τ, r, τ', hR, hT, he, hQ⟩ => by
    simp only [ev] at he
    obtain ⟨x, hx, he⟩ := bind_some he
    obtain ⟨y, hy, he⟩ := bind_some he
    obtain ⟨z, hz, he⟩ := bind_some he
    obtain ⟨i, hi, he⟩ := bind_some he
    obtain ⟨j, hj, he⟩ := bind_some he
    obtain ⟨w, hw, he⟩ := map_some he
    cases he
    refine one_ok hR hT hx fun vx S1 H1 st1 u1 => one_ok (hR.step st1) st1.tape hy fun vy S2 H2 st2 u2 => ⟨i, u2.int (intOf_some hi), ?_⟩
    refine one_ok (hR.step (st1.trans st2)) st2.tape hz fun vz S3 H3 st3 u3 => ⟨j, u3.int (intOf_some hj), ?_⟩
    exact ⟨S3, z.2, x.1, _, st3.sub, st3.tape, (u1.mono st2).mono st3, hw, Post.later hQ ((st1.trans st2).trans st3)⟩
theorem e_slcL {p2 : Pos} (ha : PE X a (tE X.K ta Φ Ψ ca)) (hb : PE X b (tE X.K ta Φ Ψ cb)) : PE X (.Subscript a (.Slice (some b) none none p2) pos) (tE X.K ta Φ Ψ (.slcL ca cb)) :=
  PE.weak (pe_slice (slc_run (ta := ta)) ha.use (po_some hb.use) po_none) fun σ H Q ⟨S, ρ, τ, r, τ', hR, hT, he, hQ⟩ => by
    simp only [ev] at he
    obtain ⟨x, hx, he⟩ := bind_some he
    obtain ⟨y, hy, he⟩ := bind_some he
    obtain ⟨i, hi, he⟩ := bind_some he
    obtain ⟨w, hw, he⟩ := map_some he
    cases he
    refine one_ok hR hT hx fun vx S1 H1 st1 u1 => one_ok (hR.step st1) st1.tape hy fun vy S2 H2 st2 u2 => ⟨i, u2.int (intOf_some hi), ?_⟩
    exact ⟨S2, y.2, x.1, _, st2.sub, st2.tape, u1.mono st2, hw, Post.later hQ (st1.trans st2)⟩
theorem e_slcH {p2 : Pos} (ha : PE X a (tE X.K ta Φ Ψ ca)) (hc : PE X c (tE X.K ta Φ Ψ cc)) : PE X (.Subscript a (.Slice none (some c) none p2) pos) (tE X.K ta Φ Ψ (.slcH ca cc)) :=
  PE.weak (pe_slice (slc_run (ta := ta)) ha.use po_none (po_some hc.use)) fun σ H Q ⟨S, ρ, τ, r, τ', hR, hT, he, hQ⟩ => by
    simp only [ev] at he
    obtain ⟨x, hx, he⟩ := bind_some he
    obtain ⟨y, hy, he⟩ := bind_some he
    obtain ⟨i, hi, he⟩ := bind_some he
    obtain ⟨w, hw, he⟩ := map_some he
    cases he
    refine one_ok hR hT hx fun vx S1 H1 st1 u1 => one_ok (hR.step st1) st1.tape hy fun vy S2 H2 st2 u2 => ⟨i, u2.int (intOf_some hi), ?_⟩
    exact ⟨S2, y.2, x.1, _, st2.sub, st2.tape, u1.mono st2, hw, Post.later hQ (st1.trans st2)⟩
theorem e_slcA {p2 : Pos} (ha : PE X a (tE X.K ta Φ Ψ ca)) : PE X (.Subscript a (.Slice none none none p2) pos) (tE X.K ta Φ Ψ (.slcA ca)) :=
  PE.weak (pe_slice (slc_run (ta := ta)) ha.use po_none po_none) fun σ H Q ⟨S, ρ, τ, r, τ', hR, hT, he, hQ⟩ => by
    simp only [ev] at he
    obtain ⟨x, hx, he⟩ := bind_some he
    obtain ⟨w, hw, he⟩ := map_some he
    cases he
    exact one_ok hR hT hx fun vx S1 H1 st1 u1 => ⟨S1, x.2, x.1, _, st1.sub, st1.tape, u1, hw, Post.later hQ st1⟩
theorem e_rev {k : Nat} {p1 p2 p3 : Pos} (ha : PE X a (tE X.K ta Φ Ψ ca)) : PE X (.Subscript a (.Slice none none (some (.UnaryOp .USub (.Constant (.int 1) k p1) p2)) p3) pos) (tE X.K ta Φ Ψ (.rev ca)) :=
  PE.weak (pe_revA ha.use) fun σ H Q ⟨S, ρ, τ, r, τ', hR, hT, he, hQ⟩ => by
    simp only [ev] at he
    obtain ⟨x, hx, he⟩ := bind_some he
    obtain ⟨w, hw, he⟩ := map_some he
    cases he
    refine one_ok hR hT hx fun vx S1 H1 st u => ?_
    cases q : x.1.d <;> rw [q] at hw <;> simp only [revD] at hw <;> first | cases hw | skip
    · obtain ⟨p, vs, rfl, e2, e3⟩ := u.lst st.sub q
      exact ⟨p, vs, rfl, .inl ⟨SqL.of e2, fun q' n => (Post.later hQ st).lst st.sub st.tape (RpAll.reverse e3) n⟩⟩
    · obtain ⟨p, vs, rfl, e2, e3⟩ := u.tup q
      exact ⟨p, vs, rfl, .inr ⟨Same.seqT st.sub e2, fun q' n => (Post.later hQ st).tup st.sub st.tape (RpAll.reverse e3) n⟩⟩
/-- a value as a test -/
theorem t_tru (ha : PE X a (tE X.K ta Φ Ψ ca)) (he : ∀ whole, isTrue a X.env whole = (do let v ← whole; standAt a.pos; holding [v] (truthy v))) : PT X a (tT X.K ta Φ Ψ (.tru ca)) :=
  PT.weak (pt_truth ha.use he) fun σ H Q ⟨S, ρ, τ, r, τ', k, hR, hT, hv, hr, hQ⟩ => by
    simp only [ev] at hv
    obtain ⟨x, hx, hv⟩ := bind_some hv
    obtain ⟨b, hb, hv⟩ := map_some hv
    cases hv
    have ek : k = b := by cases hr; rfl
    refine one_ok hR hT hx fun vx S1 H1 st u => ⟨k, ?_, hQ S1 H1 st⟩
    rw [ek]
    clear hr ek hQ
    cases q : x.1.d with
    | none =>
      rw [q] at hb
      cases hb
      have e : vx = .non := by
        obtain ⟨⟨kd, d⟩, τ1⟩ := x
        have q' : d = .none := q
        subst q'
        cases kd with
        | S => exact u
        | F => exact u
        | B => obtain ⟨_, _, _, z, _⟩ := u; cases z
      rw [e]; rfl
    | bool c =>
      rw [q] at hb
      cases hb
      rw [u.bool q]; rfl
    | int i =>
      rw [q] at hb
      cases hb
      rw [u.int q]
      show (!decide (i = 0)) = (i != 0)
      by_cases h : i = 0
      · subst h; rfl
      · rw [decide_eq_false h, bne_iff_ne.mpr h]; rfl
    | list ds =>
      rw [q] at hb
      cases hb
      obtain ⟨p, vs, rfl, e2, e3⟩ := u.lst st.sub q
      exact .inl ⟨vs, SqL.of e2, by cases ds <;> cases vs <;> first | rfl | (have := e3.length; simp at this)⟩
    | tuple ds =>
      rw [q] at hb
      cases hb
      obtain ⟨p, vs, rfl, e2, e3⟩ := u.tup q
      exact .inr (.inl ⟨vs, Same.seqT st.sub e2, by cases ds <;> cases vs <;> first | rfl | (have := e3.length; simp at this)⟩)
    | str _ => rw [q] at hb; cases hb
    | dict _ => rw [q] at hb; cases hb
/-- calls -/
theorem e_call {k n : Nat} {f : Addr} {fd : FuncData} {ps : List Str} {x : Str} {p : Pos} {es : List Expr} {cs : List E} (F : FnOk X.prog X.w X.K X.mg X.base CX0 k f fd ps (spP X.K (Φ n))) (hr : Room k X.A) (hg : Gl X x) (hm : X.mg x = some (.ref f)) (hk : PySem.W.keepIn X.K (.ref f) = true)
    (hb : Binds X.K fd ps []) (ha : PA X (e :: es) (tAs X.K ta Φ Ψ cs)) (hdb : (x == ("__debug__" : Str)) = false) (he : starEach (e :: es) X.env = (false, eval e X.env) :: starEach es X.env) (hpl : (backTo pos (starEach es X.env)).any (·.1) = false) :
    PE X (.Call (.Name x p) (e :: es) [] pos) (tE X.K ta Φ Ψ (.call n cs)) :=
  PE.weak (pe_call (dvs := []) F hr hg hm hk hb .nil (pass0 (X := X)) ha hdb he hpl) fun σ H Q ⟨S, ρ, τ, r, τ', hR, hT, hv, hQ⟩ => by
    simp only [ev] at hv
    obtain ⟨x, hx, hv⟩ := bind_some hv
    obtain ⟨y, hy, hv⟩ := bind_some hv
    split at hv
    · rename_i hc
      cases hv
      refine ⟨S, ρ, τ, x.1, x.2, hR, hT, hx, fun vs S1 H1 st u => ?_⟩
      refine ⟨x.1.map (·.d), _, by rw [List.append_nil]; exact u.rp st.sub, hy, hc, fun v H' hs hrp => ?_⟩
      obtain ⟨S', st', rv⟩ := after_call (τ2 := x.2) st.sub st.tape (fun b o _ e => hs _ _ e) (fun a e => ⟨hs _ _ (st.tape a e).2.1, rfl⟩) hc hrp
      exact hQ v S' H' (st.trans st') (rv.back st)
    · cases hv
theorem e_callT {k n i : Nat} {f : Addr} {fd : FuncData} {ps : List Str} {x : Str} {p : Pos} {es : List Expr} {cs : List E} (F : FnOk X.prog X.w X.K X.mg X.base CX0 k f fd ps (spT X.K (Ψ n))) (hr : Room k X.A) (hg : Gl X x) (hm : X.mg x = some (.ref f)) (hk : PySem.W.keepIn X.K (.ref f) = true)
    (hb : Binds X.K fd ps []) (hΨ : ∀ ds τ r τ', Ψ n ds τ = some (r, τ') → τ'.cells = τ.cells) (hv0 : PE X e (tVar i)) (ha : PA X es (tAs X.K ta Φ Ψ cs)) (hdb : (x == ("__debug__" : Str)) = false) (he : starEach (e :: es) X.env = (false, eval e X.env) :: starEach es X.env) (hpl : (backTo pos (starEach es X.env)).any (·.1) = false) :
    PE X (.Call (.Name x p) (e :: es) [] pos) (tE X.K ta Φ Ψ (.callT n i cs)) :=
  PE.weak (pe_call (dvs := []) F hr hg hm hk hb .nil (pass0 (X := X)) (pa_cons hv0 ha he) hdb he hpl) fun σ H Q ⟨S, ρ, τ, r, τ', hR, hT, hv, hQ⟩ => by
    simp only [ev] at hv
    split at hv
    · rename_i hi
      obtain ⟨x, hx, hv⟩ := bind_some hv
      obtain ⟨y, hy, hv⟩ := bind_some hv
      split at hv
      · rename_i hc
        cases hv
        obtain ⟨a, ea, ev⟩ := hR.slot i _ hi
        refine ⟨.ref a, getD_some ev, S, ρ, τ, x.1, x.2, hR, hT, hx, fun vs S1 H1 st u => ?_⟩
        have tp := st.tape a ea
        have sub1 : Same S1 (del H1 a) := fun b o e => by
          have nb : b ≠ a := fun z => by rw [z, tp.1] at e; cases e
          rw [del_ne nb]; exact st.sub _ _ e
        have hrp : RpAll X.K (del H1 a) vs (x.1.map (·.d)) := by
          have st2 : Stp X.K ta x.2 S1 H1 S1 H1 := Stp.refl st.sub st.tape
          clear hx hy hc
          generalize x.1 = rs at u
          clear tp hv0
          induction rs generalizing vs with
          | nil => cases vs with
            | nil => exact rfl
            | cons _ _ => exact u.elim
          | cons r0 rs ih => cases vs with
            | nil => exact u.elim
            | cons v0 vs =>
              refine ⟨v0, vs, rfl, ?_, ih vs u.2⟩
              have u0 := u.1
              obtain ⟨kd, d⟩ := r0
              cases kd with
              | S => exact Rp.mono sub1 d u0
              | F => exact Rp.mono sub1 d u0
              | B =>
                obtain ⟨q, ds, ws, e1, e2, e3, e4, e5⟩ := u0
                have e1' : d = .list ds := e1
                subst e1'
                exact ⟨q, ws, e2, by rw [del_ne (fun z => e5 (by rw [z]; exact ea))]; exact e3, RpAll.mono sub1 ds e4⟩
        refine ⟨a, ta.b, vs, x.1.map (·.d), x.2, r, τ', by simp, ⟨del_same, tp.2.1, sub1.seq tp.2.2⟩, hrp, hy, hc, fun v H' hs tp' hret => ?_⟩
        have gro : ∀ b o, ta.a ≠ some b → H1 b = some o → H' b = some o := fun b o n e => by
          have nb : b ≠ a := fun z => n (z ▸ ea)
          have := hs b o (by rw [del_ne nb]; exact e)
          rw [del_ne nb] at this; exact this
        have hret' : RetP X.K H1 H' v r := by
          obtain ⟨kd, d⟩ := r
          cases kd with
          | S => exact Rp.mono del_sub d hret
          | B => exact Rp.mono del_sub d hret
          | F =>
            obtain ⟨q, ds, ws, e1, e2, e3, e4, e5⟩ := hret
            have nq : q ≠ a := fun z => by rw [z, del_same] at e4; cases e4
            rw [del_ne nq] at e3 e4
            exact ⟨q, ds, ws, e1, e2, e3, e4, RpAll.mono del_sub ds e5⟩
        have hcells : τ'.cells = x.2.cells := hΨ _ _ _ _ hy
        obtain ⟨S', st', rv⟩ := after_call (τ2 := τ') st.sub st.tape gro (fun a' e' => by
          rw [ea] at e'
          cases e'
          exact ⟨tp'.2.1, hcells⟩) hc hret'
        exact hQ v S' H' (st.trans st') (rv.back st)
      · cases hv
    · cases hv
end
end Ev

/-! ## Ev6 -/
namespace Ev
open PySem PySem.Spec PyProof.Rows L2

/-! ### built-ins -/
def blV : Bl → Value
  | .len => .builtin "len" | .abs => .builtin "abs" | .min => .builtin "min" | .max => .builtin "max" | .int => .type "int" | .tuple => .type "tuple" | .list => .type "list"
  | .sum => .builtin "sum" | .any => .builtin "any" | .all => .builtin "all" | .sorted => .builtin "sorted" | .bitlen => .builtin "int.bit_length" | .setlen => .builtin "set"
def rBlt (K : PySem.W.Frag) (ta : Ta) (b : Bl) : List V → Hp → VK → Prop := fun xs H Q => ∃ S τ rs r, Same S H ∧ TpOk K ta S H τ ∧ UVs K ta S H xs rs ∧ bltD b (rs.map (·.d)) = some r ∧ Post K ta S H τ r Q
section
variable {K : PySem.W.Frag} {ta : Ta} {S H : Hp}
theorem UVs.one {xs : List V} {rs : List R} {d : D} (u : UVs K ta S H xs rs) (e : rs.map (·.d) = [d]) : ∃ x r, xs = [x] ∧ r.d = d ∧ UV K ta S H x r := by
  cases rs with
  | nil => cases e
  | cons r rs =>
    cases rs with
    | cons _ _ => simp at e
    | nil =>
      cases xs with
      | nil => exact u.elim
      | cons x xs =>
        cases xs with
        | cons _ _ => exact u.2.elim
        | nil => exact ⟨x, r, rfl, by simpa using e, u.1⟩
theorem UVs.two {xs : List V} {rs : List R} {d d2 : D} (u : UVs K ta S H xs rs) (e : rs.map (·.d) = [d, d2]) : ∃ x y r r2, xs = [x, y] ∧ r.d = d ∧ r2.d = d2 ∧ UV K ta S H x r ∧ UV K ta S H y r2 := by
  cases rs with
  | nil => cases e
  | cons r rs =>
    cases xs with
    | nil => exact u.elim
    | cons x xs =>
      have e2 : r.d = d ∧ rs.map (·.d) = [d2] := by simpa using e
      obtain ⟨y, r2, f1, f2, f3⟩ := UVs.one u.2 e2.2
      exact ⟨x, y, r, r2, by rw [f1], e2.1, f2, u.1, f3⟩
theorem maxL_best : ∀ {ns : List Int} {M : Int}, maxL ns = some M → M ∈ ns ∧ ∀ y, y ∈ ns → y ≤ M
  | [], _, h => by cases h
  | x :: r, M, h => by
    have h' : r.foldl max x = M := Option.some.inj h
    clear h
    induction r generalizing x with
    | nil => cases h'; simp
    | cons a r ih =>
      obtain ⟨h1, h2⟩ := ih (max x a) h'
      have h3 := h2 (max x a) List.mem_cons_self
      refine ⟨?_, fun y hy => ?_⟩
      · rcases List.mem_cons.mp h1 with e | e
        · by_cases hx : a ≤ x
          · rw [e, Int.max_eq_left hx]; simp
          · rw [e, Int.max_eq_right (by omega)]; simp
        · exact List.mem_cons_of_mem _ (List.mem_cons_of_mem _ e)
      · rcases List.mem_cons.mp hy with e | hy
        · omega
        · rcases List.mem_cons.mp hy with e | hy
          · omega
          · exact h2 y (List.mem_cons_of_mem _ hy)
theorem minL_best : ∀ {ns : List Int} {M : Int}, minL ns = some M → M ∈ ns ∧ ∀ y, y ∈ ns → M ≤ y
  | [], _, h => by cases h
  | x :: r, M, h => by
    have h' : r.foldl min x = M := Option.some.inj h
    clear h
    induction r generalizing x with
    | nil => cases h'; simp
    | cons a r ih =>
      obtain ⟨h1, h2⟩ := ih (min x a) h'
      have h3 := h2 (min x a) List.mem_cons_self
      refine ⟨?_, fun y hy => ?_⟩
      · rcases List.mem_cons.mp h1 with e | e
        · by_cases hx : a ≤ x
          · rw [e, Int.min_eq_right hx]; simp
          · rw [e, Int.min_eq_left (by omega)]; simp
        · exact List.mem_cons_of_mem _ (List.mem_cons_of_mem _ e)
      · rcases List.mem_cons.mp hy with e | hy
        · omega
        · rcases List.mem_cons.mp hy with e | hy
          · omega
          · exact h2 y (List.mem_cons_of_mem _ hy)
theorem intsOf_map : ∀ {ds : List D} {ns : List Int}, intsOf ds = some ns → ds = ns.map PyData.int
  | [], ns, h => by simp [intsOf] at h; subst h; rfl
  | d :: ds, ns, h => by
    cases d <;> simp [intsOf] at h
    obtain ⟨ms, h1, h2⟩ := h
    subst h2
    rw [intsOf_map h1]
    rfl
theorem depth_int : ∀ ns : List Int, PyData.depthAll (ns.map PyData.int) = 0
  | [] => by simp [PyData.depthAll]
  | n :: ns => by simp [PyData.depthAll, PyData.depth, depth_int ns]
theorem alike_int (ns : List Int) : PySem.W.AlikeAll (ns.map PyData.int) := by
  refine ⟨fun x hx y hy => ?_, fun x hx e => ?_⟩
  · obtain ⟨a, _, rfl⟩ := List.mem_map.mp hx
    obtain ⟨b, _, rfl⟩ := List.mem_map.mp hy
    simp [PySem.W.alike]
  · obtain ⟨a, _, z⟩ := List.mem_map.mp hx
    rw [e] at z; cases z
end
section
variable {X : Cx} {ta : Ta}
theorem tup_best (hc : X.calm = true) {pins : List (Addr × Obj)} {s : Shared} {σ : L2.St} {H : Hp} {a : Addr} {vs : List V} {us : List Value} {ns : List Int} {Q : VK} (I : Inv X pins σ H s) (hu : X.A.units + 80 < cLine) (rx : Vals [.ref a] us) (q : SqT X.K H a vs)
    (e : vs = ns.map V.int) : (∀ M, maxL ns = some M → Q (.int M) H → wpAny (model X.prog X.w) X.A (call (.builtin "max") us) (EP X pins σ Q) X.xe s) ∧ (∀ M, minL ns = some M → Q (.int M) H → wpAny (model X.prog X.w) X.A (call (.builtin "min") us) (EP X pins σ Q) X.xe s) := by
  subst e
  obtain ⟨its, rv, ht, hz⟩ := I.tuple q
  rw [Vals.ref1 rx]
  have hall : DpAll X.K H (ns.map V.int) (ns.map PyData.int) := by
    clear rv q hz
    induction ns with
    | nil => exact .nil
    | cons n ns ih => exact .cons (.int n) ih
  obtain ⟨as, hr⟩ := Dp.readsAll I (ns.map PyData.int) _ its hall rv
  have h0 := I.ok.hd hc
  cases ns with
  | nil => exact ⟨(fun M h => by cases h), (fun M h => by cases h)⟩
  | cons n ns =>
    have dp : PyData.depthAll (PyData.int n :: ns.map PyData.int) = 0 := depth_int (n :: ns)
    have fin : ∀ {i : Nat} {v : Value} {h' : Heap} {tk : Nat} {bs : List Addr} {M : Int}, Reads h' v (.int M) bs → (∀ b o, s.heap.get? b = some o → h'.get? b = some o) → Q (.int M) H → EP X pins σ Q v { s with heap := h', toks := tk } := fun {i v h' tk bs M} rd k qq => by
      cases rd
      exact ⟨.int M, H, I.kept k, ⟨_, rfl⟩, qq⟩
    refine ⟨fun M h hq => ?_, fun M h hq => ?_⟩
    · have h' : ns.foldl max n = M := Option.some.inj h
      refine PySem.W.max_tuple_data h0 (show s.heap.IsTuple a its.toArray from ht) (x := .int n) (xs := ns.map PyData.int) (by simpa using hr) (alike_int (n :: ns)) (by rw [dp]; omega) fun i v h2 tk bs hv rd k => ?_
      rw [PySem.W.maxD_ints, h'] at rd
      exact fin (i := i) rd k hq
    · have h' : ns.foldl min n = M := Option.some.inj h
      refine PySem.W.min_tuple_data h0 (show s.heap.IsTuple a its.toArray from ht) (x := .int n) (xs := ns.map PyData.int) (by simpa using hr) (alike_int (n :: ns)) (by rw [dp]; omega) fun i v h2 tk bs hv rd k => ?_
      rw [PySem.W.minD_ints, h'] at rd
      exact fin (i := i) rd k hq
theorem insI_perm (x : Int) : ∀ l : List Int, (insI x l).Perm (x :: l)
  | [] => .refl _
  | y :: r => by
    unfold insI
    split
    · exact .refl _
    · exact ((insI_perm x r).cons y).trans (.swap x y r)
theorem sortI_perm : ∀ l : List Int, (sortI l).Perm l
  | [] => .refl _
  | x :: r => (insI_perm x (sortI r)).trans ((sortI_perm r).cons x)
theorem insI_pw (x : Int) : ∀ l : List Int, l.Pairwise (· ≤ ·) → (insI x l).Pairwise (· ≤ ·)
  | [], _ => by simp [insI]
  | y :: r, h => by
    unfold insI
    split
    · rename_i hx
      refine List.Pairwise.cons (fun z hz => ?_) h
      rcases List.mem_cons.mp hz with rfl | hz
      · exact hx
      · exact Int.le_trans hx (List.rel_of_pairwise_cons h hz)
    · rename_i hx
      refine List.Pairwise.cons (fun z hz => ?_) (insI_pw x r (List.Pairwise.of_cons h))
      rcases List.mem_cons.mp ((insI_perm x r).mem_iff.mp hz) with rfl | hz
      · omega
      · exact List.rel_of_pairwise_cons h hz
theorem sortI_pw : ∀ l : List Int, (sortI l).Pairwise (· ≤ ·)
  | [] => by simp [sortI]
  | x :: r => insI_pw x _ (sortI_pw r)
theorem sort_uniq {ns ms : List Int} (p : ms.Perm ns) (h : ms.Pairwise (· ≤ ·)) : ms = sortI ns :=
  List.Perm.eq_of_pairwise (fun a b _ _ h1 h2 => Int.le_antisymm h1 h2) h (sortI_pw ns) (p.trans (sortI_perm ns).symm)
theorem rp_ints {K : PySem.W.Frag} {S : Hp} : ∀ ns : List Int, RpAll K S (ns.map V.int) (ns.map PyData.int)
  | [] => rfl
  | n :: r => ⟨_, _, rfl, rfl, rp_ints r⟩
theorem okS_alike {ds : List D} (h : okS ds = true) : ∀ x ∈ ds, ∀ y ∈ ds, PySem.W.alike x y = true := by
  unfold okS at h
  rw [Bool.and_eq_true] at h
  intro x hx y hy
  exact List.all_eq_true.mp (List.all_eq_true.mp h.1 x hx) y hy
theorem okS_tup {ds : List D} (h : okS ds = true) : ∀ x ∈ ds, (∃ y r, x = .tuple (y :: r)) ∧ PyData.depth x ≤ 8 := by
  unfold okS at h
  rw [Bool.and_eq_true] at h
  intro x hx
  have := List.all_eq_true.mp h.2 x hx
  split at this
  · exact ⟨⟨_, _, rfl⟩, of_decide_eq_true this⟩
  · cases this
theorem depthAll_le {n : Nat} : ∀ {ds : List D}, (∀ x ∈ ds, PyData.depth x ≤ n) → PyData.depthAll ds ≤ n
  | [], _ => by simp [PyData.depthAll]
  | d :: ds, h => by
    simp only [PyData.depthAll]
    have h1 := h d List.mem_cons_self
    have h2 := depthAll_le (ds := ds) fun x hx => h x (List.mem_cons_of_mem _ hx)
    omega
theorem each_rp {K : PySem.W.Frag} {S : Hp} : ∀ {vs : List V} {us : List Value} {ds : List D}, Vals vs us → RpAll K S vs ds → PySem.W.EachIs (fun v d => ∃ x, RelV x v ∧ Rp K S x d) us ds
  | _, _, [], rv, h => by
    have h' : _ = [] := h
    subst h'
    cases rv
    exact .nil
  | _, _, d :: ds, rv, h => by
    obtain ⟨x, r, rfl, h1, h2⟩ := h
    cases rv with
    | cons a b => exact .cons ⟨x, a, h1⟩ (each_rp b h2)
theorem rp_each {K : PySem.W.Frag} {S : Hp} : ∀ {us : List Value} {ds : List D}, PySem.W.EachIs (fun v d => ∃ x, RelV x v ∧ Rp K S x d) us ds → ∃ vs, Vals vs us ∧ RpAll K S vs ds
  | _, _, .nil => ⟨[], .nil, rfl⟩
  | _, _, .cons ⟨x, a, h1⟩ t => by
    obtain ⟨vs, b, h2⟩ := rp_each t
    exact ⟨x :: vs, .cons a b, x, vs, rfl, h1, h2⟩
theorem each_reads {h : Heap} : ∀ {us : List Value} {ds : List D} {as : List Addr}, ReadsAll h us ds as → PySem.W.EachIs (fun v d => ∃ as, Reads h v (id d) as) us ds
  | _, _, _, .nil => .nil
  | _, _, _, .cons a b => .cons ⟨_, a⟩ (each_reads b)
theorem lst_min (hc : X.calm = true) {pins : List (Addr × Obj)} {s : Shared} {σ : L2.St} {S H : Hp} {a : Addr} {vs : List V} {us : List Value} {d : D} {r : List D} {Q : VK} (I : Inv X pins σ H s) (hu : X.A.units + 80 < cLine) (rx : Vals [.ref a] us) (hs : Same S H) (e2 : H a = some (.lst vs))
    (e3 : RpAll X.K S vs (d :: r)) (hok : okS (d :: r) = true) (q : ∀ x, Rp X.K S x (PySem.W.minD d r) → Q x H) : wpAny (model X.prog X.w) X.A (call (.builtin "min") us) (EP X pins σ Q) X.xe s := by
  obtain ⟨its, rv, hl, hz⟩ := I.list (SqL.of e2)
  rw [Vals.ref1 rx]
  obtain ⟨as, hr⟩ := Dp.readsAll I (d :: r) vs its (RpAll.dp _ (RpAll.mono hs _ e3)) rv
  have hal := okS_alike hok
  have htu := okS_tup hok
  have hd : PyData.depthAll (d :: r) ≤ 8 := depthAll_le fun x hx => (htu x hx).2
  refine PySem.W.min_list_data (I.ok.hd hc) hl.isList (x := d) (xs := r) (by simpa using hr) ⟨hal, fun x hx e => ?_⟩ (by omega) fun i v h2 tk bs hv rd k => ?_
  · obtain ⟨y, w, e'⟩ := (htu x hx).1
    rw [e] at e'; cases e'
  · obtain ⟨bs', r1, hi, hm, _⟩ := PySem.W.readsAll_atA (vs := its.toArray) (by simpa using hr) i v hv
    have hmem : PySem.W.minD d r ∈ d :: r := by
      unfold PySem.W.minD
      have : ∀ (l : List D) (x : D), l.foldl (fun a y => if PySem.W.dataLt y a then y else a) x ∈ x :: l := by
        intro l
        induction l with
        | nil => intro x; simp
        | cons y l ih =>
          intro x
          rw [List.foldl_cons]
          cases hb : PySem.W.dataLt y x with
          | true =>
            rw [if_pos rfl]
            exact List.mem_cons_of_mem _ (ih y)
          | false =>
            rw [if_neg (by decide)]
            rcases List.mem_cons.mp (ih x) with e | e
            · rw [e]; exact List.mem_cons_self
            · exact List.mem_cons_of_mem _ (List.mem_cons_of_mem _ e)
      exact this r d
    have hu2 : (d :: r).getD i .none = PySem.W.minD d r := PySem.W.alike_unique _ _ _ _ _ (hal _ hm _ hmem) (PyProof.Rows.Reads.keeps k r1) rd
    have hg : (d :: r)[i]? = some (PySem.W.minD d r) := by
      rw [← hu2, List.getD_eq_getElem?_getD, List.getElem?_eq_getElem hi]; rfl
    obtain ⟨x, hx, rpx⟩ := e3.get hg
    have hv' : its[i]? = some v := by rw [← hv]; simp
    obtain ⟨v', hx', rel⟩ := rv.get hx
    rw [hv'] at hx'
    cases hx'
    exact ⟨x, H, I.kept k, rel, q x rpx⟩
theorem lst_srt (hc : X.calm = true) {pins : List (Addr × Obj)} {s : Shared} {σ : L2.St} {S H : Hp} {a : Addr} {vs : List V} {us : List Value} {ds : List D} {Q : VK} (I : Inv X pins σ H s) (hu : X.A.units + 80 < cLine) (rx : Vals [.ref a] us) (hs : Same S H) (e2 : H a = some (.lst vs))
    (e3 : RpAll X.K S vs ds) (hok : okS ds = true) (q : ∀ ys p, RpAll X.K S ys (ds.mergeSort (PySem.W.dataLe false id)) → H p = none → Q (.ref p) (upd H p (.lst ys))) : wpAny (model X.prog X.w) X.A (call (.builtin "sorted") us) (EP X pins σ Q) X.xe s := by
  obtain ⟨its, rv, hl, hz⟩ := I.list (SqL.of e2)
  rw [Vals.ref1 rx]
  obtain ⟨as, hr⟩ := Dp.readsAll I ds vs its (RpAll.dp _ (RpAll.mono hs _ e3)) rv
  have hal := okS_alike hok
  have htu := okS_tup hok
  have hlen : vs.length = ds.length := e3.length
  refine PySem.W.sorted_data (enc := id) hl.isList (each_rp rv e3) (each_reads hr) (by rw [List.map_id]; exact hal) (by rw [List.map_id]; exact .inl fun x hx => (htu x hx).1) (by rw [← hlen]; exact hz) (fun b hb => by have := (htu b hb).2; show _ + 2 + PyData.depth b < _; omega) fun out ho he => ?_
  obtain ⟨ys, ry, rp⟩ := rp_each he
  obtain ⟨ep, he'⟩ := PyProof.Rows.sortedAll_at s.heap its out.toArray
  have hl2 : ys.length ≤ sizeLine := by
    rw [ry.length, ho, ← hlen]; exact hz
  exact ⟨.ref _, upd H (s.heap.objs.size + 1) (.lst ys), I.laid (t' := s.toks) (fun _ _ => PyProof.Rows.sortedAll_old) (Nat.le_succ _) ⟨hl2, out, ep, ry, he'⟩, rfl, q _ _ rp (I.hok.fresh (Nat.le_succ _))⟩
theorem bl_run (hc : X.calm = true) (hu : X.A.units + 80 < cLine) (b : Bl) (h1 : b ≠ .setlen) (h2 : b ≠ .bitlen) : CallR X (blV b) (rBlt X.K ta b) := by
  intro pins s σ H xs us Q I rx ⟨S, τ, rs, r, hs, ht, u, e, p⟩
  generalize hd : rs.map (·.d) = dd at e
  unfold bltD at e
  split at e
  · cases e
    obtain ⟨x, r1, rfl, e1, u1⟩ := u.one hd
    obtain ⟨a, vs, rfl, e2, e3⟩ := u1.tup e1
    exact call_len_seq pins s σ H _ us Q I rx ⟨a, vs, rfl, .inr (Same.seqT hs e2), p.here hs ht (by rw [e3.length]; exact rfl)⟩
  · cases e
    obtain ⟨x, r1, rfl, e1, u1⟩ := u.one hd
    obtain ⟨a, vs, rfl, e2, e3⟩ := u1.lst hs e1
    exact call_len_seq pins s σ H _ us Q I rx ⟨a, vs, rfl, .inl (SqL.of e2), p.here hs ht (by rw [e3.length]; exact rfl)⟩
  · cases e
    obtain ⟨x, r1, rfl, e1, u1⟩ := u.one hd
    exact call_abs pins s σ H _ us Q I rx ⟨_, by rw [u1.int e1], p.here hs ht rfl⟩
  · cases e
    obtain ⟨x, y, r1, r2, rfl, e1, e2, u1, u2⟩ := u.two hd
    exact call_min2 hc pins s σ H _ us Q I rx ⟨_, _, by rw [u1.int e1, u2.int e2], p.here hs ht rfl⟩
  · cases e
    obtain ⟨x, y, r1, r2, rfl, e1, e2, u1, u2⟩ := u.two hd
    exact call_max2 hc pins s σ H _ us Q I rx ⟨_, _, by rw [u1.int e1, u2.int e2], p.here hs ht rfl⟩
  · obtain ⟨ns, en, e⟩ := bind_some e
    obtain ⟨M, em, e⟩ := map_some e
    cases e
    obtain ⟨x, r1, rfl, e1, u1⟩ := u.one hd
    obtain ⟨a, vs, rfl, e2, e3⟩ := u1.lst hs e1
    have ev := e3.ints en
    subst ev
    obtain ⟨b1, b2⟩ := maxL_best em
    refine cr_max hc pins s σ H _ us Q I rx ⟨a, ns, rfl, SqL.of e2, List.length_pos_of_mem b1, fun m m1 m2 => ?_⟩
    have : m = M := by have := b2 m m1; have := m2 M b1; omega
    subst this
    exact p.here hs ht rfl
  · rename_i ds
    obtain ⟨x, r1, rfl, e1, u1⟩ := u.one hd
    obtain ⟨a, vs, rfl, e2, e3⟩ := u1.lst hs e1
    split at e
    · rename_i ns en
      obtain ⟨M, em, e⟩ := map_some e
      cases e
      have ev := e3.ints en
      subst ev
      obtain ⟨b1, b2⟩ := minL_best em
      refine cr_min hc pins s σ H _ us Q I rx ⟨a, ns, rfl, SqL.of e2, List.length_pos_of_mem b1, fun m m1 m2 => ?_⟩
      have : m = M := by have := b2 m m1; have := m2 M b1; omega
      subst this
      exact p.here hs ht rfl
    · unfold minT at e
      split at e
      · split at e
        · rename_i hok
          cases e
          exact lst_min hc I hu rx hs e2 e3 hok fun x rp => p.here hs ht rp
        · cases e
      · cases e
  · obtain ⟨ns, en, e⟩ := bind_some e
    obtain ⟨M, em, e⟩ := map_some e
    cases e
    obtain ⟨x, r1, rfl, e1, u1⟩ := u.one hd
    obtain ⟨a, vs, rfl, e2, e3⟩ := u1.tup e1
    exact (tup_best hc I hu rx (Same.seqT hs e2) (e3.ints en)).1 M em (p.here hs ht rfl)
  · obtain ⟨ns, en, e⟩ := bind_some e
    obtain ⟨M, em, e⟩ := map_some e
    cases e
    obtain ⟨x, r1, rfl, e1, u1⟩ := u.one hd
    obtain ⟨a, vs, rfl, e2, e3⟩ := u1.tup e1
    exact (tup_best hc I hu rx (Same.seqT hs e2) (e3.ints en)).2 M em (p.here hs ht rfl)
  · cases e
    obtain ⟨x, r1, rfl, e1, u1⟩ := u.one hd
    exact call_int1 pins s σ H _ us Q I rx (.inl ⟨_, by rw [u1.int e1], p.here hs ht rfl⟩)
  · cases e
    obtain ⟨x, r1, rfl, e1, u1⟩ := u.one hd
    exact call_int1 pins s σ H _ us Q I rx (.inr ⟨_, by rw [u1.bool e1], p.here hs ht rfl⟩)
  · cases e
    obtain ⟨x, r1, rfl, e1, u1⟩ := u.one hd
    obtain ⟨a, vs, rfl, e2, e3⟩ := u1.lst hs e1
    exact call_tuple_of pins s σ H _ us Q I rx ⟨a, vs, rfl, .inl ⟨SqL.of e2, fun q n => p.tup hs ht e3 n⟩⟩
  · cases e
    obtain ⟨x, r1, rfl, e1, u1⟩ := u.one hd
    obtain ⟨a, vs, rfl, e2, e3⟩ := u1.tup e1
    exact call_tuple_of pins s σ H _ us Q I rx ⟨a, vs, rfl, .inr ⟨Same.seqT hs e2, p.here hs ht ⟨a, vs, rfl, e2, e3⟩⟩⟩
  · cases e
    obtain ⟨x, r1, rfl, e1, u1⟩ := u.one hd
    obtain ⟨a, vs, rfl, e2, e3⟩ := u1.lst hs e1
    exact call_list_of pins s σ H _ us Q I rx ⟨a, vs, rfl, .inl (SqL.of e2), fun q n => p.lst hs ht e3 n⟩
  · cases e
    obtain ⟨x, r1, rfl, e1, u1⟩ := u.one hd
    obtain ⟨a, vs, rfl, e2, e3⟩ := u1.tup e1
    exact call_list_of pins s σ H _ us Q I rx ⟨a, vs, rfl, .inr (Same.seqT hs e2), fun q n => p.lst hs ht e3 n⟩
  · obtain ⟨ns, en, e⟩ := map_some e
    cases e
    obtain ⟨x, r1, rfl, e1, u1⟩ := u.one hd
    obtain ⟨a, vs, rfl, e2, e3⟩ := u1.lst hs e1
    have ev := e3.ints en
    subst ev
    exact cr_sum hc pins s σ H _ us Q I rx ⟨a, ns, rfl, SqL.of e2, p.here hs ht rfl⟩
  · rename_i ds
    obtain ⟨x, r1, rfl, e1, u1⟩ := u.one hd
    obtain ⟨a, vs, rfl, e2, e3⟩ := u1.lst hs e1
    split at e
    · rename_i ns en
      cases e
      have ev := e3.ints en
      subst ev
      refine cr_sortedI pins s σ H _ us Q I rx ⟨a, ns, rfl, SqL.of e2, fun ns' q perm pw n => ?_⟩
      have e := sort_uniq perm pw
      subst e
      exact p.lst hs ht (rp_ints _) n
    · unfold srtT at e
      split at e
      · rename_i hok
        cases e
        exact lst_srt hc I hu rx hs e2 e3 hok fun ys q rp n => p.lst hs ht rp n
      · cases e
  · obtain ⟨ns, en, e⟩ := map_some e
    cases e
    obtain ⟨x, r1, rfl, e1, u1⟩ := u.one hd
    obtain ⟨a, vs, rfl, e2, e3⟩ := u1.lst hs e1
    have ev := e3.bools en
    subst ev
    exact cr_any hc pins s σ H _ us Q I rx ⟨a, ns, rfl, SqL.of e2, p.here hs ht rfl⟩
  · obtain ⟨ns, en, e⟩ := map_some e
    cases e
    obtain ⟨x, r1, rfl, e1, u1⟩ := u.one hd
    obtain ⟨a, vs, rfl, e2, e3⟩ := u1.lst hs e1
    have ev := e3.bools en
    subst ev
    exact cr_all hc pins s σ H _ us Q I rx ⟨a, ns, rfl, SqL.of e2, p.here hs ht rfl⟩
  · exact absurd rfl h1
  · exact absurd rfl h2
  · cases e
end

/-! ### what is walked -/
section
variable {K : PySem.W.Frag} {ta : Ta}
/-- what is given is stable, or a new tuple of stable things -/
def YldOk (K : PySem.W.Frag) (S H1 H2 : Hp) (v : V) (d : D) : Prop :=
  (H2 = H1 ∧ Rp K S v d) ∨ ∃ T vs es, v = .ref T ∧ H1 T = none ∧ H2 = upd H1 T (.tup vs) ∧ d = .tuple es ∧ RpAll K S vs es
/-- J yields ds; nb: what it walks is stable -/
def WalkOk (K : PySem.W.Frag) (ta : Ta) (nb : Bool) (J : It) (S H : Hp) (ds : List D) : Prop :=
  ∃ (G : Hp → Prop) (Y : Nat → Hp → V → Hp → Prop), Walk J ds.length G Y ∧ (∀ H', Same S H' → (nb = true ∨ ∀ b o, ta.a ≠ some b → H b = some o → H' b = some o) → G H') ∧
    ∀ i H1 v H2, i < ds.length → Y i H1 v H2 → ∃ d, ds[i]? = some d ∧ YldOk K S H1 H2 v d
def tIt (K : PySem.W.Frag) (ta : Ta) (Φ : Nat → List D → Option R) (Ψ : Nat → List D → Tp → Option (R × Tp)) (k : Nat) (its : List E) : TI := fun σ H Q => ∃ S ρ τ rs τ' ds, Rel K ta ρ S σ H ∧ TpOk K ta S H τ ∧ evs Φ Ψ ρ τ its = some (rs, τ') ∧ itD k (rs.map (·.d)) = some ds ∧
  ∀ J S' H', Stp K ta τ' S H S' H' → WalkOk K ta (!rs.any (fun r => r.k == .B)) J S' H' ds → Q J H'
theorem rngD_get : ∀ (n : Nat) (lo : Int) (i : Nat), i < n → (rngD lo n)[i]? = some (.int (lo + i))
  | n + 1, lo, 0, _ => by simp [rngD]
  | n + 1, lo, i + 1, h => by
    simp only [rngD, List.getElem?_cons_succ]
    rw [rngD_get n (lo + 1) i (by omega)]
    congr 2
    push_cast
    omega
theorem rngD_len : ∀ (n : Nat) (lo : Int), (rngD lo n).length = n
  | 0, _ => rfl
  | n + 1, lo => by simp [rngD, rngD_len n]
theorem rngC_len : ∀ (n : Nat) (lo c : Int), (rngC lo c n).length = n
  | 0, _, _ => rfl
  | n + 1, lo, c => by simp [rngC, rngC_len n]
theorem rngC_get : ∀ (n : Nat) (lo c : Int) (i : Nat), i < n → (rngC lo c n)[i]? = some (.int (lo + (i : Nat) * c))
  | n + 1, lo, c, 0, _ => by simp [rngC]
  | n + 1, lo, c, i + 1, h => by
    simp only [rngC, List.getElem?_cons_succ]
    rw [rngC_get n (lo + c) c i (by omega)]
    congr 2
    rw [show (((i + 1 : Nat) : Int)) = (i : Int) + 1 by omega, Int.add_mul, Int.one_mul]
    omega
theorem enumD_len : ∀ (ds : List D) (i : Nat), (enumD i ds).length = ds.length
  | [], _ => rfl
  | d :: ds, i => by simp [enumD, enumD_len ds]
theorem enumD_get : ∀ (ds : List D) (k i : Nat), (enumD k ds)[i]? = ds[i]?.map fun d => .tuple [.int ((k + i : Nat) : Int), d]
  | [], _, _ => by simp [enumD]
  | d :: ds, k, 0 => by simp [enumD]
  | d :: ds, k, i + 1 => by
    simp only [enumD, List.getElem?_cons_succ]
    rw [enumD_get ds (k + 1) i]
    congr 1
    funext e
    rw [show k + 1 + i = k + (i + 1) by omega]
theorem walk_rngOk {nb : Bool} {S H : Hp} (lo : Int) (n : Nat) : WalkOk K ta nb (Itr lo n) S H (rngD lo n) :=
  ⟨fun _ => True, YFn fun i => .int (lo + i), by rw [rngD_len]; exact walk_range, fun _ _ _ => trivial, fun i H1 v H2 hi y => ⟨_, rngD_get n lo i (by rw [rngD_len] at hi; exact hi), .inl ⟨y.1, y.2⟩⟩⟩
theorem walk_rngCOk {nb : Bool} {S H : Hp} (lo c : Int) (n : Nat) : WalkOk K ta nb (Itc lo c n) S H (rngC lo c n) :=
  ⟨fun _ => True, YFn fun i => .int (lo + (i : Nat) * c), by rw [rngC_len]; exact walk_rangeC, fun _ _ _ => trivial, fun i H1 v H2 hi y => ⟨_, rngC_get n lo c i (by rw [rngC_len] at hi; exact hi), .inl ⟨y.1, y.2⟩⟩⟩
theorem walk_lstOk {nb : Bool} {S H : Hp} {a : Addr} {vs : List V} {ds : List D} (h : H a = some (.lst vs)) (nt : ta.a ≠ some a) (ha : RpAll K S vs ds) (hs : nb = true → S a = some (.lst vs)) : WalkOk K ta nb (Itl K a) S H ds :=
  ⟨_, _, by rw [← ha.length]; exact walk_list (xs := vs), fun H' s c => by
    rcases c with c | c
    · exact SqL.of (s _ _ (hs c))
    · exact SqL.of (c a _ nt h), fun i H1 v H2 hi y => by
    obtain ⟨u, e1, e2⟩ := ha.get (List.getElem?_eq_getElem hi)
    have e3 := y.2
    rw [e1] at e3
    cases e3
    exact ⟨_, List.getElem?_eq_getElem hi, .inl ⟨y.1, e2⟩⟩⟩
theorem walk_tupOk {nb : Bool} {S H : Hp} {a : Addr} {vs : List V} {ds : List D} (h : SqT K S a vs) (ha : RpAll K S vs ds) : WalkOk K ta nb (Itt K a) S H ds :=
  ⟨_, _, by rw [← ha.length]; exact walk_tup (xs := vs), fun H' s _ => Same.seqT s h, fun i H1 v H2 hi y => by
    obtain ⟨u, e1, e2⟩ := ha.get (List.getElem?_eq_getElem hi)
    have e3 := y.2
    rw [e1] at e3
    cases e3
    exact ⟨_, List.getElem?_eq_getElem hi, .inl ⟨y.1, e2⟩⟩⟩
theorem walk_enumLOk {nb : Bool} {S H : Hp} {a : Addr} {vs : List V} {ds : List D} (h : H a = some (.lst vs)) (nt : ta.a ≠ some a) (ha : RpAll K S vs ds) (hs : nb = true → S a = some (.lst vs)) : WalkOk K ta nb (Ite K a) S H (enumD 0 ds) :=
  ⟨_, _, by rw [enumD_len, ← ha.length]; exact walk_enum (xs := vs), fun H' s c => by
    rcases c with c | c
    · exact SqL.of (s _ _ (hs c))
    · exact SqL.of (c a _ nt h), fun i H1 v H2 hi y => by
    rw [enumD_len] at hi
    obtain ⟨u, e1, e2⟩ := ha.get (List.getElem?_eq_getElem hi)
    obtain ⟨T, x, z, h1, h2, h3, h4, h5⟩ := y
    have h5' : vs[i]? = some z := h5
    have h4' : some (V.int (i : Nat)) = some x := h4
    rw [e1] at h5'
    cases h5'
    cases h4'
    exact ⟨_, by rw [enumD_get, List.getElem?_eq_getElem hi]; rfl, .inr ⟨T, _, [.int ((0 + i : Nat) : Int), ds[i]], h1, h2, h3, rfl, ⟨_, _, rfl, by rw [Nat.zero_add]; rfl, ⟨_, _, rfl, e2, rfl⟩⟩⟩⟩⟩
theorem walk_enumTOk {nb : Bool} {S H : Hp} {a : Addr} {vs : List V} {ds : List D} (h : SqT K S a vs) (ha : RpAll K S vs ds) : WalkOk K ta nb (IteT K a) S H (enumD 0 ds) :=
  ⟨_, _, by rw [enumD_len, ← ha.length]; exact walk_enumT (xs := vs), fun H' s _ => Same.seqT s h, fun i H1 v H2 hi y => by
    rw [enumD_len] at hi
    obtain ⟨u, e1, e2⟩ := ha.get (List.getElem?_eq_getElem hi)
    obtain ⟨T, x, z, h1, h2, h3, h4, h5⟩ := y
    have h5' : vs[i]? = some z := h5
    have h4' : some (V.int (i : Nat)) = some x := h4
    rw [e1] at h5'
    cases h5'
    cases h4'
    exact ⟨_, by rw [enumD_get, List.getElem?_eq_getElem hi]; rfl, .inr ⟨T, _, [.int ((0 + i : Nat) : Int), ds[i]], h1, h2, h3, rfl, ⟨_, _, rfl, by rw [Nat.zero_add]; rfl, ⟨_, _, rfl, e2, rfl⟩⟩⟩⟩⟩
end
section
variable {X : Cx} {ta : Ta} {Φ : Nat → List D → Option R} {Ψ : Nat → List D → Tp → Option (R × Tp)} {tg e a b : Expr} {ca cb : E}
theorem PI.weak {t t' : TI} (h : PI X tg e t) (w : ∀ σ H Q, t' σ H Q → t σ H Q) : PI X tg e t' := ⟨fun pins s σ H Q I q => h.run pins s σ H Q I (w _ _ _ q)⟩
/-- a list or a tuple is walked -/
theorem pi_seq {tl : TE} (hl : PE X e tl) : PI X tg e (fun σ H Q => tl σ H fun x H1 => ∃ a, x = .ref a ∧ (((∃ xs, SqL X.K H1 a xs) ∧ Q (Itl X.K a) H1) ∨ ((∃ xs, SqT X.K H1 a xs) ∧ Q (Itt X.K a) H1))) := by
  constructor
  intro pins s σ H Q I h
  apply thn (hl.run pins s σ H _ I h)
  rintro v s1 ⟨x, H1, I1, r1, a, rfl, q⟩
  cases r1
  have free : H1 s1.heap.objs.size = none := I1.hok.fresh (Nat.le_refl _)
  have young : ∀ b ∈ [s1.heap.objs.size], FpOk X pins H1 b := by
    intro b hb
    rw [List.mem_singleton.mp hb]
    exact I1.fpOk (Nat.le_refl _) free
  rcases q with ⟨⟨xs, hq⟩, q⟩ | ⟨⟨xs, hq⟩, q⟩
  · obtain ⟨its, rv, pl, _⟩ := I1.list hq
    apply wpAny_pyIter_list pl.isList
    exact ⟨_, _, _, _, H1, rfl, I1.kept (t' := s1.toks) (fun b o z => Heap.get?_push_of_some _ z), turn_list a _, ⟨_, Heap.get?_push_size _ rfl, rfl, rfl⟩, young, q⟩
  · obtain ⟨its, rv, pl, _⟩ := I1.tuple hq
    apply wpAny_pyIter_tuple (items := its.toArray) pl
    exact ⟨_, _, _, _, H1, rfl, I1.kept (t' := s1.toks) (fun b o z => Heap.get?_push_of_some _ z), turn_tuple a _, ⟨_, Heap.get?_push_size _ rfl, rfl, rfl⟩, young, q⟩
theorem lst2 {K : PySem.W.Frag} {S1 H1 : Hp} {v : V} {r : R} {τ : Tp} {ds : List D} (u : UV K ta S1 H1 v r) (s : Same S1 H1) (t : TpOk K ta S1 H1 τ) (e : r.d = .list ds) :
    ∃ p vs, v = .ref p ∧ H1 p = some (.lst vs) ∧ ta.a ≠ some p ∧ RpAll K S1 vs ds ∧ (r.k ≠ .B → S1 p = some (.lst vs)) := by
  obtain ⟨k, d⟩ := r
  have e' : d = .list ds := e
  subst e'
  have go : Rp K S1 v (.list ds) → ∃ p vs, v = .ref p ∧ H1 p = some (.lst vs) ∧ ta.a ≠ some p ∧ RpAll K S1 vs ds ∧ S1 p = some (.lst vs) := fun ⟨p, vs, e1, e2, e3⟩ =>
    ⟨p, vs, e1, s _ _ e2, (fun z => by have := (t p z).1; rw [e2] at this; cases this), e3, e2⟩
  cases k with
  | S => obtain ⟨p, vs, e1, e2, e3, e4, e5⟩ := go u; exact ⟨p, vs, e1, e2, e3, e4, fun _ => e5⟩
  | F => obtain ⟨p, vs, e1, e2, e3, e4, e5⟩ := go u; exact ⟨p, vs, e1, e2, e3, e4, fun _ => e5⟩
  | B =>
    obtain ⟨p, ds', vs, e1, e2, e3, e4, e5⟩ := u
    cases e1
    exact ⟨p, vs, e2, e3, e5, e4, fun z => absurd rfl z⟩
theorem i_seq (ha : PE X a (tE X.K ta Φ Ψ ca)) : PI X tg a (tIt X.K ta Φ Ψ 0 [ca]) :=
  PI.weak (pi_seq ha.use) fun σ H Q ⟨S, ρ, τ, rs, τ', ds, hR, hT, he, hi, hQ⟩ => by
    simp only [evs] at he
    obtain ⟨x, hx, he⟩ := bind_some he
    obtain ⟨y, hy, he⟩ := map_some he
    cases hy
    cases he
    refine one_ok hR hT hx fun vx S1 H1 st u => ?_
    simp only [List.map_cons, List.map_nil] at hi
    cases q : x.1.d <;> rw [q] at hi <;> simp only [itD] at hi <;> first | cases hi | skip
    · obtain ⟨p, vs, rfl, e2, nt, e3, e4⟩ := lst2 u st.sub st.tape q
      refine ⟨p, rfl, .inl ⟨⟨vs, SqL.of e2⟩, hQ _ S1 H1 st (walk_lstOk e2 nt e3 fun nb => e4 fun z => ?_)⟩⟩
      rw [List.any_cons, z] at nb
      cases nb
    · obtain ⟨p, vs, rfl, e2, e3⟩ := u.tup q
      exact ⟨p, rfl, .inr ⟨⟨vs, Same.seqT st.sub e2⟩, hQ _ S1 H1 st (walk_tupOk e2 e3)⟩⟩
theorem itD_one : ∀ {dd ds : List D}, itD 1 dd = some ds → ∃ j, dd = [.int j] ∧ rngFits 0 j = true ∧ ds = rngD 0 j.toNat
  | [], _, h => by simp [itD] at h
  | [d], _, h => by
    cases d <;> simp [itD] at h
    exact ⟨_, rfl, h.1, h.2.symm⟩
  | _ :: _ :: _, _, h => by simp [itD] at h
theorem itD_two : ∀ {dd ds : List D}, itD 2 dd = some ds → ∃ i j, dd = [.int i, .int j] ∧ rngFits i j = true ∧ ds = rngD i (j - i).toNat
  | [], _, h => by simp [itD] at h
  | [d], _, h => by simp [itD] at h
  | [d, e], _, h => by
    cases d <;> cases e <;> simp [itD] at h
    exact ⟨_, _, rfl, h.1, h.2.symm⟩
  | _ :: _ :: _ :: _, _, h => by simp [itD] at h
theorem i_rng1 {p pos : Pos} (hg : Gl X "range") (hm : X.mg "range" = none) (ha : PA X [a] (tAs X.K ta Φ Ψ [ca])) (hs : starEach [a] X.env = [(false, eval a X.env)]) : PI X tg (.Call (.Name "range" p) [a] [] pos) (tIt X.K ta Φ Ψ 1 [ca]) :=
  PI.weak (pi_range1 hg hm ha hs) fun σ H Q ⟨S, ρ, τ, rs, τ', ds, hR, hT, he, hi, hQ⟩ => by
    refine ⟨S, ρ, τ, rs, τ', hR, hT, he, fun vs S1 H1 st u => ?_⟩
    obtain ⟨j, hd, hf, rfl⟩ := itD_one hi
    obtain ⟨x, r1, rfl, e1, u1⟩ := u.one hd
    simp only [rngFits, Bool.and_eq_true, decide_eq_true_eq] at hf
    have ex := u1.int e1
    subst ex
    exact ⟨j, rfl, by omega, by omega, hQ _ S1 H1 st (walk_rngOk 0 j.toNat)⟩
theorem i_rng2 {p pos : Pos} (hg : Gl X "range") (hm : X.mg "range" = none) (ha : PA X [a, b] (tAs X.K ta Φ Ψ [ca, cb])) (hs : starEach [a, b] X.env = [(false, eval a X.env), (false, eval b X.env)]) (hs2 : starEach [b] X.env = [(false, eval b X.env)]) :
    PI X tg (.Call (.Name "range" p) [a, b] [] pos) (tIt X.K ta Φ Ψ 2 [ca, cb]) :=
  PI.weak (pi_range2 hg hm ha hs hs2) fun σ H Q ⟨S, ρ, τ, rs, τ', ds, hR, hT, he, hi, hQ⟩ => by
    refine ⟨S, ρ, τ, rs, τ', hR, hT, he, fun vs S1 H1 st u => ?_⟩
    obtain ⟨i, j, hd, hf, rfl⟩ := itD_two hi
    obtain ⟨x, y, r1, r2, rfl, e1, e2, u1, u2⟩ := u.two hd
    simp only [rngFits, Bool.and_eq_true, decide_eq_true_eq] at hf
    have ex := u1.int e1
    have ey := u2.int e2
    subst ex ey
    exact ⟨i, j, rfl, by omega, hQ _ S1 H1 st (walk_rngOk i (j - i).toNat)⟩

theorem i_enum {elts : List Expr} {kk : Nat} {p pos tpos : Pos} (hg : Gl X "enumerate") (hm : X.mg "enumerate" = none) (ha : PA X [a] (tAs X.K ta Φ Ψ [ca])) (hs : starEach [a] X.env = [(false, eval a X.env)]) :
    PI X (.Tuple elts kk tpos) (.Call (.Name "enumerate" p) [a] [] pos) (tIt X.K ta Φ Ψ 3 [ca]) :=
  PI.weak (pi_enumA hg hm ha hs) fun σ H Q ⟨S, ρ, τ, rs, τ', ds, hR, hT, he, hi, hQ⟩ => by
    refine ⟨S, ρ, τ, rs, τ', hR, hT, he, fun vs S1 H1 st u => ?_⟩
    cases rs with
    | nil => cases hi
    | cons r0 rr =>
      cases rr with
      | cons r1 rr => simp only [List.map_cons] at hi; cases hh : r0.d <;> rw [hh] at hi <;> cases hi
      | nil =>
        cases vs with
        | nil => exact u.elim
        | cons x xs =>
          cases xs with
          | cons _ _ => exact u.2.elim
          | nil =>
            have u1 := u.1
            simp only [List.map_cons, List.map_nil] at hi
            cases q : r0.d <;> rw [q] at hi <;> simp only [itD] at hi <;> first | cases hi | skip
            · obtain ⟨p, vs, rfl, e2, nt, e3, e4⟩ := lst2 u1 st.sub st.tape q
              refine ⟨p, rfl, .inl ⟨⟨vs, SqL.of e2⟩, hQ _ S1 H1 st (walk_enumLOk e2 nt e3 fun nb => e4 fun z => ?_)⟩⟩
              rw [List.any_cons, z] at nb
              cases nb
            · obtain ⟨p, vs, rfl, e2, e3⟩ := u1.tup q
              exact ⟨p, rfl, .inr ⟨⟨vs, Same.seqT st.sub e2⟩, hQ _ S1 H1 st (walk_enumTOk e2 e3)⟩⟩
theorem rgC_pos {i j c : Int} (hi : -(2 ^ 62) ≤ i) (hi2 : i < 2 ^ 62) (hj : -(2 ^ 62) ≤ j) (hj2 : j < 2 ^ 62) (hc : 0 < c) (hc2 : c < 1073741824) : RgC i j c (rngN i j c) := by
  have hs : Builtin.Range.rangeSize i j c = (rngN i j c : Nat) := by
    unfold Builtin.Range.rangeSize rngN
    rw [if_pos hc]
    split
    · have := Int.ediv_nonneg (a := j - i - 1) (b := c) (by omega) (by omega)
      omega
    · rfl
  have hn : rngN i j c ≤ (j - i).toNat := by
    unfold rngN
    split
    · have := Int.ediv_le_self c (show (0 : Int) ≤ j - i - 1 by omega)
      omega
    · omega
  refine ⟨by omega, by omega, ?_, hs⟩
  unfold Builtin.Range.small
  rw [hs]
  simp only [Builtin.Range.rangeFitsLong, Bool.and_eq_true, Bool.or_eq_true, decide_eq_true_eq, beq_iff_eq, show c > 0 from hc, if_true]
  omega
theorem i_rng3 {c : Expr} {cc : E} {p pos : Pos} (hg : Gl X "range") (hm : X.mg "range" = none) (ha : PA X [a, b, c] (tAs X.K ta Φ Ψ [ca, cb, cc])) (hs : starEach [a, b, c] X.env = (false, eval a X.env) :: starEach [b, c] X.env) (hpl : (backTo pos (starEach [b, c] X.env)).any (·.1) = false) :
    PI X tg (.Call (.Name "range" p) [a, b, c] [] pos) (tIt X.K ta Φ Ψ 4 [ca, cb, cc]) :=
  PI.weak (pi_range3 hg hm ha hs hpl) fun σ H Q ⟨S, ρ, τ, rs, τ', ds, hR, hT, he, hi, hQ⟩ => by
    refine ⟨S, ρ, τ, rs, τ', hR, hT, he, fun vs S1 H1 st u => ?_⟩
    have h3 : ∃ r1 r2 r3 i j c n, rs = [r1, r2, r3] ∧ r1.d = .int i ∧ r2.d = .int j ∧ r3.d = .int c ∧ RgC i j c n ∧ ds = rngC i c n := by
      cases rs with
      | nil => cases hi
      | cons r1 rs => cases rs with
        | nil => simp only [List.map_cons, List.map_nil] at hi; cases q1 : r1.d <;> rw [q1] at hi <;> cases hi
        | cons r2 rs => cases rs with
          | nil => simp only [List.map_cons, List.map_nil] at hi; cases q1 : r1.d <;> rw [q1] at hi <;> cases q2 : r2.d <;> rw [q2] at hi <;> cases hi
          | cons r3 rs => cases rs with
            | cons r4 rs => simp only [List.map_cons] at hi; cases q1 : r1.d <;> rw [q1] at hi <;> cases q2 : r2.d <;> rw [q2] at hi <;> cases q3 : r3.d <;> rw [q3] at hi <;> cases hi
            | nil =>
              simp only [List.map_cons, List.map_nil] at hi
              cases q1 : r1.d <;> rw [q1] at hi <;> first | cases hi | skip
              cases q2 : r2.d <;> rw [q2] at hi <;> first | cases hi | skip
              cases q3 : r3.d <;> rw [q3] at hi <;> first | cases hi | skip
              simp only [itD] at hi
              split at hi
              · rename_i hc
                simp only [Bool.and_eq_true, decide_eq_true_eq, rngFits] at hc
                cases hi
                exact ⟨r1, r2, r3, _, _, _, _, rfl, q1, q2, by rw [q3, hc.2], RgC.neg (by omega) (by omega) (by omega) (by omega), rfl⟩
              · split at hi
                · rename_i hc
                  simp only [Bool.and_eq_true, decide_eq_true_eq, rngFits] at hc
                  cases hi
                  exact ⟨r1, r2, r3, _, _, _, _, rfl, q1, q2, q3, rgC_pos (by omega) (by omega) (by omega) (by omega) (by omega) (by omega), rfl⟩
                · cases hi
    obtain ⟨r1, r2, r3, i, j, c, n, rfl, e1, e2, e3, hf, rfl⟩ := h3
    cases vs with
    | nil => exact u.elim
    | cons x vs => cases vs with
      | nil => exact u.2.elim
      | cons y vs => cases vs with
        | nil => exact u.2.2.elim
        | cons z vs => cases vs with
          | cons _ _ => exact u.2.2.2.elim
          | nil =>
            have ex := u.1.int e1
            have ey := u.2.1.int e2
            have ez := u.2.2.1.int e3
            subst ex ey ez
            exact ⟨i, j, c, n, rfl, hf, hQ _ S1 H1 st (walk_rngCOk i c n)⟩

/-! ### targets -/
def gNms : List Nat → TGs
  | [] => gNil
  | i :: is => gCons (gName i) (gNms is)
def gT (K : PySem.W.Frag) : Tg → TG
  | .nm i => gName i
  | .tu is => gTup K is.length (gNms is)
theorem Rel.put {K : PySem.W.Frag} {ρ : Rho} {S H : Hp} {σ : L2.St} {i : Nat} {v : V} {d : D} (R : Rel K ta ρ S σ H) (h : Rp K S v d) : Rel K ta (ρ.set i (.im d)) S (σ.set i (some v)) H := by
  refine ⟨by simp [R.len], R.sub, fun j s e => ?_, fun j l dj dl p e1 e2 e3 e4 => ?_⟩
  · by_cases hj : j = i
    · subst hj
      have hl : j < ρ.length := by
        have := (List.getElem?_eq_some_iff.mp e).1
        simpa using this
      rw [List.getElem?_set_self hl] at e
      cases e
      exact ⟨v, by rw [List.getElem?_set_self (by rw [← R.len]; exact hl)]; rfl, h⟩
    · rw [List.getElem?_set_ne (Ne.symm hj)] at e
      rw [List.getElem?_set_ne (Ne.symm hj)]
      exact R.slot j s e
  · have nj : j ≠ i := fun z => by
      subst z
      have hl : j < ρ.length := by
        have := (List.getElem?_eq_some_iff.mp e1).1
        simpa using this
      rw [List.getElem?_set_self hl] at e1
      cases e1
    have nl : l ≠ i := fun z => by
      subst z
      have hl : l < ρ.length := by
        have := (List.getElem?_eq_some_iff.mp e2).1
        simpa using this
      rw [List.getElem?_set_self hl] at e2
      cases e2
    rw [List.getElem?_set_ne (Ne.symm nj)] at e1 e3
    rw [List.getElem?_set_ne (Ne.symm nl)] at e2 e4
    exact R.dist j l dj dl p e1 e2 e3 e4
theorem Rel.unset {K : PySem.W.Frag} {ρ : Rho} {S H : Hp} {σ : L2.St} {i : Nat} (R : Rel K ta ρ S σ H) : Rel K ta (ρ.set i .un) S (σ.set i none) H := by
  refine ⟨by simp [R.len], R.sub, fun j s e => ?_, fun j l dj dl p e1 e2 e3 e4 => ?_⟩
  · by_cases hj : j = i
    · subst hj
      have hl : j < ρ.length := by
        have := (List.getElem?_eq_some_iff.mp e).1
        simpa using this
      rw [List.getElem?_set_self hl] at e
      cases e
      trivial
    · rw [List.getElem?_set_ne (Ne.symm hj)] at e
      rw [List.getElem?_set_ne (Ne.symm hj)]
      exact R.slot j s e
  · have nj : j ≠ i := fun z => by
      subst z
      have hl : j < ρ.length := by
        have := (List.getElem?_eq_some_iff.mp e1).1
        simpa using this
      rw [List.getElem?_set_self hl] at e1
      cases e1
    have nl : l ≠ i := fun z => by
      subst z
      have hl : l < ρ.length := by
        have := (List.getElem?_eq_some_iff.mp e2).1
        simpa using this
      rw [List.getElem?_set_self hl] at e2
      cases e2
    rw [List.getElem?_set_ne (Ne.symm nj)] at e1 e3
    rw [List.getElem?_set_ne (Ne.symm nl)] at e2 e4
    exact R.dist j l dj dl p e1 e2 e3 e4
theorem Rel.wipe {K : PySem.W.Frag} {ρ : Rho} {S H : Hp} {σ : L2.St} (R : Rel K ta ρ S σ H) : ∀ vs : List Nat, Rel K ta (wipeR ρ vs) S (wipe σ vs) H
  | [] => R
  | v :: vs => (Rel.wipe R vs).unset
/-- several names take the items of a tuple -/
theorem sets_ok {K : PySem.W.Frag} {S H : Hp} {Q : L2.St → Hp → Prop} : ∀ {is : List Nat} {ds : List D} {vs : List V} {ρ ρ1 : Rho} {σ : L2.St}, Rel K ta ρ S σ H → RpAll K S vs ds → setsD ρ is ds = some ρ1 →
    (∀ σ1, Rel K ta ρ1 S σ1 H → (∀ j, j ∉ is → σ1[j]? = σ[j]?) → σ1.length = σ.length → Q σ1 H) → gNms is vs σ H Q
  | [], [], vs, ρ, ρ1, σ, R, h, e, hQ => by cases h; cases e; exact ⟨rfl, hQ σ R (fun _ _ => rfl) rfl⟩
  | i :: is, d :: ds, vs, ρ, ρ1, σ, R, ⟨x, r, e1, e2, e3⟩, e, hQ => by
    subst e1
    refine ⟨x, r, rfl, sets_ok (R.put e2) e3 e fun σ1 R1 h1 h2 => hQ σ1 R1 (fun j hj => ?_) (by rw [h2, List.length_set])⟩
    simp only [List.mem_cons, not_or] at hj
    rw [h1 j hj.2, List.getElem?_set_ne (Ne.symm hj.1)]
  | [], _ :: _, _, _, _, _, _, _, e, _ => by cases e
  | _ :: _, [], _, _, _, _, _, _, e, _ => by cases e
theorem sets_len : ∀ {is : List Nat} {ds : List D} {ρ ρ1 : Rho}, setsD ρ is ds = some ρ1 → ds.length = is.length
  | [], [], _, _, _ => rfl
  | i :: is, d :: ds, _, _, e => by simp [sets_len (is := is) (ds := ds) e]
  | [], _ :: _, _, _, e => by cases e
  | _ :: _, [], _, _, e => by cases e
theorem tg_ok {K : PySem.W.Frag} {S H : Hp} {Q : L2.St → Hp → Prop} {tg : Tg} {d : D} {v : V} {ρ ρ1 : Rho} {σ : L2.St} (R : Rel K ta ρ S σ H) (h : Rp K S v d) (e : tgD ρ tg d = some ρ1)
    (hQ : ∀ σ1, Rel K ta ρ1 S σ1 H → (∀ j, j ∉ tgVs tg → σ1[j]? = σ[j]?) → σ1.length = σ.length → Q σ1 H) : gT K tg v σ H Q := by
  cases tg with
  | nm i =>
    cases e
    refine hQ _ (R.put h) (fun j hj => ?_) (by simp)
    rw [List.getElem?_set_ne]
    intro z
    subst z
    exact hj List.mem_cons_self
  | tu is =>
    cases d <;> simp only [tgD] at e <;> first | cases e | skip
    rename_i ds
    obtain ⟨p, vs, rfl, e2, e3⟩ := h
    exact ⟨p, vs, rfl, Same.seqT R.sub e2, by rw [e3.length, sets_len e], sets_ok R e3 e hQ⟩
end
end Ev

/-! ## Ev7 -/
namespace Ev
open PySem PySem.Spec PyProof.Rows L2

section
variable {X : Cx} {ta : Ta} {Φ : Nat → List D → Option R} {Ψ : Nat → List D → Tp → Option (R × Tp)} {tg e a b : Expr} {ca cb : E} {x : Str} {p pos : Pos} {es : List Expr} {cs : List E}
theorem blt_data {b : Bl} {σ : L2.St} {H : Hp} {Q : VK} {S : Hp} {ρ : Rho} {τ τ' : Tp} {r : R} (hR : Rel X.K ta ρ S σ H) (hT : TpOk X.K ta S H τ) (he : ev Φ Ψ ρ τ (.blt b cs) = some (r, τ')) (hQ : Post X.K ta S H τ' r Q) :
    tCB (rBlt X.K ta b) (tAs X.K ta Φ Ψ cs) σ H Q := by
  simp only [ev] at he
  obtain ⟨x, hx, he⟩ := bind_some he
  obtain ⟨y, hy, he⟩ := map_some he
  cases he
  exact ⟨S, ρ, τ, x.1, x.2, hR, hT, hx, fun vs S1 H1 st u => ⟨S1, x.2, x.1, _, st.sub, st.tape, u, hy, Post.later hQ st⟩⟩
theorem e_blB {b : Bl} {id : String} (hb : blV b = .builtin id) (hc : X.calm = true) (hu : X.A.units + 80 < cLine) (h1 : b ≠ .setlen) (h2 : b ≠ .bitlen) (hg : Gl X x) (hm : X.mg x = none) (hv : bootBuiltins x = some (.builtin id)) (ha : PA X (e :: es) (tAs X.K ta Φ Ψ cs)) (hn : x ≠ "__name__") (hdb : (x == ("__debug__" : Str)) = false)
    (he : starEach (e :: es) X.env = (false, eval e X.env) :: starEach es X.env) (hpl : (backTo pos (starEach es X.env)).any (·.1) = false) : PE X (.Call (.Name x p) (e :: es) [] pos) (tE X.K ta Φ Ψ (.blt b cs)) :=
  PE.weak (pe_callB (r := rBlt X.K ta b) (by rw [← hb]; exact bl_run hc hu b h1 h2) hg hm hv ha hn hdb he hpl) fun σ H Q ⟨S, ρ, τ, r, τ', hR, hT, he, hQ⟩ => blt_data hR hT he hQ
theorem e_blT {b : Bl} {id : String} (hb : blV b = .type id) (hc : X.calm = true) (hu : X.A.units + 80 < cLine) (h1 : b ≠ .setlen) (h2 : b ≠ .bitlen) (hg : Gl X x) (hm : X.mg x = none) (hv : bootBuiltins x = some (.type id)) (ha : PA X (e :: es) (tAs X.K ta Φ Ψ cs)) (hn : x ≠ "__name__") (hdb : (x == ("__debug__" : Str)) = false)
    (he : starEach (e :: es) X.env = (false, eval e X.env) :: starEach es X.env) (hpl : (backTo pos (starEach es X.env)).any (·.1) = false) : PE X (.Call (.Name x p) (e :: es) [] pos) (tE X.K ta Φ Ψ (.blt b cs)) :=
  PE.weak (pe_callTy (r := rBlt X.K ta b) (by rw [← hb]; exact bl_run hc hu b h1 h2) hg hm hv ha hn hdb he hpl) fun σ H Q ⟨S, ρ, τ, r, τ', hR, hT, he, hQ⟩ => blt_data hR hT he hQ
theorem e_setlen {a : Expr} {p2 q : Pos} (hg : Gl X "len") (hm : X.mg "len" = none) (hg2 : Gl X "set") (hm2 : X.mg "set" = none) (ha : PE X a (tE X.K ta Φ Ψ ca)) (hc : X.calm = true) (na : starEach [a] X.env = (false, eval a X.env) :: starEach [] X.env) :
    PE X (.Call (.Name "len" p) [.Call (.Name "set" p2) [a] [] q] [] pos) (tE X.K ta Φ Ψ (.blt .setlen [ca])) :=
  PE.weak (RZ.pe_lenSetT hg hm hg2 hm2 ha.use hc na) fun σ H Q ⟨S, ρ, τ, r, τ', hR, hT, he, hQ⟩ => by
    simp only [ev, evs] at he
    obtain ⟨x, hx, he⟩ := bind_some he
    obtain ⟨x1, hx1, hx⟩ := bind_some hx
    obtain ⟨y, hy, hx⟩ := map_some hx
    cases hy
    cases hx
    obtain ⟨z, hz, he⟩ := map_some he
    cases he
    refine one_ok hR hT hx1 fun vx S1 H1 st u => ?_
    simp only [List.map_cons, List.map_nil] at hz
    cases qq : x1.1.d <;> rw [qq] at hz <;> simp only [bltD] at hz <;> first | cases hz | skip
    obtain ⟨ns, en, hz⟩ := bind_some hz
    split at hz
    · rename_i hl
      cases hz
      obtain ⟨l, vs, rfl, e2, e3⟩ := u.tup qq
      have ev := e3.ints en
      subst ev
      exact ⟨l, ns, rfl, Same.seqT st.sub e2, of_decide_eq_true hl, hQ _ S1 H1 st rfl⟩
    · cases hz
theorem e_bits {o : Expr} {apos : Pos} (ho : PE X o (tE X.K ta Φ Ψ ca)) (hbase : attributeBase o "bit_length" X.env (eval o X.env) = eval o X.env) (hline : (apos.endLine == pos.line) = true) : PE X (.Call (.Attribute o "bit_length" apos) [] [] pos) (tE X.K ta Φ Ψ (.blt .bitlen [ca])) :=
  PE.weak (pe_bits ho.use hbase hline) fun σ H Q ⟨S, ρ, τ, r, τ', hR, hT, he, hQ⟩ => by
    simp only [ev, evs] at he
    obtain ⟨x, hx, he⟩ := bind_some he
    obtain ⟨x1, hx1, hx⟩ := bind_some hx
    obtain ⟨y, hy, hx⟩ := map_some hx
    cases hy
    cases hx
    obtain ⟨z, hz, he⟩ := map_some he
    cases he
    refine one_ok hR hT hx1 fun vx S1 H1 st u => ?_
    simp only [List.map_cons, List.map_nil] at hz
    cases q : x1.1.d <;> rw [q] at hz <;> simp only [bltD] at hz <;> first | cases hz | skip
    exact ⟨_, u.int q, hQ _ S1 H1 st rfl⟩

/-! ### comprehensions -/
def tAll (K : PySem.W.Frag) (ta : Ta) (Φ : Nat → List D → Option R) (Ψ : Nat → List D → Tp → Option (R × Tp)) (cs : List E) : TT := fun σ H Q => ∃ S ρ τ b τ', Rel K ta ρ S σ H ∧ TpOk K ta S H τ ∧ evAll Φ Ψ ρ τ cs = some (b, τ') ∧ ∀ S' H', Stp K ta τ' S H S' H' → Q b H'
theorem PTs.weak {ifs : List Expr} {t t' : TT} (h : PTs X ifs t) (w : ∀ σ H Q, t' σ H Q → t σ H Q) : PTs X ifs t' := ⟨fun pins s σ H Q I q => h.run pins s σ H Q I (w _ _ _ q)⟩
theorem c_nil : PTs X [] (tAll X.K ta Φ Ψ []) := PTs.weak pts_nil fun σ H Q ⟨S, ρ, τ, b, τ', hR, hT, he, hQ⟩ => by
  simp only [evAll] at he
  cases he
  exact hQ S H (Stp.refl hR.sub hT)
theorem c_one (h : PT X e (tT X.K ta Φ Ψ ca)) : PTs X [e] (tAll X.K ta Φ Ψ [ca]) := PTs.weak (pts_one h) fun σ H Q ⟨S, ρ, τ, b, τ', hR, hT, he, hQ⟩ => by
  simp only [evAll] at he
  obtain ⟨x, hx, he⟩ := bind_some he
  split at he
  · rename_i q
    cases he
    exact ⟨S, ρ, τ, x.1, x.2, true, hR, hT, hx, q, hQ⟩
  · rename_i q
    cases he
    exact ⟨S, ρ, τ, x.1, x.2, false, hR, hT, hx, q, hQ⟩
  · cases he
theorem wipe_eq : ∀ (vs : List Nat) {σ σ' : L2.St}, σ'.length = σ.length → (∀ j, j ∉ vs → σ'[j]? = σ[j]?) → wipe σ' vs = wipe σ vs := by
  have get : ∀ (vs : List Nat) (σ : L2.St) (j : Nat), (wipe σ vs)[j]? = if j ∈ vs then (if j < σ.length then some none else none) else σ[j]? := by
    intro vs
    induction vs with
    | nil => intro σ j; rfl
    | cons v vs ih =>
      intro σ j
      show ((wipe σ vs).set v none)[j]? = _
      by_cases hj : j = v
      · subst hj
        rw [if_pos List.mem_cons_self]
        by_cases hl : j < σ.length
        · rw [if_pos hl, List.getElem?_set_self (by rw [wipe_length]; exact hl)]
        · rw [if_neg hl, List.getElem?_eq_none]
          rw [List.length_set, wipe_length]
          omega
      · rw [List.getElem?_set_ne (Ne.symm hj), ih]
        simp [hj]
  intro vs σ σ' hl h
  apply List.ext_getElem?
  intro j
  rw [get, get, hl]
  split
  · rfl
  · rename_i hj
    exact h j hj
theorem Stp.grow {K : PySem.W.Frag} {τ : Tp} {S H S1 H2 : Hp} {D : Addr} (a : Stp K ta τ S H S1 (del H2 D)) : Stp K ta τ S H S1 H2 where
  same := a.same
  sub := a.sub.trans del_sub
  gro := fun b o n e => del_sub _ _ (a.gro b o n e)
  nn := a.nn
  tape := fun b e => ⟨(a.tape b e).1, del_sub _ _ (a.tape b e).2.1, (a.tape b e).2.2⟩
theorem comp_data {elt : E} {tg : Tg} {k : Nat} {its cond : List E} {σ : L2.St} {H : Hp} {Q : VK} {S : Hp} {ρ : Rho} {τ τ' : Tp} {r : R} (hR : Rel X.K ta ρ S σ H) (hT : TpOk X.K ta S H τ) (he : ev Φ Ψ ρ τ (.comp elt tg k its cond) = some (r, τ')) (hQ : Post X.K ta S H τ' r Q) :
    tLc (tIt X.K ta Φ Ψ k its) (gT X.K tg) (tAll X.K ta Φ Ψ cond) (tU X.K ta Φ Ψ elt) (tgVs tg) σ H Q := by
  simp only [ev] at he
  obtain ⟨x, hx, he⟩ := bind_some he
  obtain ⟨ds, hd, he⟩ := bind_some he
  obtain ⟨y, hy, he⟩ := bind_some he
  split at he
  · rename_i hc
    cases he
    refine ⟨S, ρ, τ, x.1, x.2, ds, hR, hT, hx, hd, fun J S1 H1 st1 wk D nD => ?_⟩
    generalize hfe : (fun ρ τ => ev Φ Ψ ρ τ elt) = fe at hy
    generalize hfc : (fun ρ τ => evAll Φ Ψ ρ τ cond) = fc at hy
    have nS : S1 D = none := st1.free' nD
    have nT : ta.a ≠ some D := st1.nta nD
    let Pv : Nat → Hp → Prop := fun i H' => ∃ S' τi acc vs rest, Stp X.K ta τi S1 H1 S' (del H' D) ∧ H' D = some (.lst vs) ∧ S' D = none ∧ RpAll X.K S' vs acc ∧ compL fe fc (wipeR ρ (tgVs tg)) tg (ds.drop i) τi = some (rest, y.2) ∧ y.1 = acc ++ rest
    have start : Pv 0 (upd H1 D (.lst [])) := ⟨S1, x.2, [], [], y.1, by rw [del_upd, del_none nD]; exact Stp.refl st1.sub st1.tape, upd_same, nS, rfl, hy, rfl⟩
    have done : ∀ H', Pv ds.length H' → Q (.ref D) H' := fun H' ⟨S', τi, acc, vs, rest, st, hD, nD', hall, hl, hy'⟩ => by
      rw [List.drop_length] at hl
      unfold compL at hl
      cases hl
      rw [List.append_nil] at hy'
      have st2 := (st1.trans st).grow
      exact hQ (.ref D) S' H' st2 ⟨D, y.1, vs, rfl, rfl, hD, nD', st1.free nD, by rw [hy']; exact hall⟩
    have turn : ∀ (i : Nat) (d : Ev.D) (v : V) (H0 H' : Hp), ds[i]? = some d → Pv i H0 → YldOk X.K S1 H0 H' v d → gT X.K tg v (wipe σ (tgVs tg)) H' fun σ2 H2 => wipe σ2 (tgVs tg) = wipe σ (tgVs tg) ∧ tAll X.K ta Φ Ψ cond σ2 H2 fun b H3 =>
        if b = true then tU X.K ta Φ Ψ elt σ2 H3 fun y H4 => ∃ acc, H4 D = some (.lst acc) ∧ acc.length < sizeLine ∧ Pv (i + 1) (upd H4 D (.lst (acc ++ [y]))) else Pv (i + 1) H3 := by
      intro i d v H0 H' hi ⟨S0, τi, acc, vs, rest, st0, hD0, nD0, hall0, hl, hy'⟩ hv
      have grown : ∃ S', Same S0 S' ∧ Stp X.K ta τi S1 H1 S' (del H' D) ∧ H' D = some (.lst vs) ∧ S' D = none ∧ Rp X.K S' v d := by
        rcases hv with ⟨e, hd⟩ | ⟨T, us, es, ev1, n, e, ed, hes⟩
        · subst e
          exact ⟨S0, Same.refl _, st0, hD0, nD0, Rp.mono st0.same d hd⟩
        · subst e ev1 ed
          have nTD : D ≠ T := fun z => by rw [← z, hD0] at n; cases n
          have nd : del H0 D T = none := by rw [del_ne (Ne.symm nTD)]; exact n
          have st2 := st0.newS (o := .tup us) nd (fun _ _ => trivial)
          have ed : del (upd H0 T (.tup us)) D = upd (del H0 D) T (.tup us) := by
            funext b
            by_cases hb : b = D
            · subst hb; rw [del_same, upd_ne nTD, del_same]
            · rw [del_ne hb]
              by_cases hb2 : b = T
              · subst hb2; rw [upd_same, upd_same]
              · rw [upd_ne hb2, upd_ne hb2, del_ne hb]
          refine ⟨_, same_upd (st0.free' nd), by rw [ed]; exact st2, by rw [upd_ne nTD]; exact hD0, by rw [upd_ne nTD]; exact nD0, ⟨T, us, rfl, SqT.of upd_same, RpAll.mono st2.same es hes⟩⟩
      obtain ⟨S', s0, st, hD, nD', hvd⟩ := grown
      have hall := RpAll.mono s0 acc hall0
      have hlt : i < ds.length := (List.getElem?_eq_some_iff.mp hi).1
      have hdrop : ds.drop i = d :: ds.drop (i + 1) := by
        rw [List.drop_eq_getElem_cons hlt]
        congr 1
        exact (List.getElem?_eq_some_iff.mp hi).2
      rw [hdrop] at hl
      unfold compL at hl
      obtain ⟨ρ1, hρ, hl⟩ := bind_some hl
      obtain ⟨c, hcc, hl⟩ := bind_some hl
      have stH := st.grow
      have relW : Rel X.K ta (wipeR ρ (tgVs tg)) S' (wipe σ (tgVs tg)) H' := ((hR.step st1).step stH).wipe _
      refine tg_ok relW hvd hρ fun σ1 R1 e1 e2 => ⟨?_, ?_⟩
      · have e3 : wipe σ1 (tgVs tg) = wipe (wipe σ (tgVs tg)) (tgVs tg) := wipe_eq (tgVs tg) e2 e1
        rw [e3]
        refine wipe_eq (tgVs tg) (wipe_length _ _) fun j hj => ?_
        exact wipe_out hj
      · refine ⟨S', ρ1, τi, c.1, c.2, R1, stH.tape, by rw [← hfc] at hcc; exact hcc, fun S3 H3 st3 => ?_⟩
        have nD3 : S3 D = none := st3.nn D vs nT hD nD'
        have hD3 : H3 D = some (.lst vs) := st3.gro D _ nT hD
        have del3 : ∀ {τ3 : Tp} {S3 H3 : Hp}, Stp X.K ta τ3 S' H' S3 H3 → S3 D = none → Stp X.K ta τ3 S1 H1 S3 (del H3 D) := fun {τ3 S3 H3} st3 n3 => st.trans ⟨st3.same, fun b o e => by
            have nb : b ≠ D := fun z => by rw [z, n3] at e; cases e
            rw [del_ne nb]; exact st3.sub b o e, fun b o n e => by
            have nb : b ≠ D := fun z => by rw [z, del_same] at e; cases e
            rw [del_ne nb] at e ⊢
            exact st3.gro b o n e, fun b xs n e z => st3.nn b xs n (del_sub _ _ e) z, fun b e => by
            have nb : b ≠ D := fun z => nT (by rw [← z]; exact e)
            obtain ⟨t1, t2, t3⟩ := st3.tape b e
            exact ⟨t1, by rw [del_ne nb]; exact t2, t3⟩⟩
        by_cases hb : c.1 = true
        · rw [if_pos hb] at hl
          obtain ⟨z, hz, hl⟩ := bind_some hl
          obtain ⟨w, hw, hl⟩ := bind_some hl
          obtain ⟨q, hq, hl⟩ := map_some hl
          have hl1 := congrArg Prod.fst hl
          have hl2 := congrArg Prod.snd hl
          simp only at hl1 hl2
          show if c.1 = true then _ else _
          rw [if_pos hb]
          refine ⟨S3, ρ1, c.2, z.1, z.2, R1.step st3, st3.tape, by rw [← hfe] at hz; exact hz, fun v4 S4 H4 st4 u4 => ?_⟩
          have st34 := st3.trans st4
          have nD4 : S4 D = none := st34.nn D vs nT hD nD'
          have hD4 : H4 D = some (.lst vs) := st34.gro D _ nT hD
          have rv : Rp X.K S4 v4 w := u4.st hw
          have hall4 : RpAll X.K S4 (vs ++ [v4]) (acc ++ [w]) := (RpAll.mono st34.same acc hall).append ⟨v4, [], rfl, rv, rfl⟩
          refine ⟨vs, hD4, lt_of ?_, S4, z.2, acc ++ [w], vs ++ [v4], q.1, by rw [del_upd]; exact del3 st34 nD4, upd_same, nD4, hall4, by rw [hq, ← hl2], ?_⟩
          · have h1 := of_decide_eq_true hc
            have h2 := hall.length
            rw [hy', ← hl1, List.length_append, List.length_cons] at h1
            omega
          · rw [hy', ← hl1, List.append_assoc]
            rfl
        · rw [if_neg hb] at hl
          show if c.1 = true then _ else _
          rw [if_neg hb]
          exact ⟨S3, c.2, acc, vs, rest, del3 st3 nD3, hD3, nD3, RpAll.mono st3.same acc hall, hl, hy'⟩
    obtain ⟨G, Y, wk, hG, hY⟩ := wk
    refine lc_it wk Pv start (fun i H' _ ⟨S', τi, acc, vs', rest, st, _⟩ => hG H' (st.same.trans (st.grow).sub) (.inr fun b o nt hb => del_sub _ _ (st.gro b o nt hb))) (fun i x H0 H' hi hP y => ?_) done
    obtain ⟨d, e1, e2⟩ := hY i H0 x H' hi y
    exact turn i d x H0 H' e1 hP e2
  · cases he
end
end Ev

/-! ## Ev8 -/
namespace Ev
open PySem PySem.Spec PyProof.Rows L2

def RetV (K : PySem.W.Frag) (ta : Ta) (S' H' : Hp) (v : V) (r : R) : Prop := match r.k with
  | .S => Rp K S' v r.d
  | .F => ∃ p ds vs, r.d = .list ds ∧ v = .ref p ∧ H' p = some (.lst vs) ∧ S' p = none ∧ RpAll K S' vs ds ∧ ta.a ≠ some p
  | .B => False
def OutP (K : PySem.W.Frag) (ta : Ta) (S : Hp) (D : Ends) : Out → Prop
  | .nx ρ τ => ∀ σ' H' S', Same S S' → Rel K ta ρ S' σ' H' → TpOk K ta S' H' τ → D.nx σ' H'
  | .bk ρ τ => ∀ σ' H' S', Same S S' → Rel K ta ρ S' σ' H' → TpOk K ta S' H' τ → D.bk σ' H'
  | .ct ρ τ => ∀ σ' H' S', Same S S' → Rel K ta ρ S' σ' H' → TpOk K ta S' H' τ → D.ct σ' H'
  | .rt r τ => ∀ v H' S', Same S S' → Same S' H' → TpOk K ta S' H' τ → RetV K ta S' H' v r → D.rt v H'
theorem OutP.mono {K : PySem.W.Frag} {ta : Ta} {S S1 : Hp} {D : Ends} {o : Out} (h : OutP K ta S D o) (s : Same S S1) : OutP K ta S1 D o := by
  cases o with
  | nx ρ τ => exact fun σ' H' S' s' => h σ' H' S' (s.trans s')
  | bk ρ τ => exact fun σ' H' S' s' => h σ' H' S' (s.trans s')
  | ct ρ τ => exact fun σ' H' S' s' => h σ' H' S' (s.trans s')
  | rt r τ => exact fun v H' S' s' => h v H' S' (s.trans s')
section
variable (K : PySem.W.Frag) (ta : Ta) (Φ : Nat → List D → Option R) (Ψ : Nat → List D → Tp → Option (R × Tp)) (N : Nat)
def tSt (c : S) : TS := fun D σ H => ∃ S ρ τ o, Rel K ta ρ S σ H ∧ TpOk K ta S H τ ∧ evS Φ Ψ N ρ τ c = some o ∧ OutP K ta S D o
def tSts (c : List S) : TS := fun D σ H => ∃ S ρ τ o, Rel K ta ρ S σ H ∧ TpOk K ta S H τ ∧ evSs Φ Ψ N ρ τ c = some o ∧ OutP K ta S D o
end
section
variable {K : PySem.W.Frag} {ta : Ta} {ρ : Rho} {S H : Hp} {σ : L2.St}
/-- a fresh list comes into a slot -/
theorem Rel.putOwO {i : Nat} {p : Addr} {ds : List D} {vs : List V} (R : Rel K ta ρ S σ H) (other : ∀ (j : Nat) (dj : List D), ρ[j]? = some (.ow dj) → σ[j]? ≠ some (some (.ref p))) (nt : ta.a ≠ some p) (h : H p = some (.lst vs)) (n : S p = none) (ha : RpAll K S vs ds) :
    Rel K ta (ρ.set i (.ow ds)) S (σ.set i (some (.ref p))) H := by
  refine ⟨by simp [R.len], R.sub, fun j s e => ?_, fun j l dj dl q e1 e2 e3 e4 => ?_⟩
  · by_cases hj : j = i
    · subst hj
      have hl : j < ρ.length := by simpa using (List.getElem?_eq_some_iff.mp e).1
      rw [List.getElem?_set_self hl] at e
      cases e
      exact ⟨p, vs, by rw [List.getElem?_set_self (by rw [← R.len]; exact hl)]; rfl, h, n, ha, nt⟩
    · rw [List.getElem?_set_ne (Ne.symm hj)] at e
      rw [List.getElem?_set_ne (Ne.symm hj)]
      exact R.slot j s e
  · by_cases hj : j = i
    · by_cases hl : l = i
      · rw [hj, hl]
      · subst hj
        have hlj : j < ρ.length := by simpa using (List.getElem?_eq_some_iff.mp e1).1
        rw [List.getElem?_set_self (by rw [← R.len]; exact hlj)] at e3
        cases e3
        rw [List.getElem?_set_ne (Ne.symm hl)] at e2 e4
        exact absurd e4 (other l dl e2)
    · by_cases hl : l = i
      · subst hl
        have hll : l < ρ.length := by simpa using (List.getElem?_eq_some_iff.mp e2).1
        rw [List.getElem?_set_self (by rw [← R.len]; exact hll)] at e4
        cases e4
        rw [List.getElem?_set_ne (Ne.symm hj)] at e1 e3
        exact absurd e3 (other j dj e1)
      · rw [List.getElem?_set_ne (Ne.symm hj)] at e1 e3
        rw [List.getElem?_set_ne (Ne.symm hl)] at e2 e4
        exact R.dist j l dj dl q e1 e2 e3 e4
theorem Rel.putOw {H0 S0 : Hp} {i : Nat} {p : Addr} {ds : List D} {vs : List V} (R0 : Rel K ta ρ S0 σ H0) (R : Rel K ta ρ S σ H) (n0 : H0 p = none) (nt : ta.a ≠ some p) (h : H p = some (.lst vs)) (n : S p = none) (ha : RpAll K S vs ds) :
    Rel K ta (ρ.set i (.ow ds)) S (σ.set i (some (.ref p))) H := by
  have other : ∀ (j : Nat) (dj : List D), ρ[j]? = some (.ow dj) → σ[j]? ≠ some (some (.ref p)) := fun j dj e z => by
    obtain ⟨p', vs', e1, e2, _⟩ := R0.slot j _ e
    have := getD_some e1
    rw [z] at this
    cases this
    rw [n0] at e2; cases e2
  exact Rel.putOwO R other nt h n ha
/-- a slot is left alone from now on -/
theorem Rel.drop {j : Nat} (R : Rel K ta ρ S σ H) : Rel K ta (ρ.set j .un) S σ H := by
  refine ⟨by simp [R.len], R.sub, fun l s e => ?_, fun k l dk dl q e1 e2 e3 e4 => ?_⟩
  · by_cases hl : l = j
    · subst hl
      have hlt : l < ρ.length := by simpa using (List.getElem?_eq_some_iff.mp e).1
      rw [List.getElem?_set_self hlt] at e
      cases e
      trivial
    · rw [List.getElem?_set_ne (Ne.symm hl)] at e
      exact R.slot l s e
  · have no : ∀ {k : Nat} {dk : List D}, (ρ.set j .un)[k]? = some (.ow dk) → ρ[k]? = some (.ow dk) := fun {k dk} e => by
      by_cases hk : k = j
      · subst hk
        have hlt : k < ρ.length := by simpa using (List.getElem?_eq_some_iff.mp e).1
        rw [List.getElem?_set_self hlt] at e
        cases e
      · rw [List.getElem?_set_ne (Ne.symm hk)] at e
        exact e
    exact R.dist k l dk dl q (no e1) (no e2) e3 e4
/-- an owned list is changed -/
theorem Rel.mut {i : Nat} {p : Addr} {ds ds' : List D} {vs vs' : List V} (R : Rel K ta ρ S σ H) (hi : ρ[i]? = some (.ow ds)) (hp : σ[i]? = some (some (.ref p))) (n : S p = none) (nt : ta.a ≠ some p) (ha : RpAll K S vs' ds') :
    Rel K ta (ρ.set i (.ow ds')) S σ (upd H p (.lst vs')) := by
  have hl : i < ρ.length := (List.getElem?_eq_some_iff.mp hi).1
  refine ⟨by simp [R.len], fun b o e => ?_, fun j s e => ?_, fun j l dj dl q e1 e2 e3 e4 => ?_⟩
  · have nb : b ≠ p := fun z => by rw [z, n] at e; cases e
    rw [upd_ne nb]; exact R.sub b o e
  · by_cases hj : j = i
    · subst hj
      rw [List.getElem?_set_self hl] at e
      cases e
      exact ⟨p, vs', by rw [hp]; rfl, upd_same, n, ha, nt⟩
    · rw [List.getElem?_set_ne (Ne.symm hj)] at e
      have h := R.slot j s e
      cases s with
      | un => trivial
      | im d => exact h
      | tp => exact h
      | ow dj =>
        obtain ⟨q, ws, e1, e2, e3, e4, e5⟩ := h
        have nq : q ≠ p := fun z => by
          subst z
          exact hj (R.dist j i dj ds q e hi (getD_some e1) hp)
        exact ⟨q, ws, e1, by rw [upd_ne nq]; exact e2, e3, e4, e5⟩
  · have pre : ∀ (j : Nat) (dj : List D), (ρ.set i (.ow ds'))[j]? = some (.ow dj) → ∃ d0, ρ[j]? = some (.ow d0) := fun j dj e => by
      by_cases hj : j = i
      · subst hj; exact ⟨ds, hi⟩
      · rw [List.getElem?_set_ne (Ne.symm hj)] at e; exact ⟨dj, e⟩
    obtain ⟨d1, f1⟩ := pre j dj e1
    obtain ⟨d2, f2⟩ := pre l dl e2
    exact R.dist j l d1 d2 q f1 f2 e3 e4
theorem TpOk.mut {τ : Tp} {p : Addr} {o : HO} (t : TpOk K ta S H τ) (nt : ta.a ≠ some p) : TpOk K ta S (upd H p o) τ := fun a e => by
  have na : a ≠ p := fun z => nt (by rw [← z]; exact e)
  exact (t a e).mono (Same.refl _) (t a e).1 (upd_ne na)
/-- an owned list is made stable -/
theorem Rel.frzOw {i : Nat} {p : Addr} {ds : List D} {vs : List V} (R : Rel K ta ρ S σ H) (hi : ρ[i]? = some (.ow ds)) (hp : σ[i]? = some (some (.ref p))) (h : H p = some (.lst vs)) (n : S p = none) (ha : RpAll K S vs ds) :
    Rel K ta (ρ.set i (.im (.list ds))) (upd S p (.lst vs)) σ H := by
  have hl : i < ρ.length := (List.getElem?_eq_some_iff.mp hi).1
  have s1 : Same S (upd S p (.lst vs)) := same_upd n
  have pre : ∀ (j : Nat) (dj : List D), (ρ.set i (.im (.list ds)))[j]? = some (.ow dj) → j ≠ i ∧ ρ[j]? = some (.ow dj) := fun j dj e => by
    by_cases hj : j = i
    · subst hj; rw [List.getElem?_set_self hl] at e; cases e
    · rw [List.getElem?_set_ne (Ne.symm hj)] at e; exact ⟨hj, e⟩
  refine ⟨by simp [R.len], fun b o e => ?_, fun j s e => ?_, fun j l dj dl q e1 e2 e3 e4 => R.dist j l dj dl q (pre j dj e1).2 (pre l dl e2).2 e3 e4⟩
  · by_cases hb : b = p
    · subst hb; rw [upd_same] at e; cases e; exact h
    · rw [upd_ne hb] at e; exact R.sub b o e
  · by_cases hj : j = i
    · subst hj
      rw [List.getElem?_set_self hl] at e
      cases e
      exact ⟨.ref p, by rw [hp]; rfl, p, vs, rfl, upd_same, RpAll.mono s1 ds ha⟩
    · rw [List.getElem?_set_ne (Ne.symm hj)] at e
      have q := R.slot j s e
      cases s with
      | un => trivial
      | im d => obtain ⟨v, e1, e2⟩ := q; exact ⟨v, e1, Rp.mono s1 d e2⟩
      | tp => exact q
      | ow dj =>
        obtain ⟨q, ws, e1, e2, e3, e4, e5⟩ := q
        have nq : q ≠ p := fun z => by
          subst z
          exact hj (R.dist j i dj ds q e hi (getD_some e1) hp)
        exact ⟨q, ws, e1, e2, by rw [upd_ne nq]; exact e3, RpAll.mono s1 dj e4, e5⟩
end
section
variable {X : Cx} {ta : Ta} {Φ : Nat → List D → Option R} {Ψ : Nat → List D → Tp → Option (R × Tp)} {N : Nat} {e a b c : Expr} {ca cb cc : E} {x : Str} {p pos : Pos} {es : List Expr} {cs : List E} {st : Stmt} {sts : List Stmt} {s : S} {ss : List S}
theorem s_nil : PSs X [] (tSts X.K ta Φ Ψ N []) := PSs.weak pss_nil fun D σ H ⟨S, ρ, τ, o, hR, hT, he, hO⟩ => by
  simp only [evSs] at he
  cases he
  exact hO σ H S (Same.refl _) hR hT
theorem s_cons (h1 : PS X st (tSt X.K ta Φ Ψ N s)) (h2 : PSs X sts (tSts X.K ta Φ Ψ N ss)) : PSs X (st :: sts) (tSts X.K ta Φ Ψ N (s :: ss)) := PSs.weak (pss_cons h1 h2) fun D σ H ⟨S, ρ, τ, o, hR, hT, he, hO⟩ => by
  simp only [evSs] at he
  obtain ⟨o1, h1, he⟩ := bind_some he
  refine ⟨S, ρ, τ, o1, hR, hT, h1, ?_⟩
  cases o1 with
  | nx ρ1 τ1 => exact fun σ' H' S' s' R' t' => ⟨S', ρ1, τ1, o, R', t', he, hO.mono s'⟩
  | bk ρ1 τ1 => cases he; exact hO
  | ct ρ1 τ1 => cases he; exact hO
  | rt r τ1 => cases he; exact hO
/-- target = value, by data -/
theorem set_data {tg : Tg} {D : Ends} {σ : L2.St} {H : Hp} (h : tSt X.K ta Φ Ψ N (.set tg ca) D σ H) : tAsg (tE X.K ta Φ Ψ ca) (gT X.K tg) D σ H := by
  obtain ⟨S, ρ, τ, o, hR, hT, he, hO⟩ := h
  simp only [evS] at he
  obtain ⟨x, hx, he⟩ := bind_some he
  obtain ⟨ρ1, hp, he⟩ := map_some he
  cases he
  refine ⟨S, ρ, τ, x.1, x.2, hR, hT, hx, fun v S1 H1 st rv => ?_⟩
  have R1 := hR.step st
  cases tg with
  | nm i =>
    obtain ⟨⟨k, d⟩, τ'⟩ := x
    cases k with
    | B => cases d <;> simp [putTg, putR] at hp
    | S =>
      simp only [putTg, putR, Option.some.injEq] at hp
      subst hp
      exact hO _ H1 S1 st.same (R1.put rv) st.tape
    | F =>
      obtain ⟨q, ds, vs, e1, e2, e3, e4, e5, e6⟩ := rv
      have e1' : d = .list ds := e1
      subst e1' e2
      simp only [putTg, putR, Option.some.injEq] at hp
      subst hp
      exact hO _ H1 S1 st.same (Rel.putOw hR R1 e5 (st.ntaF hT e5) e3 e4 e6) st.tape
  | tu is =>
    obtain ⟨⟨k, d⟩, τ'⟩ := x
    have hd : ∃ ds, d = .tuple ds := by cases d <;> simp only [putTg] at hp <;> first | cases hp | exact ⟨_, rfl⟩
    obtain ⟨ds, rfl⟩ := hd
    simp only [putTg] at hp
    have rp : Rp X.K S1 v (.tuple ds) := by
      cases k with
      | S => exact rv
      | B => obtain ⟨q, _, _, z, _⟩ := rv; cases z
      | F => obtain ⟨q, _, _, z, _⟩ := rv; cases z
    exact tg_ok (tg := .tu is) R1 rp hp fun σ1 R2 _ _ => hO σ1 H1 S1 st.same R2 st.tape
theorem s_set {i : Nat} {pos' : Pos} (hN : X.N.Nodup) (hi : X.N[i]? = some x) (hx : Loc X.env.scope x) (he : PE X e (tE X.K ta Φ Ψ ca)) (hs : swapsWith e (some (.Name x pos')) pos.line X.env = pure false) (hf : X.fn x = true ∨ X.env.scope.names.lookup x = some .local) :
    PS X (.Assign [.Name x pos'] e pos) (tSt X.K ta Φ Ψ N (.set (.nm i) ca)) := PS.weak (ps_set hN hi hx he hs hf) fun D σ H h => set_data h
theorem s_asg {tg : Expr} {t : Tg} (he : PE X e (tE X.K ta Φ Ψ ca)) (hg : PG X tg (gT X.K t)) (hs : swapsWithSole [tg] e pos.line X.env = pure false) (hw : swappedStores [tg] e X.env = pure none) (h1 : (assignEach [tg] X.env).map (·.2) = [assign tg X.env]) :
    PS X (.Assign [tg] e pos) (tSt X.K ta Φ Ψ N (.set t ca)) := PS.weak (ps_asg he hg hs hw h1) fun D σ H h => set_data h
theorem par_ok {K : PySem.W.Frag} {S H : Hp} {v : V} {r : R} {d : D} (u : UV K ta S H v r) (h : stb r = some d) : Rp K S v d := u.st h
theorem s_par2 {i j : Nat} {y : Str} {px py pt : Pos} {kt k2 pt2} (hc : X.calm = true) (hN : X.N.Nodup) (hi : X.N[i]? = some x) (hj : X.N[j]? = some y) (hij : i ≠ j) (hx : X.env.scope.names.lookup x = some .local) (hy : X.env.scope.names.lookup y = some .local) (ha : PA X [a, b] (tAs X.K ta Φ Ψ [ca, cb]))
    (hw : swappedStores [.Tuple [.Name x px, .Name y py] kt pt] (.Tuple [a, b] k2 pt2) X.env = pure (some [x, y])) (hs : swapsWithSole [.Tuple [.Name x px, .Name y py] kt pt] (.Tuple [a, b] k2 pt2) pos.line X.env = pure false) :
    PS X (.Assign [.Tuple [.Name x px, .Name y py] kt pt] (.Tuple [a, b] k2 pt2) pos) (tSt X.K ta Φ Ψ N (.par2 i j ca cb)) := PS.weak (ps_par hc hN hi hj hij hx hy ha hw hs) fun D σ H ⟨S, ρ, τ, o, hR, hT, he, hO⟩ => by
  simp only [evS] at he
  obtain ⟨x1, h1, he⟩ := bind_some he
  obtain ⟨x2, h2, he⟩ := bind_some he
  obtain ⟨v1, g1, he⟩ := bind_some he
  obtain ⟨v2, g2, he⟩ := map_some he
  cases he
  refine ⟨S, ρ, τ, [x1.1, x2.1], x2.2, hR, hT, by simp [evs, h1, h2], fun vs S1 H1 st u => ?_⟩
  cases vs with
  | nil => exact u.elim
  | cons w1 vs => cases vs with
    | nil => exact u.2.elim
    | cons w2 vs => cases vs with
      | cons _ _ => exact u.2.2.elim
      | nil => exact ⟨w1, w2, rfl, hO _ H1 S1 st.same (((hR.step st).put (u.1.st g1)).put (u.2.1.st g2)) st.tape⟩
theorem s_par3 {i j l : Nat} {y z : Str} {px py pz pt : Pos} {kt k2 pt2} (hc : X.calm = true) (hN : X.N.Nodup) (hi : X.N[i]? = some x) (hj : X.N[j]? = some y) (hl : X.N[l]? = some z) (hij : i ≠ j) (hil : i ≠ l) (hjl : j ≠ l) (hx : X.env.scope.names.lookup x = some .local) (hy : X.env.scope.names.lookup y = some .local) (hz : X.env.scope.names.lookup z = some .local)
    (ha : PA X [a, b, c] (tAs X.K ta Φ Ψ [ca, cb, cc])) (h : PS X (.Assign [.Tuple [.Name x px, .Name y py, .Name z pz] kt pt] (.Tuple [a, b, c] k2 pt2) pos) (tPar3 i j l (tAs X.K ta Φ Ψ [ca, cb, cc]))) :
    PS X (.Assign [.Tuple [.Name x px, .Name y py, .Name z pz] kt pt] (.Tuple [a, b, c] k2 pt2) pos) (tSt X.K ta Φ Ψ N (.par3 i j l ca cb cc)) := PS.weak h fun D σ H ⟨S, ρ, τ, o, hR, hT, he, hO⟩ => by
  simp only [evS] at he
  obtain ⟨x1, h1, he⟩ := bind_some he
  obtain ⟨x2, h2, he⟩ := bind_some he
  obtain ⟨x3, h3, he⟩ := bind_some he
  obtain ⟨v1, g1, he⟩ := bind_some he
  obtain ⟨v2, g2, he⟩ := bind_some he
  obtain ⟨v3, g3, he⟩ := map_some he
  cases he
  refine ⟨S, ρ, τ, [x1.1, x2.1, x3.1], x3.2, hR, hT, by simp [evs, h1, h2, h3], fun vs S1 H1 st u => ?_⟩
  cases vs with
  | nil => exact u.elim
  | cons w1 vs => cases vs with
    | nil => exact u.2.elim
    | cons w2 vs => cases vs with
      | nil => exact u.2.2.elim
      | cons w3 vs => cases vs with
        | cons _ _ => exact u.2.2.2.elim
        | nil => exact ⟨w1, w2, w3, rfl, hO _ H1 S1 st.same ((((hR.step st).put (u.1.st g1)).put (u.2.1.st g2)).put (u.2.2.1.st g3)) st.tape⟩
/-- name op= value -/
theorem imulW : OpR X (inplaceOp .Mult) (rI CMulW fun i j => .int (i * j)) := opI fun _ _ _ _ _ _ _ hc q => imul_int q hc.ok
def rAug (op : Bo) : TIp := fun x y H Q => ∃ i j k, x = .int i ∧ y = .int j ∧ augD op (.int i) (.int j) = some (.int k) ∧ Q (.int k) H
theorem aug_run (op : Bo) : PIp X (boO op) (rAug op) := by
  intro pins s σ H x y v u Q I rx ry ⟨i, j, k, ex, ey, e, q⟩
  subst ex ey
  cases op with
  | add => simp only [augD] at e; cases e; exact iop_add pins s σ H _ _ v u Q I rx ry ⟨i, j, rfl, rfl, q⟩
  | sub => simp only [augD] at e; cases e; exact iop_sub pins s σ H _ _ v u Q I rx ry ⟨i, j, rfl, rfl, q⟩
  | mul =>
    simp only [augD] at e
    by_cases hc : mulFits i j = true
    · rw [if_pos hc] at e
      cases e
      exact imulW pins s σ H _ _ v u Q I rx ry ⟨i, j, rfl, rfl, (show CMulW i j by unfold CMulW; unfold mulFits at hc; exact of_decide_eq_true hc), q⟩
    · rw [if_neg hc] at e; cases e
  | fdiv =>
    simp only [augD, divFits, Bool.and_eq_true, decide_eq_true_eq] at e
    split at e
    · rename_i hc
      cases e
      refine iop_fdivW pins s σ H _ _ v u Q I rx ry ⟨i, j, rfl, rfl, ⟨hc.2, hc.1.2⟩, ?_⟩
      have h0 : 0 ≤ j := by omega
      rw [Int.fdiv_eq_ediv_of_nonneg i h0] at q
      exact q
    · cases e
  | mod =>
    simp only [augD, decide_eq_true_eq] at e
    split at e
    · rename_i hc
      cases e
      refine iop_mod pins s σ H _ _ v u Q I rx ry ⟨i, j, rfl, rfl, hc, ?_⟩
      have h0 : 0 ≤ j := by omega
      rw [Int.fmod_eq_emod_of_nonneg i h0] at q
      exact q
    · cases e
  | pow => cases e
theorem s_aug {i : Nat} {op : Bo} {pos' : Pos} (hN : X.N.Nodup) (hi : X.N[i]? = some x) (hx : Loc X.env.scope x) (he : PE X e (tE X.K ta Φ Ψ ca)) (hf : X.fn x = true ∨ X.env.scope.names.lookup x = some .local) :
    PS X (.AugAssign (.Name x pos') (boO op) e pos) (tSt X.K ta Φ Ψ N (.aug i op ca)) := PS.weak (ps_aug hN hi hx he.use (aug_run op) hf) fun D σ H ⟨S, ρ, τ, o, hR, hT, hv, hO⟩ => by
  simp only [evS] at hv
  split at hv
  · rename_i d hq
    obtain ⟨y, hy, hv⟩ := bind_some hv
    obtain ⟨r, hr, hv⟩ := map_some hv
    cases hv
    obtain ⟨v, e1, e2⟩ := hR.slot i _ hq
    refine ⟨v, getD_some e1, one_ok hR hT hy fun vx S1 H1 st u => ?_⟩
    have isI : ∃ k l m, d = .int k ∧ y.1.d = .int l ∧ r = .int m := by
      cases d <;> cases q : y.1.d <;> rw [q] at hr <;> cases op <;> simp [augD] at hr <;> first | exact ⟨_, _, _, rfl, rfl, hr.symm⟩ | exact ⟨_, _, _, rfl, rfl, hr.2.symm⟩
    obtain ⟨k, l, m, rfl, q2, rfl⟩ := isI
    rw [q2] at hr
    refine ⟨k, l, m, e2, u.int q2, hr, hO _ H1 S1 st.same ((hR.step st).put (show Rp X.K S1 (.int m) (.int m) from rfl)) st.tape⟩
  · cases hv
/-- methods of an owned list -/
theorem ow_at {S H : Hp} {ρ : Rho} {σ : L2.St} {i : Nat} {ds : List D} (hR : Rel X.K ta ρ S σ H) (hi : ρ[i]? = some (.ow ds)) : ∃ p vs, σ[i]? = some (some (.ref p)) ∧ H p = some (.lst vs) ∧ S p = none ∧ RpAll X.K S vs ds ∧ ta.a ≠ some p := by
  obtain ⟨p, vs, e1, e2⟩ := hR.slot i _ hi
  exact ⟨p, vs, getD_some e1, e2⟩
theorem s_app {i : Nat} (h : PS X st (tDrop (tBM X.K "list" rAppend (tVar i) (tCons (tU X.K ta Φ Ψ ca) tNil)))) : PS X st (tSt X.K ta Φ Ψ N (.app i ca)) := PS.weak h fun D σ H ⟨S, ρ, τ, o, hR, hT, hv, hO⟩ => by
  simp only [evS] at hv
  split at hv
  · rename_i ds hq
    obtain ⟨y, hy, hv⟩ := bind_some hv
    obtain ⟨d, hd, hv⟩ := bind_some hv
    split at hv
    · rename_i hc
      cases hv
      obtain ⟨p, vs, e1, e2, e3, e4, e5⟩ := ow_at hR hq
      refine ⟨.ref p, e1, .inl ⟨rfl, vs, SqL.of e2⟩, one_ok hR hT hy fun vx S1 H1 st u => ?_⟩
      have R1 := hR.step st
      have f2 : H1 p = some (.lst vs) := st.gro _ _ e5 e2
      have f3 : S1 p = none := st.nn _ _ e5 e2 e3
      refine ⟨p, vs, vx, rfl, rfl, f2, lt_of (by rw [e4.length]; exact of_decide_eq_true hc), ?_⟩
      exact hO σ _ S1 st.same (R1.mut hq e1 f3 e5 ((RpAll.mono st.same ds e4).append ⟨vx, [], rfl, u.st hd, rfl⟩) (vs := vs)) (st.tape.mut e5)
    · cases hv
  · cases hv
theorem s_ext {i : Nat} (h : PS X st (tDrop (tBM X.K "list" rExtend (tVar i) (tCons (tU X.K ta Φ Ψ ca) tNil)))) : PS X st (tSt X.K ta Φ Ψ N (.ext i ca)) := PS.weak h fun D σ H ⟨S, ρ, τ, o, hR, hT, hv, hO⟩ => by
  simp only [evS] at hv
  split at hv
  · rename_i ds hq
    obtain ⟨y, hy, hv⟩ := bind_some hv
    split at hv
    · rename_i es hd
      split at hv
      · rename_i hc
        cases hv
        obtain ⟨p, vs, e1, e2, e3, e4, e5⟩ := ow_at hR hq
        refine ⟨.ref p, e1, .inl ⟨rfl, vs, SqL.of e2⟩, one_ok hR hT hy fun vx S1 H1 st u => ?_⟩
        have R1 := hR.step st
        have f2 : H1 p = some (.lst vs) := st.gro _ _ e5 e2
        have f3 : S1 p = none := st.nn _ _ e5 e2 e3
        obtain ⟨q, ws, rfl, g1, g2⟩ := u.lst st.sub hd
        have hc' := of_decide_eq_true hc
        rw [List.length_append, ← e4.length, ← g2.length] at hc'
        refine ⟨p, q, vs, ws, rfl, rfl, f2, g1, len_of hc', ?_⟩
        exact hO σ _ S1 st.same (R1.mut hq e1 f3 e5 ((RpAll.mono st.same ds e4).append g2) (vs := vs)) (st.tape.mut e5)
      · cases hv
    · cases hv
  · cases hv
theorem RpAll.dropLast {K : PySem.W.Frag} {H : Hp} {ds : List D} {vs : List V} (h : RpAll K H vs ds) : RpAll K H vs.dropLast ds.dropLast := by
  rw [List.dropLast_eq_take, List.dropLast_eq_take, h.length]
  exact RpAll.take _ h
theorem s_pop {i : Nat} (h : PS X st (tDrop (tBM0 X.K "list" rPop (tVar i)))) : PS X st (tSt X.K ta Φ Ψ N (.pop i)) := PS.weak h fun D σ H ⟨S, ρ, τ, o, hR, hT, hv, hO⟩ => by
  simp only [evS] at hv
  split at hv
  · rename_i ds hq
    split at hv
    · cases hv
    · rename_i hne
      cases hv
      obtain ⟨p, vs, e1, e2, e3, e4, e5⟩ := ow_at hR hq
      have hl : 0 < vs.length := by
        rw [e4.length]
        cases ds with
        | nil => simp at hne
        | cons _ _ => simp
      refine ⟨.ref p, e1, .inl ⟨rfl, vs, SqL.of e2⟩, p, vs, vs[vs.length - 1]'(by omega), rfl, rfl, e2, List.getElem?_eq_getElem _, ?_⟩
      exact hO σ _ S (Same.refl _) (hR.mut hq e1 e3 e5 (RpAll.dropLast e4) (vs := vs)) (hT.mut e5)
  · cases hv
theorem popt_data {tg : Tg} {i : Nat} {D : Ends} {σ : L2.St} {H : Hp} (h : tSt X.K ta Φ Ψ N (.popt tg i) D σ H) : tAsg (tBM0 X.K "list" rPop (tVar i)) (gT X.K tg) D σ H := by
  obtain ⟨S, ρ, τ, o, hR, hT, hv, hO⟩ := h
  simp only [evS] at hv
  split at hv
  · rename_i ds hq
    split at hv
    · rename_i d hd
      obtain ⟨ρ1, h1, hv⟩ := map_some hv
      cases hv
      obtain ⟨p, vs, e1, e2, e3, e4, e5⟩ := ow_at hR hq
      have hne : ds ≠ [] := fun z => by subst z; cases hd
      have hd' : ds[ds.length - 1]? = some d := by rw [List.getLast?_eq_getElem?] at hd; exact hd
      obtain ⟨y, y1, y2⟩ := e4.get hd'
      rw [← e4.length] at y1
      refine ⟨.ref p, e1, .inl ⟨rfl, vs, SqL.of e2⟩, p, vs, y, rfl, rfl, e2, y1, ?_⟩
      have R1 := hR.mut hq e1 e3 e5 (RpAll.dropLast e4) (vs := vs)
      exact tg_ok R1 y2 h1 fun σ1 R2 _ _ => hO σ1 _ S (Same.refl _) R2 (hT.mut e5)
    · cases hv
  · cases hv
theorem mov_data {i j : Nat} {D : Ends} {σ : L2.St} {H : Hp} (h : tSt X.K ta Φ Ψ N (.mov i j) D σ H) : tAsg (tVar j) (gT X.K (.nm i)) D σ H := by
  obtain ⟨S, ρ, τ, o, hR, hT, hv, hO⟩ := h
  simp only [evS] at hv
  split at hv
  · rename_i d hq
    cases hv
    obtain ⟨v, e1, e2⟩ := hR.slot j _ hq
    exact ⟨v, getD_some e1, hO _ H S (Same.refl _) (hR.put e2) hT⟩
  · rename_i ds hq
    cases hv
    obtain ⟨p, vs, e1, e2, e3, e4, e5⟩ := ow_at hR hq
    refine ⟨.ref p, e1, hO _ H S (Same.refl _) ?_ hT⟩
    refine Rel.putOwO (vs := vs) hR.drop (fun l dl el z => ?_) e5 e2 e3 e4
    by_cases hl : l = j
    · subst hl
      have hlt : l < ρ.length := (List.getElem?_eq_some_iff.mp hq).1
      rw [List.getElem?_set_self hlt] at el
      cases el
    · rw [List.getElem?_set_ne (Ne.symm hl)] at el
      exact hl (hR.dist l j dl ds p el hq z e1)
  · cases hv
theorem s_sti {i : Nat} (h : PS X st (tAsg (tU X.K ta Φ Ψ ca) (gSub (tVar i) (tU X.K ta Φ Ψ cb) rSetL))) : PS X st (tSt X.K ta Φ Ψ N (.sti i cb ca)) := PS.weak h fun D σ H ⟨S, ρ, τ, o, hR, hT, hv, hO⟩ => by
  simp only [evS] at hv
  obtain ⟨y, hy, hv⟩ := bind_some hv
  obtain ⟨d, hd, hv⟩ := bind_some hv
  split at hv
  · rename_i ds hq
    obtain ⟨z, hz, hv⟩ := bind_some hv
    obtain ⟨k, hk, hv⟩ := bind_some hv
    obtain ⟨j, hj, hv⟩ := map_some hv
    cases hv
    refine one_ok hR hT hy fun vx S1 H1 st u => ?_
    have R1 := hR.step st
    obtain ⟨p, vs, e1, e2, e3, e4, e5⟩ := ow_at R1 hq
    refine ⟨.ref p, e1, one_ok R1 st.tape hz fun vy S2 H2 st2 u2 => ?_⟩
    have R2 := R1.step st2
    have f2 : H2 p = some (.lst vs) := st2.gro _ _ e5 e2
    have f3 : S2 p = none := st2.nn _ _ e5 e2 e3
    refine ⟨p, vs, k, j, rfl, u2.int (intOf_some hk), f2, by rw [e4.length]; exact hj, ?_⟩
    exact hO σ _ S2 (st.trans st2).same (R2.mut hq e1 f3 e5 (RpAll.set j (RpAll.mono st2.same ds e4) (Rp.mono st2.same d (u.st hd))) (vs := vs)) (st2.tape.mut e5)
  · cases hv
/-- return -/
theorem s_ret (he : PE X e (tE X.K ta Φ Ψ ca)) : PS X (.Return (some e) pos) (tSt X.K ta Φ Ψ N (.ret ca)) := PS.weak (ps_ret he) fun D σ H ⟨S, ρ, τ, o, hR, hT, hv, hO⟩ => by
  simp only [evS] at hv
  obtain ⟨y, hy, hv⟩ := bind_some hv
  refine ⟨S, ρ, τ, y.1, y.2, hR, hT, hy, fun v S1 H1 st rv => ?_⟩
  obtain ⟨⟨k, d⟩, τ'⟩ := y
  cases k with
  | B => cases hv
  | S => cases hv; exact hO v H1 S1 st.same st.sub st.tape rv
  | F =>
    cases hv
    obtain ⟨q, ds, vs, e1, e2, e3, e4, e5, e6⟩ := rv
    exact hO v H1 S1 st.same st.sub st.tape ⟨q, ds, vs, e1, e2, e3, e4, e6, st.ntaF hT e5⟩
theorem s_retv {i : Nat} (he : PE X e (tVar i)) : PS X (.Return (some e) pos) (tSt X.K ta Φ Ψ N (.retv i)) := PS.weak (ps_ret he) fun D σ H ⟨S, ρ, τ, o, hR, hT, hv, hO⟩ => by
  simp only [evS] at hv
  split at hv
  · rename_i d hq
    cases hv
    obtain ⟨v, e1, e2⟩ := hR.slot i _ hq
    exact ⟨v, getD_some e1, hO v H S (Same.refl _) hR.sub hT e2⟩
  · rename_i ds hq
    cases hv
    obtain ⟨p, vs, e1, e2, e3, e4, e5⟩ := ow_at hR hq
    exact ⟨.ref p, e1, hO _ H S (Same.refl _) hR.sub hT ⟨p, ds, vs, rfl, rfl, e2, e3, e4, e5⟩⟩
  · cases hv
theorem s_retn : PS X (.Return none pos) (tSt X.K ta Φ Ψ N .retn) := PS.weak ps_retN fun D σ H ⟨S, ρ, τ, o, hR, hT, hv, hO⟩ => by
  simp only [evS] at hv
  cases hv
  exact hO .non H S (Same.refl _) hR.sub hT (show Rp X.K S .non .none from rfl)
theorem s_ite {sa sb : List Stmt} {xa xb : List S} (hc : PT X c (tT X.K ta Φ Ψ cc)) (ha : PSs X sa (tSts X.K ta Φ Ψ N xa)) (hb : PSs X sb (tSts X.K ta Φ Ψ N xb)) : PS X (.If c sa sb pos) (tSt X.K ta Φ Ψ N (.ite cc xa xb)) := PS.weak (ps_if hc ha hb) fun D σ H ⟨S, ρ, τ, o, hR, hT, hv, hO⟩ => by
  simp only [evS] at hv
  obtain ⟨y, hy, hv⟩ := bind_some hv
  split at hv
  · rename_i q
    exact ⟨S, ρ, τ, y.1, y.2, true, hR, hT, hy, q, fun S1 H1 st => iteT ⟨S1, ρ, y.2, o, hR.step st, st.tape, hv, hO.mono st.same⟩⟩
  · rename_i q
    exact ⟨S, ρ, τ, y.1, y.2, false, hR, hT, hy, q, fun S1 H1 st => iteF ⟨S1, ρ, y.2, o, hR.step st, st.tape, hv, hO.mono st.same⟩⟩
  · cases hv
theorem s_whl {body : List Stmt} (hp : PassesOwn (model X.prog X.w) X.A X.env X.xe) (hc : PT X c (tT X.K ta Φ Ψ cc)) (hb : PSs X body (tSts X.K ta Φ Ψ N ss)) : PS X (.While c body [] pos) (tSt X.K ta Φ Ψ N (.whl cc ss)) := PS.weak (ps_while hp hc hb) fun D σ H ⟨S, ρ, τ, o, hR, hT, hv, hO⟩ => by
  simp only [evS] at hv
  generalize hf : (fun ρ τ => evSs Φ Ψ N ρ τ ss) = f at hv
  generalize hg : (fun ρ τ => ev Φ Ψ ρ τ cc) = g at hv
  refine ⟨fun m σ' H' => ∃ S' ρ' τ', Same S S' ∧ Rel X.K ta ρ' S' σ' H' ∧ TpOk X.K ta S' H' τ' ∧ whL g f m ρ' τ' = some o, ⟨N, S, ρ, τ, Same.refl _, hR, hT, hv⟩, ?_⟩
  rintro m σ' H' ⟨S', ρ', τ', s', R', t', w⟩
  cases m with
  | zero => cases w
  | succ m =>
    unfold whL at w
    obtain ⟨y, hy, w⟩ := bind_some w
    rw [← hg] at hy
    split at w
    · rename_i q
      obtain ⟨o1, h1, w⟩ := bind_some w
      rw [← hf] at h1
      refine ⟨S', ρ', τ', y.1, y.2, true, R', t', hy, q, fun S1 H1 st => iteT ⟨fun σ2 H2 => ∃ S2 ρ2 τ2, Same S S2 ∧ Rel X.K ta ρ2 S2 σ2 H2 ∧ TpOk X.K ta S2 H2 τ2 ∧ whL g f m ρ2 τ2 = some o, fun σ2 H2 h => ⟨m, Nat.lt_succ_self m, h⟩, ?_⟩⟩
      refine ⟨S1, ρ', y.2, o1, R'.step st, st.tape, h1, ?_⟩
      have sS := s'.trans st.same
      cases o1 with
      | nx ρ1 τ1 => exact fun σ2 H2 S2 s2 R2 t2 => ⟨S2, ρ1, τ1, sS.trans s2, R2, t2, w⟩
      | ct ρ1 τ1 => exact fun σ2 H2 S2 s2 R2 t2 => ⟨S2, ρ1, τ1, sS.trans s2, R2, t2, w⟩
      | bk ρ1 τ1 => cases w; exact fun σ2 H2 S2 s2 R2 t2 => hO σ2 H2 S2 (sS.trans s2) R2 t2
      | rt r τ1 => cases w; exact fun v H2 S2 s2 => hO v H2 S2 (sS.trans s2)
    · rename_i q
      cases w
      exact ⟨S', ρ', τ', y.1, y.2, false, R', t', hy, q, fun S1 H1 st => iteF (hO σ' H1 S1 (s'.trans st.same) (R'.step st) st.tape)⟩
    · cases w
/-- a for over what is stable -/
theorem for_core {tb : TS} {tg : Tg} {D : Ends} {f : Rho → Tp → Option Out} {J : It} {S1 H1 : Hp} {σ : L2.St} {ρ : Rho} {τ : Tp} {o : Out} {ds : List Ev.D} (hb : ∀ D σ H S ρ τ o, Rel X.K ta ρ S σ H → TpOk X.K ta S H τ → f ρ τ = some o → OutP X.K ta S D o → tb D σ H)
    (hR : Rel X.K ta ρ S1 σ H1) (hT : TpOk X.K ta S1 H1 τ) (hv : forL f tg ds ρ τ = some o) (hO : OutP X.K ta S1 D o) (wk : WalkOk X.K ta true J S1 H1 ds) :
    ∃ W : Nat → Nat → L2.St → Hp → Prop, (∃ m, W 0 m σ H1) ∧ ∀ i m σ H, W i m σ H →
      (J.stop i H ∧ D.nx σ H) ∨ (J.go i H ∧ ∃ N : L2.St → Hp → Prop, (∀ σ' H', N σ' H' → ∃ m', m' < m ∧ W (i + 1) m' σ' H') ∧ ∀ x H', J.yld i H x H' → gT X.K tg x σ H' fun σ2 H2 => tb { D with nx := N, ct := N, bk := D.nx } σ2 H2) := by
  let Pv : Nat → L2.St → Hp → Prop := fun i σ' H' => ∃ S' ρ' τ', Same S1 S' ∧ Rel X.K ta ρ' S' σ' H' ∧ TpOk X.K ta S' H' τ' ∧ forL f tg (ds.drop i) ρ' τ' = some o
  have start : Pv 0 σ H1 := ⟨S1, ρ, τ, Same.refl _, hR, hT, hv⟩
  have done : ∀ σ' H', Pv ds.length σ' H' → D.nx σ' H' := fun σ' H' ⟨S', ρ', τ', s, R', t', w⟩ => by
    rw [List.drop_length] at w
    cases w
    exact hO σ' H' S' s R' t'
  have turn : ∀ (i : Nat) (d : Ev.D) (v : V) (σ' : L2.St) (H' H2 : Hp), ds[i]? = some d → Pv i σ' H' → YldOk X.K S1 H' H2 v d → gT X.K tg v σ' H2 fun σ2 H2 => tb { D with nx := Pv (i + 1), ct := Pv (i + 1), bk := D.nx } σ2 H2 := by
    intro i d v σ' H' H2 hi ⟨S', ρ', τ', s, R', t', w⟩ hd
    have hlt : i < ds.length := (List.getElem?_eq_some_iff.mp hi).1
    have hdrop : ds.drop i = d :: ds.drop (i + 1) := by
      rw [List.drop_eq_getElem_cons hlt]
      congr 1
      exact (List.getElem?_eq_some_iff.mp hi).2
    rw [hdrop] at w
    unfold forL at w
    obtain ⟨ρ1, h1, w⟩ := bind_some w
    obtain ⟨o1, h2, w⟩ := bind_some w
    have hnew : ∃ S2, Same S' S2 ∧ Rel X.K ta ρ' S2 σ' H2 ∧ TpOk X.K ta S2 H2 τ' ∧ Rp X.K S2 v d := by
      rcases hd with ⟨e, hd⟩ | ⟨T, vs, es, ev1, n, e, ed, hall⟩
      · subst e
        exact ⟨S', Same.refl _, R', t', Rp.mono s d hd⟩
      · subst e ev1 ed
        have st : Stp X.K ta τ' S' H' (upd S' T (.tup vs)) (upd H' T (.tup vs)) := (Stp.refl R'.sub t').newS n (fun _ _ => trivial)
        exact ⟨_, st.same, R'.step st, st.tape, ⟨T, vs, rfl, SqT.of upd_same, RpAll.mono (s.trans st.same) es hall⟩⟩
    obtain ⟨S2, s2, R2, t2, hd2⟩ := hnew
    refine tg_ok R2 hd2 h1 fun σ1 R1 _ _ => ?_
    refine hb _ σ1 H2 S2 ρ1 τ' o1 R1 t2 h2 ?_
    have sS := s.trans s2
    cases o1 with
    | nx ρ2 τ2 => exact fun σ3 H3 S3 s3 R3 t3 => ⟨S3, ρ2, τ2, sS.trans s3, R3, t3, w⟩
    | ct ρ2 τ2 => exact fun σ3 H3 S3 s3 R3 t3 => ⟨S3, ρ2, τ2, sS.trans s3, R3, t3, w⟩
    | bk ρ2 τ2 => cases w; exact fun σ3 H3 S3 s3 R3 t3 => hO σ3 H3 S3 (sS.trans s3) R3 t3
    | rt r τ2 => cases w; exact fun v2 H3 S3 s3 => hO v2 H3 S3 (sS.trans s3)
  obtain ⟨G, Y, wk, hG, hY⟩ := wk
  refine for_it wk Pv start (fun i σ' H' _ ⟨S', ρ', τ', s, R', _⟩ => hG H' (s.trans R'.sub) (.inl rfl)) (fun i x σ' H' H2 hi hP y => ?_) done
  obtain ⟨d, e1, e2⟩ := hY i H' x H2 hi y
  exact turn i d x σ' H' H2 e1 hP e2
theorem s_for {tg iter : Expr} {body : List Stmt} {t : Tg} {k : Nat} {its : List E} (hp : PassesOwn (model X.prog X.w) X.A X.env X.xe) (hc : X.calm = true) (hi : PI X tg iter (tIt X.K ta Φ Ψ k its)) (hg : PG X tg (gT X.K t)) (hb : PSs X body (tSts X.K ta Φ Ψ N ss))
    (hs : ∀ x, foldedSetIterable iter X.env x = pure x) : PS X (.For tg iter body [] pos) (tSt X.K ta Φ Ψ N (.for_ t k its ss)) := PS.weak (ps_for hp hc hi hg hb hs) fun D σ H ⟨S, ρ, τ, o, hR, hT, hv, hO⟩ => by
  simp only [evS] at hv
  obtain ⟨y, hy, hv⟩ := bind_some hv
  obtain ⟨ds, hd, hv⟩ := bind_some hv
  split at hv
  · cases hv
  · rename_i hnb
    refine ⟨S, ρ, τ, y.1, y.2, ds, hR, hT, hy, hd, fun J S1 H1 st wk => ?_⟩
    have hnb' : (!y.1.any fun r => r.k == .B) = true := by simpa using hnb
    rw [hnb'] at wk
    exact for_core (f := fun ρ τ => evSs Φ Ψ N ρ τ ss) (fun D σ H S ρ τ o h1 h2 h3 h4 => ⟨S, ρ, τ, o, h1, h2, h3, h4⟩) (hR.step st) st.tape hv (hO.mono st.same) wk
theorem s_forv {tg : Expr} {body : List Stmt} {t : Tg} {i : Nat} (hp : PassesOwn (model X.prog X.w) X.A X.env X.xe) (hc : X.calm = true) (hi : PE X e (tVar i)) (hg : PG X tg (gT X.K t)) (hb : PSs X body (tSts X.K ta Φ Ψ N ss))
    (hs : ∀ x, foldedSetIterable e X.env x = pure x) : PS X (.For tg e body [] pos) (tSt X.K ta Φ Ψ N (.forv t i ss)) := PS.weak (ps_for hp hc (pi_seq hi) hg hb hs) fun D σ H ⟨S, ρ, τ, o, hR, hT, hv, hO⟩ => by
  simp only [evS] at hv
  split at hv
  · rename_i ds hq
    obtain ⟨p, vs, e1, e2, e3, e4, e5⟩ := ow_at hR hq
    have s1 : Same S (upd S p (.lst vs)) := same_upd e3
    have hT1 : TpOk X.K ta (upd S p (.lst vs)) H τ := fun a ea => by
      have na : a ≠ p := fun z => e5 (by rw [← z]; exact ea)
      exact (hT a ea).mono s1 (by rw [upd_ne na]; exact (hT a ea).1) rfl
    refine ⟨.ref p, e1, p, rfl, .inl ⟨⟨vs, SqL.of e2⟩, ?_⟩⟩
    exact for_core (f := fun ρ τ => evSs Φ Ψ N ρ τ ss) (fun D σ H S ρ τ o h1 h2 h3 h4 => ⟨S, ρ, τ, o, h1, h2, h3, h4⟩) (hR.frzOw hq e1 e2 e3 e4) hT1 hv (hO.mono s1) (walk_lstOk e2 e5 (RpAll.mono s1 ds e4) fun _ => upd_same)
  · rename_i d hq
    obtain ⟨ds, hd, hv⟩ := bind_some hv
    obtain ⟨v, e1, e2⟩ := hR.slot i _ hq
    refine ⟨v, getD_some e1, ?_⟩
    cases d <;> simp only [itD] at hd <;> first | cases hd | skip
    · obtain ⟨p, vs, rfl, f2, f3⟩ := e2
      refine ⟨p, rfl, .inl ⟨⟨vs, SqL.of (hR.sub _ _ f2)⟩, ?_⟩⟩
      exact for_core (f := fun ρ τ => evSs Φ Ψ N ρ τ ss) (fun D σ H S ρ τ o h1 h2 h3 h4 => ⟨S, ρ, τ, o, h1, h2, h3, h4⟩) hR hT hv hO (walk_lstOk (hR.sub _ _ f2) (fun z => (by have := (hT p z).1; rw [f2] at this; cases this)) f3 fun _ => f2)
    · obtain ⟨p, vs, rfl, f2, f3⟩ := e2
      refine ⟨p, rfl, .inr ⟨⟨vs, Same.seqT hR.sub f2⟩, ?_⟩⟩
      exact for_core (f := fun ρ τ => evSs Φ Ψ N ρ τ ss) (fun D σ H S ρ τ o h1 h2 h3 h4 => ⟨S, ρ, τ, o, h1, h2, h3, h4⟩) hR hT hv hO (walk_tupOk f2 f3)
  · cases hv
theorem s_brk : PS X (.Break pos) (tSt X.K ta Φ Ψ N .brk) := PS.weak ps_break fun D σ H ⟨S, ρ, τ, o, hR, hT, hv, hO⟩ => by
  simp only [evS] at hv
  cases hv
  exact hO σ H S (Same.refl _) hR hT
theorem s_cnt : PS X (.Continue pos) (tSt X.K ta Φ Ψ N .cnt) := PS.weak ps_continue fun D σ H ⟨S, ρ, τ, o, hR, hT, hv, hO⟩ => by
  simp only [evS] at hv
  cases hv
  exact hO σ H S (Same.refl _) hR hT
theorem s_pas : PS X (.Pass pos) (tSt X.K ta Φ Ψ N .pas) := PS.weak ps_pass fun D σ H ⟨S, ρ, τ, o, hR, hT, hv, hO⟩ => by
  simp only [evS] at hv
  cases hv
  exact hO σ H S (Same.refl _) hR hT
theorem s_exp (he : PE X e (tE X.K ta Φ Ψ ca)) (hs : swapsWith e none pos.line X.env = pure false) : PS X (.Expr e pos) (tSt X.K ta Φ Ψ N (.exp ca)) := PS.weak (ps_expr he hs) fun D σ H ⟨S, ρ, τ, o, hR, hT, hv, hO⟩ => by
  simp only [evS] at hv
  obtain ⟨y, hy, hv⟩ := map_some hv
  cases hv
  exact ⟨S, ρ, τ, y.1, y.2, hR, hT, hy, fun v S1 H1 st rv => hO σ H1 S1 st.same (hR.step st) st.tape⟩
theorem s_nev : PS X st (tSt X.K ta Φ Ψ N .nev) := PS.weak ps_never fun D σ H ⟨S, ρ, τ, o, hR, hT, hv, hO⟩ => by
  simp only [evS] at hv
  cases hv
end
end Ev

/-! ## Ev9 -/
namespace Ev
open PySem PySem.Spec PyProof.Rows L2

/-! ### from the syntax tree to the code -/
structure Cc where
  N : List Str
  sc : Scope
  cs : List (Str × D)
  fs : List Str
  ft : List Str
  bl : List Str
def ixOf : List Str → Str → Option Nat
  | [], _ => none
  | y :: r, x => if y = x then some 0 else (ixOf r x).map (· + 1)
theorem ixOf_get : ∀ {N : List Str} {x : Str} {i : Nat}, ixOf N x = some i → N[i]? = some x
  | [], _, _, h => by cases h
  | y :: r, x, i, h => by
    unfold ixOf at h
    split at h
    · rename_i e
      cases h
      simp [e]
    · obtain ⟨j, h1, h2⟩ := map_some h
      subst h2
      simpa using ixOf_get h1
def visB (sc : Scope) (x : Str) : Bool := match sc.names.lookup x with
  | some .local => true
  | some .cell => true
  | some .free => true
  | _ => false
theorem visB_ok {sc : Scope} {x : Str} (h : visB sc x = true) : Vis sc x := by
  unfold visB at h
  split at h
  · rename_i q; exact .inl q
  · rename_i q; exact .inr (.inl q)
  · rename_i q; exact .inr (.inr q)
  · cases h
def locB (sc : Scope) (x : Str) : Bool := match sc.names.lookup x with
  | some .local => true
  | some .cell => true
  | _ => false
theorem locB_ok {sc : Scope} {x : Str} (h : locB sc x = true) : Loc sc x := by
  unfold locB at h
  split at h
  · rename_i q; exact .inl q
  · rename_i q; exact .inr q
  · cases h
def glB (sc : Scope) (x : Str) : Bool := match sc.names.lookup x with
  | some .globalImplicit => true
  | _ => false
theorem glB_ok {X : Cx} {x : Str} (h : glB X.env.scope x = true) : Gl X x := by
  unfold glB at h
  split at h
  · rename_i q; exact q
  · cases h
def sDebug : Str := "__debug__"
def sClassdict : Str := "__classdict__"
def sName : Str := "__name__"
def sBits : Str := "bit_length"
def sRange : Str := "range"
def sAppend : Str := "append"
def sExtend : Str := "extend"
def sPop : Str := "pop"
def okName (x : Str) : Bool := !(x == sDebug) && !(x == sClassdict) && !(x == sName)
theorem okName_ok {x : Str} (h : okName x = true) : (x == ("__debug__" : Str)) = false ∧ (x == ("__classdict__" : Str)) = false ∧ x ≠ "__name__" := by
  unfold okName at h
  simp only [Bool.and_eq_true, Bool.not_eq_true'] at h
  exact ⟨h.1.1, h.1.2, fun e => by have := h.2; rw [e] at this; exact absurd (beq_self_eq_true _) (by rw [show (sName == sName) = false from this]; decide)⟩
def cVar (c : Cc) (x : Str) : Option Nat := if visB c.sc x && okName x then ixOf c.N x else none
def cOp : Operator → Option Bo
  | .Add => some .add | .Sub => some .sub | .Mult => some .mul | .FloorDiv => some .fdiv | .Mod => some .mod | .Pow => some .pow | _ => none
theorem cOp_ok {op : Operator} {b : Bo} (h : cOp op = some b) : boO b = op := by cases op <;> cases h <;> rfl
def cCo : CmpOp → Option Co
  | .Eq => some .eq | .NotEq => some .ne | .Lt => some .lt | .LtE => some .le | .Gt => some .gt | .GtE => some .ge | .In => some .isin | .NotIn => some .notin | _ => none
theorem cCo_ok {op : CmpOp} {b : Co} (h : cCo op = some b) : coO b = op := by cases op <;> cases h <;> rfl
def noneB : Expr → Bool
  | .Constant .none _ _ => true
  | _ => false
def cEs (f : Expr → Option E) : List Expr → Option (List E)
  | [] => some []
  | e :: es => (f e).bind fun x => (cEs f es).map fun xs => x :: xs
def cCompare (f : Expr → Option E) (a : Expr) (ops : List CmpOp) (bs : List Expr) : Option E := match ops, bs with
  | [op], [b] => match op with
    | .Is => if noneB b then (f a).map .isN else if behindInMarks .Is b then none else (f a).bind fun x => (f b).map fun y => .isB x y
    | .IsNot => if noneB b then (f a).map .notN else if behindInMarks .IsNot b then none else (f a).bind fun x => (f b).map fun y => .notB x y
    | op => if behindInMarks op b then none else (cCo op).bind fun o => (f a).bind fun x => (f b).map fun y => .cmp o x y
  | [o1, o2], [b, c] => if lastMarks [o1, o2] [b, c] then none else (cCo o1).bind fun p => (cCo o2).bind fun q => (f a).bind fun x => (f b).bind fun y => (f c).map fun z => .chn p q x y z
  | [o1, o2, o3], [b, c, d] => if lastMarks [o1, o2, o3] [b, c, d] then none else (cCo o1).bind fun p => (cCo o2).bind fun q => (cCo o3).bind fun r => (f a).bind fun x => (f b).bind fun y => (f c).bind fun z => (f d).map fun w => .ch3 p q r x y z w
  | _, _ => none
def conL : List E → Option E
  | [] => none
  | [a] => some a
  | a :: b :: r => (conL (b :: r)).map fun x => .con a x
def disL : List E → Option E
  | [] => none
  | [a] => some a
  | a :: b :: r => (disL (b :: r)).map fun x => .dis a x
def cBool (f : Expr → Option E) (op : BoolOp) (vs : List Expr) : Option E := (cEs f vs).bind fun cs => match op with
  | .And => conL cs
  | .Or => disL cs
def isRev : Option Expr → Bool
  | some (.UnaryOp .USub (.Constant (.int i) _ _) _) => decide (i = 1)
  | _ => false
def cSub (f : Expr → Option E) (a : Expr) (s : Expr) : Option E := match s with
  | .Slice lo hi st _ => match st with
    | none => match lo, hi with
      | none, none => (f a).map .slcA
      | some l, none => (f a).bind fun x => (f l).map fun y => .slcL x y
      | none, some h => (f a).bind fun x => (f h).map fun y => .slcH x y
      | some l, some h => (f a).bind fun x => (f l).bind fun y => (f h).map fun z => .slc x y z
    | st => match lo, hi with
      | none, none => if isRev st then (f a).map .rev else none
      | _, _ => none
  | b => (f a).bind fun x => (f b).map fun y => .idx x y
/-- the built-ins by name -/
def blNames : List (Str × Bl) := [("len", .len), ("abs", .abs), ("min", .min), ("max", .max), ("int", .int), ("tuple", .tuple), ("list", .list), ("sum", .sum), ("any", .any), ("all", .all), ("sorted", .sorted)]
def sLen : Str := "len"
def sSetN : Str := "set"
/-- set(e), and nothing else -/
def setB (c : Cc) (es : List Expr) : Option Expr := match es with
  | [.Call (.Name y _) [a] [] _] => if y = sSetN ∧ glB c.sc y = true ∧ c.bl.contains y = true then some a else none
  | _ => none
def cCall (c : Cc) (f : Expr → Option E) (fn : Expr) (args : List Expr) (kws : List Keyword) (pos : Pos) : Option E := match fn, args, kws with
  | .Name x _, e :: es, [] => if glB c.sc x && okName x then
      match ixOf c.fs x with
      | some k => (cEs f (e :: es)).map fun cs => .call k cs
      | none => match ixOf c.ft x with
        | some k => match e with
          | .Name d _ => (cVar c d).bind fun i => (cEs f es).map fun cs => .callT k i cs
          | _ => none
        | none => if c.bl.contains x then (match setB c (e :: es) with
          | some a => if x = sLen then (f a).map fun y => .blt .setlen [y] else none
          | none => (blNames.lookup x).bind fun b => (cEs f (e :: es)).map fun cs => .blt b cs) else none
      else none
  | .Attribute (.Name o p) at_ apos, [], [] => if at_ = sBits ∧ (apos.endLine == pos.line) = true then (f (.Name o p)).map fun x => .blt .bitlen [x] else none
  | _, _, _ => none
def cTgs (c : Cc) : List Expr → Option (List (Str × Nat))
  | [] => some []
  | .Name x _ :: r => if okName x then (ixOf c.N x).bind fun i => (cTgs c r).map fun xs => (x, i) :: xs else none
  | _ :: _ => none
def cTg (c : Cc) : Expr → Option (Tg × List (Str × Nat))
  | .Name x _ => if okName x then (ixOf c.N x).map fun i => (.nm i, [(x, i)]) else none
  | .Tuple es _ _ => (cTgs c es).map fun xs => (.tu (xs.map (·.2)), xs)
  | _ => none
def sEnum : Str := "enumerate"
def cIt (c : Cc) (f : Expr → Option E) (tg : Expr) (e : Expr) : Option (Nat × List E) := match e with
  | .Call (.Name x _) [a] [] _ => if x = sRange ∧ glB c.sc x = true ∧ c.bl.contains x = true then (f a).map fun y => (1, [y])
    else if x = sEnum ∧ glB c.sc x = true ∧ c.bl.contains x = true then match tg with
      | .Tuple _ _ _ => (f a).map fun y => (3, [y])
      | _ => none
    else (f e).map fun y => (0, [y])
  | .Call (.Name x _) [a, b] [] _ => if x = sRange ∧ glB c.sc x = true ∧ c.bl.contains x = true then (f a).bind fun y => (f b).map fun z => (2, [y, z]) else (f e).map fun y => (0, [y])
  | .Call (.Name x _) [a, b, d] [] _ => if x = sRange ∧ glB c.sc x = true ∧ c.bl.contains x = true then (f a).bind fun y => (f b).bind fun z => (f d).map fun w => (4, [y, z, w]) else (f e).map fun y => (0, [y])
  | e => (f e).map fun y => (0, [y])
def cComp (c : Cc) (f g : Expr → Option E) (elt : Expr) (gs : List Comprehension) (scope : Scope) : Option E := match gs with
  | [⟨tg, iter, ifs, z⟩] => if z = 0 ∧ ifs.length ≤ 1 then (cTg c tg).bind fun t => if blkC c.N c.sc scope t.2 && t.2.all (fun p => locB scope p.1) then
      (cIt c f tg iter).bind fun it => (cEs g ifs).bind fun cs => (g elt).map fun x => .comp x t.1 it.1 it.2 cs else none else none
  | _ => none
/-- what may stand for a truth that is not a bool -/
def truB : Expr → Bool
  | .Name _ _ => true
  | .Call _ _ _ _ => true
  | .Subscript _ _ _ => true
  | _ => false
def cTest (f : Expr → Option E) : Nat → Expr → Option E
  | 0, e => f e
  | n + 1, e => match e with
    | .BoolOp op vs _ => cBool (cTest f n) op vs
    | .UnaryOp op a _ => match op with
      | .Not => (cTest f n a).map .inv
      | _ => f e
    | e => if truB e then (f e).map .tru else f e
def compE : Nat → Cc → Expr → Option E
  | 0, _, _ => none
  | n + 1, c, e => match e with
    | .Constant k _ _ => match k with
      | .int i => some (.cst (.int i))
      | .bool b => some (.cst (.bool b))
      | .none => some (.cst .none)
      | .str s => some (.cst (.str s))
      | _ => none
    | .Name x _ => match cVar c x with
      | some i => some (.var i)
      | none => if glB c.sc x && okName x then (c.cs.lookup x).map .cst else none
    | .BinOp a op b _ => (cOp op).bind fun o => (compE n c a).bind fun x => (compE n c b).map fun y => .bin o x y
    | .UnaryOp op a _ => match op with
      | .USub => (compE n c a).map .neg
      | .Not => (compE n c a).map .inv
      | _ => none
    | .Compare a ops bs _ => cCompare (compE n c) a ops bs
    | .BoolOp op vs _ => cBool (compE n c) op vs
    | .IfExp t a b _ => (cTest (compE n c) 8 t).bind fun x => (compE n c a).bind fun y => (compE n c b).map fun z => .ite x y z
    | .Tuple es _ _ => (cEs (compE n c) es).map .tup
    | .List es _ => (cEs (compE n c) es).map .lst
    | .Subscript a s _ => cSub (compE n c) a s
    | .Call fn args kws pos => cCall c (compE n c) fn args kws pos
    | .ListComp elt gs scope _ => cComp c (compE n c) (compE n { c with sc := relS scope c.sc }) elt gs scope
    | _ => none

/-! ### what the code needs of the context -/
structure CxOk (X : Cx) (c : Cc) (Φ : Nat → List D → Option R) (Ψ : Nat → List D → Tp → Option (R × Tp)) : Prop where
  hN : X.N = c.N
  nd : c.N.Nodup
  sc : X.env.scope = c.sc
  kind : c.sc.kind = .function
  calm : X.calm = true
  xe : X.xe = fun _ _ => False
  hu : X.A.units + 80 < cLine
  con : ∀ x d, c.cs.lookup x = some d → ∃ v u, X.mg x = some u ∧ RelV v u ∧ ∀ H, Rp X.K H v d
  bl : ∀ x, c.bl.contains x = true → X.mg x = none
  fns : ∀ n x, c.fs[n]? = some x → ∃ k f fd ps, FnOk X.prog X.w X.K X.mg X.base CX0 k f fd ps (spP X.K (Φ n)) ∧ Room k X.A ∧ X.mg x = some (.ref f) ∧ PySem.W.keepIn X.K (.ref f) = true ∧ Binds X.K fd ps []
  fts : ∀ n x, c.ft[n]? = some x → (∀ ds τ r τ', Ψ n ds τ = some (r, τ') → τ'.cells = τ.cells) ∧ ∃ k f fd ps, FnOk X.prog X.w X.K X.mg X.base CX0 k f fd ps (spT X.K (Ψ n)) ∧ Room k X.A ∧ X.mg x = some (.ref f) ∧ PySem.W.keepIn X.K (.ref f) = true ∧ Binds X.K fd ps []
def nsB : Expr → Bool
  | .Starred _ _ => false
  | .Set _ _ _ => false
  | _ => true
theorem star_ns {e : Expr} {es : List Expr} {env : Env} (h : nsB e = true) : starEach (e :: es) env = (false, eval e env) :: starEach es env := by
  cases e <;> first | rfl | cases h
theorem star_any {pos : Pos} {env : Env} : ∀ {es : List Expr}, (∀ e ∈ es, nsB e = true) → (backTo pos (starEach es env)).any (·.1) = false
  | [], _ => rfl
  | e :: es, h => by
    rw [star_ns (h e List.mem_cons_self)]
    show ((false, _) :: backTo pos (starEach es env)).any (·.1) = false
    rw [List.any_cons, star_any fun e he => h e (List.mem_cons_of_mem _ he)]
    rfl
/-- what a code says of its expression -/
def EOk (X : Cx) (ta : Ta) (Φ : Nat → List D → Option R) (Ψ : Nat → List D → Tp → Option (R × Tp)) (e : Expr) (c : E) : Prop := PE X e (tE X.K ta Φ Ψ c) ∧ PT X e (tT X.K ta Φ Ψ c) ∧ nsB e = true
section
variable {X : Cx} {ta : Ta} {Φ : Nat → List D → Option R} {Ψ : Nat → List D → Tp → Option (R × Tp)} {c : Cc} {f g : Expr → Option E} {e a b : Expr} {es : List Expr} {code : E} {cs : List E} {pos : Pos}
theorem EOk.of (h : PE X e (tE X.K ta Φ Ψ code)) (hn : nsB e = true) (he : ∀ whole, isTrue e X.env whole = (do let v ← whole; standAt e.pos; holding [v] (truthy v))) : EOk X ta Φ Ψ e code := ⟨h, t_val h he, hn⟩
theorem cEs_ok (hf : ∀ e code, f e = some code → EOk X ta Φ Ψ e code) : ∀ {es : List Expr} {cs : List E}, cEs f es = some cs → PA X es (tAs X.K ta Φ Ψ cs) ∧ (∀ e ∈ es, nsB e = true) ∧ Paired (EOk X ta Φ Ψ) es cs
  | [], cs, h => by
    cases h
    exact ⟨as_nil, (fun _ h => by cases h), .nil⟩
  | e :: es, cs, h => by
    unfold cEs at h
    obtain ⟨x, h1, h⟩ := bind_some h
    obtain ⟨xs, h2, h⟩ := map_some h
    subst h
    have p := hf e x h1
    obtain ⟨q1, q2, q3⟩ := cEs_ok hf h2
    refine ⟨as_cons p.1 q1 (star_ns p.2.2), fun e' he' => ?_, .cons p q3⟩
    rcases List.mem_cons.mp he' with rfl | h
    · exact p.2.2
    · exact q2 e' h
theorem noneB_ok {b : Expr} (h : noneB b = true) : ∃ j p, b = .Constant .none j p := by
  cases b <;> simp only [noneB] at h <;> try cases h
  rename_i v k p
  cases v <;> simp only [noneB] at h <;> try cases h
  exact ⟨_, _, rfl⟩
theorem cCompare_ok (hu : X.A.units + 80 < cLine) (hf : ∀ e code, f e = some code → EOk X ta Φ Ψ e code) {ops : List CmpOp} {bs : List Expr} (h : cCompare f a ops bs = some code) :
    PE X (.Compare a ops bs pos) (tE X.K ta Φ Ψ code) ∧ PT X (.Compare a ops bs pos) (tT X.K ta Φ Ψ code) := by
  unfold cCompare at h
  split at h
  · rename_i op b
    split at h
    · split at h
      · rename_i hb
        obtain ⟨j, p, rfl⟩ := noneB_ok hb
        obtain ⟨x, h1, h⟩ := map_some h
        subst h
        exact ⟨e_isN (hf _ _ h1).1, t_isN (hf _ _ h1).1⟩
      · split at h
        · cases h
        · rename_i hm
          obtain ⟨x, h1, h⟩ := bind_some h
          obtain ⟨y, h2, h⟩ := map_some h
          subst h
          have hm' : behindInMarks .Is b = false := by simpa using hm
          exact ⟨e_isB (hf _ _ h1).1 (hf _ _ h2).1 hm', t_isB (hf _ _ h1).1 (hf _ _ h2).1 hm'⟩
    · split at h
      · rename_i hb
        obtain ⟨j, p, rfl⟩ := noneB_ok hb
        obtain ⟨x, h1, h⟩ := map_some h
        subst h
        exact ⟨e_notN (hf _ _ h1).1, t_notN (hf _ _ h1).1⟩
      · split at h
        · cases h
        · rename_i hm
          obtain ⟨x, h1, h⟩ := bind_some h
          obtain ⟨y, h2, h⟩ := map_some h
          subst h
          have hm' : behindInMarks .IsNot b = false := by simpa using hm
          exact ⟨e_notB (hf _ _ h1).1 (hf _ _ h2).1 hm', t_notB (hf _ _ h1).1 (hf _ _ h2).1 hm'⟩
    · split at h
      · cases h
      · rename_i hm
        obtain ⟨o, ho, h⟩ := bind_some h
        obtain ⟨x, h1, h⟩ := bind_some h
        obtain ⟨y, h2, h⟩ := map_some h
        subst h
        have eo := cCo_ok ho
        subst eo
        have hm' : behindInMarks (coO o) b = false := by simpa using hm
        exact ⟨e_cmp hu (hf _ _ h1).1 (hf _ _ h2).1 hm', t_cmp hu (hf _ _ h1).1 (hf _ _ h2).1 hm'⟩
  · rename_i o1 o2 b c
    split at h
    · cases h
    · rename_i hm
      obtain ⟨p, hp, h⟩ := bind_some h
      obtain ⟨q, hq, h⟩ := bind_some h
      obtain ⟨x, h1, h⟩ := bind_some h
      obtain ⟨y, h2, h⟩ := bind_some h
      obtain ⟨z, h3, h⟩ := map_some h
      subst h
      have e1 := cCo_ok hp
      have e2 := cCo_ok hq
      subst e1 e2
      have hm' : lastMarks [coO p, coO q] [b, c] = false := by simpa using hm
      exact ⟨e_chn hu (hf _ _ h1).1 (hf _ _ h2).1 (hf _ _ h3).1 hm', t_chn hu (hf _ _ h1).1 (hf _ _ h2).1 (hf _ _ h3).1 hm'⟩
  · rename_i o1 o2 o3 b c d
    split at h
    · cases h
    · rename_i hm
      obtain ⟨p, hp, h⟩ := bind_some h
      obtain ⟨q, hq, h⟩ := bind_some h
      obtain ⟨r, hr, h⟩ := bind_some h
      obtain ⟨x, h1, h⟩ := bind_some h
      obtain ⟨y, h2, h⟩ := bind_some h
      obtain ⟨z, h3, h⟩ := bind_some h
      obtain ⟨w, h4, h⟩ := map_some h
      subst h
      have e1 := cCo_ok hp
      have e2 := cCo_ok hq
      have e3 := cCo_ok hr
      subst e1 e2 e3
      have hm' : lastMarks [coO p, coO q, coO r] [b, c, d] = false := by simpa using hm
      exact ⟨e_ch3 hu (hf _ _ h1).1 (hf _ _ h2).1 (hf _ _ h3).1 (hf _ _ h4).1 hm', t_ch3 hu (hf _ _ h1).1 (hf _ _ h2).1 (hf _ _ h3).1 (hf _ _ h4).1 hm'⟩
  · cases h
theorem conL_ok : ∀ {es : List Expr} {cs : List E} {code : E}, Paired (EOk X ta Φ Ψ) es cs → conL cs = some code → PE X (.BoolOp .And es pos) (tE X.K ta Φ Ψ code) ∧ PW X (.BoolOp .And es pos) (tT X.K ta Φ Ψ code)
  | [], [], _, _, h => by cases h
  | [e], [c], code, .cons p .nil, h => by cases h; exact ⟨pe_one p.1, pw_and1 p.2.1⟩
  | e :: e2 :: es, c :: c2 :: cs, code, .cons p r, h => by
    unfold conL at h
    obtain ⟨x, h1, h⟩ := map_some h
    subst h
    obtain ⟨q1, q2⟩ := conL_ok r h1
    exact ⟨e_con p.1 q1, w_con p.2.1 q2⟩
theorem disL_ok : ∀ {es : List Expr} {cs : List E} {code : E}, Paired (EOk X ta Φ Ψ) es cs → disL cs = some code → PE X (.BoolOp .Or es pos) (tE X.K ta Φ Ψ code) ∧ PW X (.BoolOp .Or es pos) (tT X.K ta Φ Ψ code)
  | [], [], _, _, h => by cases h
  | [e], [c], code, .cons p .nil, h => by cases h; exact ⟨pe_one p.1, pw_or1 p.2.1⟩
  | e :: e2 :: es, c :: c2 :: cs, code, .cons p r, h => by
    unfold disL at h
    obtain ⟨x, h1, h⟩ := map_some h
    subst h
    obtain ⟨q1, q2⟩ := disL_ok r h1
    exact ⟨e_dis p.1 q1, w_dis p.2.1 q2⟩
theorem cBool_ok (hf : ∀ e code, f e = some code → EOk X ta Φ Ψ e code) {op : BoolOp} {vs : List Expr} (h : cBool f op vs = some code) : PE X (.BoolOp op vs pos) (tE X.K ta Φ Ψ code) ∧ PT X (.BoolOp op vs pos) (tT X.K ta Φ Ψ code) := by
  unfold cBool at h
  obtain ⟨cs, h1, h⟩ := bind_some h
  obtain ⟨_, _, q⟩ := cEs_ok hf h1
  cases op with
  | And => obtain ⟨a1, a2⟩ := conL_ok (pos := pos) q h; exact ⟨a1, a2.pt⟩
  | Or => obtain ⟨a1, a2⟩ := disL_ok (pos := pos) q h; exact ⟨a1, a2.pt⟩
theorem conLT_ok : ∀ {es : List Expr} {cs : List E} {code : E}, Paired (fun e c => PT X e (tT X.K ta Φ Ψ c)) es cs → conL cs = some code → PW X (.BoolOp .And es pos) (tT X.K ta Φ Ψ code)
  | [], [], _, _, h => by cases h
  | [e], [c], code, .cons p .nil, h => by cases h; exact pw_and1 p
  | e :: e2 :: es, c :: c2 :: cs, code, .cons p r, h => by
    unfold conL at h
    obtain ⟨x, h1, h⟩ := map_some h
    subst h
    exact w_con p (conLT_ok r h1)
theorem disLT_ok : ∀ {es : List Expr} {cs : List E} {code : E}, Paired (fun e c => PT X e (tT X.K ta Φ Ψ c)) es cs → disL cs = some code → PW X (.BoolOp .Or es pos) (tT X.K ta Φ Ψ code)
  | [], [], _, _, h => by cases h
  | [e], [c], code, .cons p .nil, h => by cases h; exact pw_or1 p
  | e :: e2 :: es, c :: c2 :: cs, code, .cons p r, h => by
    unfold disL at h
    obtain ⟨x, h1, h⟩ := map_some h
    subst h
    exact w_dis p (disLT_ok r h1)
theorem cEsT_ok {g : Expr → Option E} (hg : ∀ e code, g e = some code → PT X e (tT X.K ta Φ Ψ code)) : ∀ {es : List Expr} {cs : List E}, cEs g es = some cs → Paired (fun e c => PT X e (tT X.K ta Φ Ψ c)) es cs
  | [], _, h => by cases h; exact .nil
  | e :: es, _, h => by
    unfold cEs at h
    obtain ⟨x, h1, h⟩ := bind_some h
    obtain ⟨xs, h2, h⟩ := map_some h
    subst h
    exact .cons (hg _ _ h1) (cEsT_ok hg h2)
theorem cTest_ok (hf : ∀ e code, f e = some code → EOk X ta Φ Ψ e code) : ∀ (n : Nat) (e : Expr) (code : E), cTest f n e = some code → PT X e (tT X.K ta Φ Ψ code) := by
  intro n
  induction n with
  | zero => intro e code h; exact (hf _ _ h).2.1
  | succ n ih =>
    intro e code h
    unfold cTest at h
    split at h
    · rename_i op vs pos
      unfold cBool at h
      obtain ⟨cs, h1, h⟩ := bind_some h
      have q := cEsT_ok ih h1
      cases op with
      | And => exact (conLT_ok (pos := pos) q h).pt
      | Or => exact (disLT_ok (pos := pos) q h).pt
    · split at h
      · obtain ⟨x, hx, h⟩ := map_some h
        subst h
        exact t_inv (ih _ _ hx)
      · exact (hf _ _ h).2.1
    · split at h
      · rename_i hb
        obtain ⟨x, hx, h⟩ := map_some h
        subst h
        refine t_tru (hf _ _ hx).1 fun whole => ?_
        cases e <;> first | rfl | cases hb
      · exact (hf _ _ h).2.1
theorem isRev_ok {o : Option Expr} (h : isRev o = true) : ∃ k p1 p2, o = some (.UnaryOp .USub (.Constant (.int 1) k p1) p2) := by
  unfold isRev at h
  split at h
  · rename_i i k p1 p2
    have := of_decide_eq_true h
    subst this
    exact ⟨_, _, _, rfl⟩
  · cases h
theorem cSub_ok (hf : ∀ e code, f e = some code → EOk X ta Φ Ψ e code) {s : Expr} (h : cSub f a s = some code) : PE X (.Subscript a s pos) (tE X.K ta Φ Ψ code) := by
  unfold cSub at h
  split at h
  · split at h
    · split at h
      · obtain ⟨x, h1, h⟩ := map_some h
        subst h
        exact e_slcA (hf _ _ h1).1
      · obtain ⟨x, h1, h⟩ := bind_some h
        obtain ⟨y, h2, h⟩ := map_some h
        subst h
        exact e_slcL (hf _ _ h1).1 (hf _ _ h2).1
      · obtain ⟨x, h1, h⟩ := bind_some h
        obtain ⟨y, h2, h⟩ := map_some h
        subst h
        exact e_slcH (hf _ _ h1).1 (hf _ _ h2).1
      · obtain ⟨x, h1, h⟩ := bind_some h
        obtain ⟨y, h2, h⟩ := bind_some h
        obtain ⟨z, h3, h⟩ := map_some h
        subst h
        exact e_slc (hf _ _ h1).1 (hf _ _ h2).1 (hf _ _ h3).1
    · split at h
      · split at h
        · rename_i hr
          obtain ⟨k, p1, p2, e⟩ := isRev_ok hr
          subst e
          obtain ⟨x, h1, h⟩ := map_some h
          subst h
          exact e_rev (hf _ _ h1).1
        · cases h
      · cases h
  · rename_i hs
    obtain ⟨x, h1, h⟩ := bind_some h
    obtain ⟨y, h2, h⟩ := map_some h
    subst h
    refine e_idx (hf _ _ h1).1 (hf _ _ h2).1 ?_
    intro o i
    cases s <;> first | rfl | exact absurd rfl (hs _ _ _ _)
theorem cVar_ok (C : CxOk X c Φ Ψ) {x : Str} {i : Nat} (h : cVar c x = some i) : PE X (.Name x pos) (tVar i) := by
  unfold cVar at h
  split at h
  · rename_i hb
    rw [Bool.and_eq_true] at hb
    obtain ⟨q1, q2, q3⟩ := okName_ok hb.2
    exact pe_var (by rw [C.hN]; exact ixOf_get h) (by rw [C.sc]; exact visB_ok hb.1) q1 q2
  · cases h
theorem bl_ok {x : Str} {b : Bl} (h : blNames.lookup x = some b) : (bootBuiltins x = some (blV b) ∧ b ≠ .setlen ∧ b ≠ .bitlen) ∧ ((∃ id, blV b = .builtin id) ∨ ∃ id, blV b = .type id) := by
  have key : ∀ (l : List (Str × Bl)), (∀ p ∈ l, (bootBuiltins p.1 = some (blV p.2) ∧ p.2 ≠ .setlen ∧ p.2 ≠ .bitlen) ∧ ((∃ id, blV p.2 = .builtin id) ∨ ∃ id, blV p.2 = .type id)) → l.lookup x = some b →
      (bootBuiltins x = some (blV b) ∧ b ≠ .setlen ∧ b ≠ .bitlen) ∧ ((∃ id, blV b = .builtin id) ∨ ∃ id, blV b = .type id) := by
    intro l
    induction l with
    | nil => intro _ h; cases h
    | cons p r ih =>
      intro hp h
      rw [List.lookup_cons] at h
      cases hb : x == p.1 with
      | true =>
        rw [hb] at h
        cases h
        have e : x = p.1 := by simpa using hb
        rw [e]
        exact hp p List.mem_cons_self
      | false =>
        rw [hb] at h
        exact ih (fun q hq => hp q (List.mem_cons_of_mem _ hq)) h
  refine key blNames ?_ h
  intro p hp
  unfold blNames at hp
  simp only [List.mem_cons, List.not_mem_nil, or_false] at hp
  rcases hp with rfl | rfl | rfl | rfl | rfl | rfl | rfl | rfl | rfl | rfl | rfl
  · exact ⟨⟨boot_len, by decide, by decide⟩, .inl ⟨_, rfl⟩⟩
  · exact ⟨⟨boot_abs, by decide, by decide⟩, .inl ⟨_, rfl⟩⟩
  · exact ⟨⟨boot_min, by decide, by decide⟩, .inl ⟨_, rfl⟩⟩
  · exact ⟨⟨boot_max, by decide, by decide⟩, .inl ⟨_, rfl⟩⟩
  · exact ⟨⟨PyProof.Rows.boot_int, by decide, by decide⟩, .inr ⟨_, rfl⟩⟩
  · exact ⟨⟨PyProof.Rows.boot_tuple, by decide, by decide⟩, .inr ⟨_, rfl⟩⟩
  · exact ⟨⟨PyProof.Rows.boot_list, by decide, by decide⟩, .inr ⟨_, rfl⟩⟩
  · exact ⟨⟨boot_sum, by decide, by decide⟩, .inl ⟨_, rfl⟩⟩
  · exact ⟨⟨boot_any, by decide, by decide⟩, .inl ⟨_, rfl⟩⟩
  · exact ⟨⟨boot_all, by decide, by decide⟩, .inl ⟨_, rfl⟩⟩
  · exact ⟨⟨PyProof.Rows.boot_sorted, by decide, by decide⟩, .inl ⟨_, rfl⟩⟩
theorem cCall_ok (C : CxOk X c Φ Ψ) (hf : ∀ e code, f e = some code → EOk X ta Φ Ψ e code) {fn : Expr} {args : List Expr} {kws : List Keyword} (h : cCall c f fn args kws pos = some code) : PE X (.Call fn args kws pos) (tE X.K ta Φ Ψ code) := by
  unfold cCall at h
  split at h
  · rename_i x p e es
    split at h
    · rename_i hb
      rw [Bool.and_eq_true] at hb
      obtain ⟨q1, q2, q3⟩ := okName_ok hb.2
      have hg : Gl X x := glB_ok (by rw [C.sc]; exact hb.1)
      split at h
      · rename_i k hk
        obtain ⟨cs, h1, h⟩ := map_some h
        subst h
        obtain ⟨a1, a2, _⟩ := cEs_ok hf h1
        obtain ⟨kk, fa, fd, ps, F, hr, hm, hkp, hbd⟩ := C.fns k x (ixOf_get hk)
        exact e_call F hr hg hm hkp hbd a1 q1 (star_ns (a2 e List.mem_cons_self)) (star_any fun e' he' => a2 e' (List.mem_cons_of_mem _ he'))
      · split at h
        · rename_i k hk
          split at h
          · rename_i d dp
            obtain ⟨i, hi, h⟩ := bind_some h
            obtain ⟨cs, h1, h⟩ := map_some h
            subst h
            obtain ⟨a1, a2, _⟩ := cEs_ok hf h1
            obtain ⟨hΨ, kk, fa, fd, ps, F, hr, hm, hkp, hbd⟩ := C.fts k x (ixOf_get hk)
            exact e_callT F hr hg hm hkp hbd hΨ (cVar_ok C hi) a1 q1 (star_ns rfl) (star_any a2)
          · cases h
        · split at h
          · rename_i hbl
            have hm := C.bl x hbl
            split at h
            · rename_i a hset
              split at h
              · rename_i hx
                obtain ⟨y, hy, h⟩ := map_some h
                subst h hx
                unfold setB at hset
                split at hset
                · rename_i y0 py a0 q0 heq
                  split at hset
                  · rename_i hb0
                    cases hset
                    obtain ⟨e1, e2, e3⟩ := hb0
                    subst e1
                    cases heq
                    obtain ⟨p1, _, n1⟩ := hf _ _ hy
                    exact e_setlen hg hm (glB_ok (by rw [C.sc]; exact e2)) (C.bl _ e3) p1 C.calm (star_ns n1)
                  · cases hset
                · cases hset
              · cases h
            obtain ⟨b, hb1, h⟩ := bind_some h
            obtain ⟨cs, h1, h⟩ := map_some h
            subst h
            obtain ⟨a1, a2, _⟩ := cEs_ok hf h1
            obtain ⟨⟨b1, b2, b3⟩, b4⟩ := bl_ok hb1
            rcases b4 with ⟨id, b4⟩ | ⟨id, b4⟩
            · exact e_blB b4 C.calm C.hu b2 b3 hg hm (by rw [b1, b4]) a1 q3 q1 (star_ns (a2 e List.mem_cons_self)) (star_any fun e' he' => a2 e' (List.mem_cons_of_mem _ he'))
            · exact e_blT b4 C.calm C.hu b2 b3 hg hm (by rw [b1, b4]) a1 q3 q1 (star_ns (a2 e List.mem_cons_self)) (star_any fun e' he' => a2 e' (List.mem_cons_of_mem _ he'))
          · cases h
    · cases h
  · split at h
    · rename_i hb
      obtain ⟨x, h1, h⟩ := map_some h
      subst h
      have e1 := hb.1
      subst e1
      exact e_bits (hf _ _ h1).1 rfl hb.2
    · cases h
  · cases h
end
end Ev

/-! ## Ev10 -/
namespace Ev
open PySem PySem.Spec PyProof.Rows L2

section
variable {X : Cx} {ta : Ta} {Φ : Nat → List D → Option R} {Ψ : Nat → List D → Tp → Option (R × Tp)} {c : Cc} {f g : Expr → Option E} {e a b : Expr} {es : List Expr} {code : E} {cs : List E} {pos : Pos}
/-- names that may be stored -/
def StoOk (X : Cx) (x : Str) : Prop := Loc X.env.scope x ∧ (X.fn x = true ∨ X.env.scope.names.lookup x = some .local)
theorem cTgs_ok (hN : X.N = c.N) (nd : c.N.Nodup) : ∀ {es : List Expr} {xs : List (Str × Nat)}, cTgs c es = some xs → (∀ p ∈ xs, StoOk X p.1) → PGs X es (gNms (xs.map (·.2))) ∧ (assignEach es X.env).length = xs.length ∧ (assignEach es X.env).findIdx? (·.1) = none ∧ ∀ p ∈ xs, c.N[p.2]? = some p.1
  | [], xs, h, _ => by
    cases h
    exact ⟨pgs_nil, rfl, rfl, (fun _ h => by cases h)⟩
  | e :: es, xs, h, hs => by
    cases e <;> simp only [cTgs] at h <;> try cases h
    rename_i x p
    split at h
    · obtain ⟨i, hi, h⟩ := bind_some h
      obtain ⟨ys, h2, h⟩ := map_some h
      subst h
      obtain ⟨q1, q2, q3, q4⟩ := cTgs_ok hN nd h2 fun p hp => hs p (List.mem_cons_of_mem _ hp)
      obtain ⟨s1, s2⟩ := hs (x, i) List.mem_cons_self
      refine ⟨pgs_cons (pg_name (by rw [hN]; exact nd) (by rw [hN]; exact ixOf_get hi) s1 s2) q1 rfl, ?_, ?_, fun p hp => ?_⟩
      · show (assignEach es X.env).length + 1 = ys.length + 1
        rw [q2]
      · show List.findIdx? _ ((false, _) :: assignEach es X.env) = none
        rw [List.findIdx?_cons, q3]
        rfl
      · rcases List.mem_cons.mp hp with rfl | hp
        · exact ixOf_get hi
        · exact q4 p hp
    · cases h
theorem cTg_ok (hN : X.N = c.N) (nd : c.N.Nodup) (hc : X.calm = true) {tg : Expr} {t : Tg × List (Str × Nat)} (h : cTg c tg = some t) (hs : ∀ p ∈ t.2, StoOk X p.1) : PG X tg (gT X.K t.1) := by
  unfold cTg at h
  split at h
  · split at h
    · obtain ⟨i, hi, h⟩ := map_some h
      subst h
      obtain ⟨s1, s2⟩ := hs (_, i) List.mem_cons_self
      exact pg_name (by rw [hN]; exact nd) (by rw [hN]; exact ixOf_get hi) s1 s2
    · cases h
  · obtain ⟨xs, h1, h⟩ := map_some h
    subst h
    obtain ⟨q1, q2, q3, _⟩ := cTgs_ok hN nd h1 hs
    exact pg_tup hc q1 (by rw [q2, List.length_map]) q3
  · cases h
theorem cTg_vs {tg : Expr} {t : Tg × List (Str × Nat)} (h : cTg c tg = some t) : t.2.map (·.2) = tgVs t.1 := by
  unfold cTg at h
  split at h
  · split at h
    · obtain ⟨i, hi, h⟩ := map_some h
      subst h
      rfl
    · cases h
  · obtain ⟨xs, h1, h⟩ := map_some h
    subst h
    rfl
  · cases h
theorem cIt_ok (C : CxOk X c Φ Ψ) (hf : ∀ e code, f e = some code → EOk X ta Φ Ψ e code) {tg : Expr} {it : Nat × List E} (h : cIt c f tg e = some it) : PI X tg e (tIt X.K ta Φ Ψ it.1 it.2) ∧ ∀ x, foldedSetIterable e X.env x = pure x := by
  have seq : ∀ {e : Expr} {it : Nat × List E}, (f e).map (fun y => (0, [y])) = some it → PI X tg e (tIt X.K ta Φ Ψ it.1 it.2) ∧ ∀ x, foldedSetIterable e X.env x = pure x := fun {e it} h => by
    obtain ⟨y, h1, h⟩ := map_some h
    subst h
    obtain ⟨p, _, n⟩ := hf _ _ h1
    refine ⟨i_seq p, fun x => ?_⟩
    cases e <;> first | rfl | cases n
  unfold cIt at h
  split at h
  · rename_i x p a pos
    split at h
    · rename_i hb
      obtain ⟨y, h1, h⟩ := map_some h
      subst h
      have e1 := hb.1
      subst e1
      obtain ⟨p1, _, n1⟩ := hf _ _ h1
      exact ⟨i_rng1 (glB_ok (by rw [C.sc]; exact hb.2.1)) (C.bl _ hb.2.2) (as_cons p1 as_nil (star_ns n1)) (by rw [star_ns n1]; rfl), fun x => rfl⟩
    · split at h
      · rename_i hb
        split at h
        · obtain ⟨y, h1, h⟩ := map_some h
          subst h
          have e1 := hb.1
          subst e1
          obtain ⟨p1, _, n1⟩ := hf _ _ h1
          exact ⟨i_enum (glB_ok (by rw [C.sc]; exact hb.2.1)) (C.bl _ hb.2.2) (as_cons p1 as_nil (star_ns n1)) (by rw [star_ns n1]; rfl), fun x => rfl⟩
        · cases h
      · exact seq h
  · rename_i x p a b pos
    split at h
    · rename_i hb
      obtain ⟨y, h1, h⟩ := bind_some h
      obtain ⟨z, h2, h⟩ := map_some h
      subst h
      have e1 := hb.1
      subst e1
      obtain ⟨p1, _, n1⟩ := hf _ _ h1
      obtain ⟨p2, _, n2⟩ := hf _ _ h2
      exact ⟨i_rng2 (glB_ok (by rw [C.sc]; exact hb.2.1)) (C.bl _ hb.2.2) (as_cons p1 (as_cons p2 as_nil (star_ns n2)) (star_ns n1)) (by rw [star_ns n1, star_ns n2]; rfl) (by rw [star_ns n2]; rfl), fun x => rfl⟩
    · exact seq h
  · rename_i x p a b d pos
    split at h
    · rename_i hb
      obtain ⟨y, h1, h⟩ := bind_some h
      obtain ⟨z, h2, h⟩ := bind_some h
      obtain ⟨w, h3, h⟩ := map_some h
      subst h
      have e1 := hb.1
      subst e1
      obtain ⟨p1, _, n1⟩ := hf _ _ h1
      obtain ⟨p2, _, n2⟩ := hf _ _ h2
      obtain ⟨p3, _, n3⟩ := hf _ _ h3
      exact ⟨i_rng3 (glB_ok (by rw [C.sc]; exact hb.2.1)) (C.bl _ hb.2.2) (as_cons p1 (as_cons p2 (as_cons p3 as_nil (star_ns n3)) (star_ns n2)) (star_ns n1)) (star_ns n1) (star_any fun e he => by
        rcases List.mem_cons.mp he with rfl | he
        · exact n2
        · rcases List.mem_cons.mp he with rfl | he
          · exact n3
          · cases he), fun x => rfl⟩
    · exact seq h
  · exact seq h
theorem CxOk.blk (C : CxOk X c Φ Ψ) {scope : Scope} (hk : scope.kind = .function) (s : Shared) (H : Hp) (A : Addr) (cl : List (Str × Addr)) (fp : List Addr) : CxOk (X.blk s H scope (compEnvC scope cl A X.env) fp) { c with sc := relS scope c.sc } Φ Ψ where
  hN := C.hN
  nd := C.nd
  sc := by rw [← C.sc]; rfl
  kind := hk
  calm := C.calm
  xe := rfl
  hu := C.hu
  con := C.con
  bl := C.bl
  fns := C.fns
  fts := C.fts
theorem stoBlk {scope : Scope} {x : Str} (h : locB scope x = true) (s : Shared) (H : Hp) (A : Addr) (cl : List (Str × Addr)) (fp : List Addr) : StoOk (X.blk s H scope (compEnvC scope cl A X.env) fp) x := by
  rcases locB_ok h with q | q
  · have := lookup_relS_keep (sc := X.env.scope) (by decide) q
    exact ⟨.inl this, .inr this⟩
  · have := lookup_relS_keep (sc := X.env.scope) (by decide) q
    refine ⟨.inr this, .inl ?_⟩
    show (scope.names.lookup x == some .cell) = true
    rw [q]
    rfl
/-- a comprehension: as a value, and what its list comes to in a name's slot -/
theorem cComp_parts (C : CxOk X c Φ Ψ) (hf : ∀ e code, f e = some code → EOk X ta Φ Ψ e code) {scope : Scope} (hg : ∀ (X' : Cx), X'.K = X.K → CxOk X' { c with sc := relS scope c.sc } Φ Ψ → ∀ e code, g e = some code → EOk X' ta Φ Ψ e code) {elt : Expr} {gs : List Comprehension} (h : cComp c f g elt gs scope = some code) :
    ∃ tg iter ifs wi gg tt te own, gs = [⟨tg, iter, ifs, 0⟩] ∧ PI X tg iter wi ∧ BlkOk X.N X.env.scope scope own ∧ (∀ (s : Shared) (H : Hp) (A : Addr) (cl : List (Str × Addr)) (fp : List Addr), PG (X.blk s H scope (compEnvC scope cl A X.env) fp) tg gg) ∧
      (∀ (s : Shared) (H : Hp) (A : Addr) (cl : List (Str × Addr)) (fp : List Addr), PTs (X.blk s H scope (compEnvC scope cl A X.env) fp) ifs tt) ∧ (∀ (s : Shared) (H : Hp) (A : Addr) (cl : List (Str × Addr)) (fp : List Addr), PE (X.blk s H scope (compEnvC scope cl A X.env) fp) elt te) ∧
      (∀ x, foldedSetIterable iter X.env x = pure x) ∧ (∀ σ H Q, tE X.K ta Φ Ψ code σ H Q → tLc wi gg tt te (own.map (·.2)) σ H Q) := by
  unfold cComp at h
  split at h
  · rename_i tg iter ifs z
    split at h
    · rename_i hz
      obtain ⟨hz, hl⟩ := hz
      subst hz
      obtain ⟨t, ht, h⟩ := bind_some h
      split at h
      · rename_i hb
        rw [Bool.and_eq_true] at hb
        obtain ⟨it, hi, h⟩ := bind_some h
        obtain ⟨cs, hcs, h⟩ := bind_some h
        obtain ⟨x, hx, h⟩ := map_some h
        subst h
        obtain ⟨p1, p2⟩ := cIt_ok (tg := tg) C hf hi
        have bk : BlkOk X.N X.env.scope scope t.2 := by rw [C.hN, C.sc]; exact blkOk_by hb.1
        have CB := C.blk bk.kind
        refine ⟨tg, iter, ifs, _, gT X.K t.1, tAll X.K ta Φ Ψ cs, tU X.K ta Φ Ψ x, t.2, rfl, p1, bk, fun s H A cl fp => ?_, fun s H A cl fp => ?_, fun s H A cl fp => ?_, p2, fun σ H Q ⟨S, ρ, τ, r, τ', hR, hT, he, hQ⟩ => ?_⟩
        · exact cTg_ok (c := c) (X := X.blk s H scope (compEnvC scope cl A X.env) fp) C.hN C.nd C.calm ht fun p hp => stoBlk (List.all_eq_true.mp hb.2 p hp) s H A cl fp
        · cases ifs with
          | nil => cases hcs; exact c_nil
          | cons e r => cases r with
            | cons _ _ => simp at hl
            | nil =>
              unfold cEs at hcs
              obtain ⟨y, hy, hcs⟩ := bind_some hcs
              obtain ⟨ys, hys, hcs⟩ := map_some hcs
              cases hys
              subst hcs
              exact c_one (hg (X.blk s H scope (compEnvC scope cl A X.env) fp) rfl (CB s H A cl fp) _ _ hy).2.1
        · exact (hg (X.blk s H scope (compEnvC scope cl A X.env) fp) rfl (CB s H A cl fp) _ _ hx).1.use
        · rw [cTg_vs ht]
          exact comp_data hR hT he hQ
      · cases h
    · cases h
  · cases h
theorem cComp_ok (C : CxOk X c Φ Ψ) (hf : ∀ e code, f e = some code → EOk X ta Φ Ψ e code) {scope : Scope} (hg : ∀ (X' : Cx), X'.K = X.K → CxOk X' { c with sc := relS scope c.sc } Φ Ψ → ∀ e code, g e = some code → EOk X' ta Φ Ψ e code) {elt : Expr} {gs : List Comprehension} (h : cComp c f g elt gs scope = some code) :
    PE X (.ListComp elt gs scope pos) (tE X.K ta Φ Ψ code) := by
  obtain ⟨tg, iter, ifs, wi, gg, tt, te, own, rfl, h1, h2, h3, h4, h5, h6, h7⟩ := cComp_parts C hf hg h
  exact PE.weak (pe_lc C.calm (by rw [C.hN]; exact C.nd) h1 h2 h3 h4 h5 h6) h7
theorem t_ite {t : Expr} {ct ca cb : E} (ht : PT X t (tT X.K ta Φ Ψ ct)) (ha : PT X a (tT X.K ta Φ Ψ ca)) (hb : PT X b (tT X.K ta Φ Ψ cb)) : PT X (.IfExp t a b pos) (tT X.K ta Φ Ψ (.ite ct ca cb)) := by
  refine ⟨fun pins s σ H Q I ⟨S, ρ, τ, r, τ', k, hR, hT, he, hr, hQ⟩ => ?_⟩
  simp only [ev] at he
  obtain ⟨x, hx, he⟩ := bind_some he
  show wpAny _ _ (isTrue (.IfExp t a b pos) X.env _) _ _ _
  have e0 : ∀ w, isTrue (.IfExp t a b pos) X.env w = (isTrue t X.env (eval t X.env) >>= fun q => if q = true then isTrue a X.env (eval a X.env) else isTrue b X.env (eval b X.env)) := fun w => rfl
  rw [e0]
  split at he
  · rename_i q
    refine wpAny_bind (thn (ht.run pins s σ H (fun j H1 => j = true ∧ tT X.K ta Φ Ψ ca σ H1 Q) I ⟨S, ρ, τ, x.1, x.2, true, hR, hT, hx, q, fun S1 H1 st => ⟨rfl, S1, ρ, x.2, r, τ', k, hR.step st, st.tape, he, hr, fun S' H' st' => hQ S' H' (st.trans st')⟩⟩) fun j s1 ⟨H1, I1, e1, q1⟩ => ?_)
    subst e1
    rw [if_pos rfl]
    exact ha.run pins s1 σ H1 Q I1 q1
  · rename_i q
    refine wpAny_bind (thn (ht.run pins s σ H (fun j H1 => j = false ∧ tT X.K ta Φ Ψ cb σ H1 Q) I ⟨S, ρ, τ, x.1, x.2, false, hR, hT, hx, q, fun S1 H1 st => ⟨rfl, S1, ρ, x.2, r, τ', k, hR.step st, st.tape, he, hr, fun S' H' st' => hQ S' H' (st.trans st')⟩⟩) fun j s1 ⟨H1, I1, e1, q1⟩ => ?_)
    subst e1
    rw [if_neg Bool.false_ne_true]
    exact hb.run pins s1 σ H1 Q I1 q1
  · cases he
end
theorem compE_ok {ta : Ta} {Φ : Nat → List D → Option R} {Ψ : Nat → List D → Tp → Option (R × Tp)} : ∀ (n : Nat) (c : Cc) (X : Cx), CxOk X c Φ Ψ → ∀ (e : Expr) (code : E), compE n c e = some code → EOk X ta Φ Ψ e code := by
  intro n
  induction n with
  | zero => intro c X C e code h; cases h
  | succ n ih =>
    intro c X C e code h
    have hf := ih c X C
    unfold compE at h
    split at h
    · split at h <;> first | cases h | skip
      · exact .of (e_const pe_int fun _ => rfl) rfl (by intro _; rfl)
      · exact .of (e_const pe_bl fun _ => rfl) rfl (by intro _; rfl)
      · exact .of (e_const pe_non fun _ => rfl) rfl (by intro _; rfl)
      · exact .of (e_const pe_str fun _ => rfl) rfl (by intro _; rfl)
    · split at h
      · rename_i i hi
        cases h
        exact .of (e_var (cVar_ok C hi)) rfl (by intro _; rfl)
      · split at h
        · rename_i hb
          obtain ⟨d, hd, h⟩ := map_some h
          subst h
          rw [Bool.and_eq_true] at hb
          obtain ⟨v, u, h1, h2, h3⟩ := C.con _ _ hd
          obtain ⟨q1, q2, q3⟩ := okName_ok hb.2
          exact .of (e_const (pe_glob (glB_ok (by rw [C.sc]; exact hb.1)) h1 h2 q1) h3) rfl (by intro _; rfl)
        · cases h
    · obtain ⟨o, ho, h⟩ := bind_some h
      obtain ⟨x, hx, h⟩ := bind_some h
      obtain ⟨y, hy, h⟩ := map_some h
      subst h
      have eo := cOp_ok ho
      subst eo
      exact .of (e_bin (hf _ _ hx).1 (hf _ _ hy).1) rfl (by intro _; rfl)
    · split at h
      · obtain ⟨x, hx, h⟩ := map_some h
        subst h
        exact .of (e_neg (hf _ _ hx).1) rfl (by intro _; rfl)
      · obtain ⟨x, hx, h⟩ := map_some h
        subst h
        exact ⟨e_inv (hf _ _ hx).1, t_inv (hf _ _ hx).2.1, rfl⟩
      · cases h
    · obtain ⟨p, q⟩ := cCompare_ok C.hu hf h
      exact ⟨p, q, rfl⟩
    · obtain ⟨p, q⟩ := cBool_ok hf h
      exact ⟨p, q, rfl⟩
    · obtain ⟨x, hx, h⟩ := bind_some h
      obtain ⟨y, hy, h⟩ := bind_some h
      obtain ⟨z, hz, h⟩ := map_some h
      subst h
      exact ⟨e_ite (cTest_ok hf _ _ _ hx) (hf _ _ hy).1 (hf _ _ hz).1, t_ite (cTest_ok hf _ _ _ hx) (hf _ _ hy).2.1 (hf _ _ hz).2.1, rfl⟩
    · obtain ⟨cs, h1, h⟩ := map_some h
      subst h
      exact .of (e_tup (cEs_ok hf h1).1) rfl (by intro _; rfl)
    · obtain ⟨cs, h1, h⟩ := map_some h
      subst h
      exact .of (e_lst (cEs_ok hf h1).1) rfl (by intro _; rfl)
    · exact .of (cSub_ok hf h) rfl (by intro _; rfl)
    · exact .of (cCall_ok C hf h) rfl (by intro _; rfl)
    · exact .of (cComp_ok C hf (fun X' eK C' => ih _ X' C') h) rfl (by intro _; rfl)
    · cases h
end Ev

/-! ## Ev11 -/
namespace Ev
open PySem PySem.Spec PyProof.Rows L2

/-! ### statements -/
def starB : Expr → Bool
  | .Starred _ _ => true
  | _ => false
/-- what the swapped stores of a = b come to -/
def swK (sc : Scope) (ts : List Expr) (v : Expr) : Option (Option (List Str)) := match v with
  | .Tuple vs _ _ =>
    if (!(ts.length == 2 || ts.length == 3) || vs.length != ts.length) = true then some none
    else if vs.any starB = true then some none
    else
      let line := (ts.head?.map (·.pos.line)).getD 0
      let names := ts.filterMap fun
        | .Name id pos => if (sc.names.lookup id == some .local && pos.line == line) = true then some id else none
        | _ => none
      if (names.length != ts.length || names.eraseDups.length != names.length) = true then some none
      else if vs.all (foldedForSure 8) = true then some none
      else if vs.all (constantsAlone 8) = true then none
      else some (some names)
  | _ => some none
theorem swK_ok {sc : Scope} {ts : List Expr} {v : Expr} {env : Env} {k : Nat} {p : Pos} {r : Option (List Str)} (hs : env.scope = sc) (hk : sc.kind = .function) (h : swK sc ts v = some r) : swappedStores [.Tuple ts k p] v env = pure r := by
  have hb : env.blockKind = .function := by unfold Env.blockKind; rw [hs, hk]; rfl
  unfold swappedStores
  cases v <;> first
    | (simp only [swK] at h; cases h; rfl)
    | skip
  rename_i vs k2 p2
  simp only [swK] at h
  have hkind : ∀ x, env.kindOf x = sc.names.lookup x := fun x => by rw [← hs]; rfl
  simp only [hb, hkind, bne_self_eq_false, Bool.or_false]
  split at h
  · rename_i h1
    cases h
    exact if_pos h1
  · rename_i h1
    refine (if_neg h1).trans ?_
    split at h
    · rename_i h2
      cases h
      exact if_pos h2
    · rename_i h2
      refine (if_neg h2).trans ?_
      split at h
      · rename_i h3
        cases h
        exact if_pos h3
      · rename_i h3
        refine (if_neg h3).trans ?_
        split at h
        · rename_i h4
          cases h
          exact if_pos h4
        · rename_i h4
          refine (if_neg h4).trans ?_
          split at h
          · cases h
          · rename_i h5
            cases h
            refine (if_neg h5).trans ?_
            rfl
end Ev

/-! ## Ev12 -/
namespace Ev
open PySem PySem.Spec PyProof.Rows L2

def isLocal (sc : Scope) (x : Str) : Bool := decide (sc.names.lookup x = some .local)
def ownB (scope : Scope) (x : Str) : Bool := scope.names.any fun (n, k) => n == x && (k == .local || k == .cell)
/-- name = value -/
def cSet (c : Cc) (f g : Nat → Option E) (x : Str) (px : Pos) (v : Expr) (line : Nat) : Option S := none
def compB (v : Expr) : Bool := match v with
  | .ListComp _ _ _ _ => true
  | .SetComp _ _ _ _ => true
  | .DictComp _ _ _ _ _ => true
  | _ => false
def stoN (c : Cc) (x : Str) : Option Nat := if locB c.sc x && okName x then ixOf c.N x else none
def stoAll (c : Cc) (xs : List (Str × Nat)) : Bool := xs.all fun p => locB c.sc p.1
def methB (e : Expr) : Option (Str × Pos × Str × Pos × List Expr × Pos) := match e with
  | .Call (.Attribute (.Name x p) m ap) args [] cp => some (x, p, m, ap, args, cp)
  | _ => none
/-- x.pop(), x a list of one's own -/
def popB (c : Cc) (v : Expr) : Option Nat := match methB v with
  | some (x, _, m, ap, [], cp) => if m = sPop ∧ (ap.endLine == cp.line) = true then cVar c x else none
  | _ => none
def cAsg (n : Nat) (c : Cc) (tg v : Expr) : Option S := match tg with
  | .Name x px => (stoN c x).bind fun i => match popB c v with
   | some j => some (.popt (.nm i) j)
   | none => match v with
    | .Name y yp => match cVar c y with
      | some j => some (.mov i j)
      | none => (compE n c (.Name y yp)).map fun y => .set (.nm i) y
    | .ListComp elt gs scope lp =>
      if isLocal c.sc x && (px.line == lp.line) && !ownB scope x then (cComp c (compE n c) (compE n { c with sc := relS scope c.sc }) elt gs scope).map fun y => .set (.nm i) y
      else if isLocal c.sc x then none else (compE n c v).map fun y => .set (.nm i) y
    | v => if compB v then none else (compE n c v).map fun y => .set (.nm i) y
  | .Tuple ts k p => match swK c.sc ts v with
    | some none => (cTg c (.Tuple ts k p)).bind fun t => if stoAll c t.2 then (match popB c v with
      | some j => some (.popt t.1 j)
      | none => (compE n c v).map fun y => .set t.1 y) else none
    | some (some names) => match ts, v with
      | [.Name x px, .Name y py], .Tuple [a, b] _ _ => if names = [x, y] ∧ x ≠ y ∧ isLocal c.sc x = true ∧ isLocal c.sc y = true then
          (stoN c x).bind fun i => (stoN c y).bind fun j => (compE n c a).bind fun ca => (compE n c b).map fun cb => .par2 i j ca cb else none
      | [.Name x px, .Name y py, .Name z pz], .Tuple [a, b, d] _ _ => if names = [x, y, z] ∧ (x ≠ y ∧ x ≠ z ∧ y ≠ z) ∧ isLocal c.sc x = true ∧ isLocal c.sc y = true ∧ isLocal c.sc z = true then
          (stoN c x).bind fun i => (stoN c y).bind fun j => (stoN c z).bind fun l => (compE n c a).bind fun ca => (compE n c b).bind fun cb => (compE n c d).map fun cd => .par3 i j l ca cb cd else none
      | _, _ => none
    | none => none
  | .Subscript (.Name x px) ix sp => (cVar c x).bind fun i => match ix with
    | .Slice _ _ _ _ => none
    | ix => (compE n c v).bind fun y => (compE n c ix).map fun z => .sti i z y
  | _ => none
def cMeth (n : Nat) (c : Cc) (x : Str) (m : Str) (ap cp : Pos) (args : List Expr) : Option S := if (ap.endLine == cp.line) = true then (cVar c x).bind fun i => match args with
    | [e] => if m = sAppend then (compE n c e).map fun y => .app i y else if m = sExtend then (compE n c e).map fun y => .ext i y else none
    | [] => if m = sPop then some (.pop i) else none
    | _ => none
  else none
mutual
def compS : Nat → Cc → Stmt → Option S
  | 0, _, _ => none
  | n + 1, c, st => match st with
    | .Assign ts v _ => match ts with
      | [tg] => cAsg n c tg v
      | _ => none
    | .AugAssign t op e _ => match t with
      | .Name x _ => (stoN c x).bind fun i => (cOp op).bind fun o => (compE n c e).map fun y => .aug i o y
      | _ => none
    | .Expr e _ => match methB e with
      | some q => cMeth n c q.1 q.2.2.1 q.2.2.2.1 q.2.2.2.2.2 q.2.2.2.2.1
      | none => if compB e then none else (compE n c e).map .exp
    | .Return v _ => match v with
      | none => some .retn
      | some e => match e with
        | .Name x _ => match cVar c x with
          | some i => some (.retv i)
          | none => (compE n c e).map .ret
        | e => (compE n c e).map .ret
    | .If t a b _ => (cTest (compE n c) 8 t).bind fun x => (compSs n c a).bind fun y => (compSs n c b).map fun z => .ite x y z
    | .While t b els _ => match els with
      | [] => (cTest (compE n c) 8 t).bind fun x => (compSs n c b).map fun y => .whl x y
      | _ => none
    | .For tg it b els _ => match els with
      | [] => (cTg c tg).bind fun t => if stoAll c t.2 then (compSs n c b).bind fun y => match it with
        | .Name x _ => match cVar c x with
          | some i => some (.forv t.1 i y)
          | none => (cIt c (compE n c) tg it).map fun z => .for_ t.1 z.1 z.2 y
        | it => (cIt c (compE n c) tg it).map fun z => .for_ t.1 z.1 z.2 y
        else none
      | _ => none
    | .Pass _ => some .pas
    | .Break _ => some .brk
    | .Continue _ => some .cnt
    | .Raise _ _ _ => some .nev
    | _ => none
def compSs : Nat → Cc → List Stmt → Option (List S)
  | 0, _, _ => none
  | n + 1, c, sts => match sts with
    | [] => some []
    | st :: r => (compS n c st).bind fun x => (compSs n c r).map fun xs => x :: xs
end
section
variable {X : Cx} {ta : Ta} {Φ : Nat → List D → Option R} {Ψ : Nat → List D → Tp → Option (R × Tp)} {c : Cc} {M n : Nat} {e a b tg v : Expr} {pos : Pos}
theorem stoN_ok (C : CxOk X c Φ Ψ) (hf : ∀ x, X.fn x = true) {x : Str} {i : Nat} (h : stoN c x = some i) : X.N[i]? = some x ∧ StoOk X x := by
  unfold stoN at h
  split at h
  · rename_i hb
    rw [Bool.and_eq_true] at hb
    exact ⟨by rw [C.hN]; exact ixOf_get h, by rw [← C.sc] at hb; exact locB_ok hb.1, .inl (hf x)⟩
  · cases h
theorem nd_of (C : CxOk X c Φ Ψ) : X.N.Nodup := by rw [C.hN]; exact C.nd
theorem stoAll_ok (C : CxOk X c Φ Ψ) (hf : ∀ x, X.fn x = true) {xs : List (Str × Nat)} (h : stoAll c xs = true) : ∀ p ∈ xs, StoOk X p.1 := fun p hp => ⟨by have := List.all_eq_true.mp h p hp; rw [← C.sc] at this; exact locB_ok this, .inl (hf _)⟩
theorem isLocal_ok (C : CxOk X c Φ Ψ) {x : Str} (h : isLocal c.sc x = true) : X.env.scope.names.lookup x = some .local := by rw [C.sc]; exact of_decide_eq_true h
theorem ix_ne {N : List Str} {i j : Nat} {x y : Str} (h1 : N[i]? = some x) (h2 : N[j]? = some y) (h : x ≠ y) : i ≠ j := fun e => by
  subst e
  rw [h1] at h2
  cases h2
  exact h rfl
theorem methB_ok {q : Str × Pos × Str × Pos × List Expr × Pos} (h : methB e = some q) : e = .Call (.Attribute (.Name q.1 q.2.1) q.2.2.1 q.2.2.2.1) q.2.2.2.2.1 [] q.2.2.2.2.2 := by
  unfold methB at h
  split at h
  · cases h; rfl
  · cases h
theorem popB_ok (C : CxOk X c Φ Ψ) {j : Nat} (h : popB c v = some j) : ∃ x p ap cp, v = .Call (.Attribute (.Name x p) sPop ap) [] [] cp ∧ PE X v (tBM0 X.K "list" rPop (tVar j)) := by
  unfold popB at h
  split at h
  · rename_i x p m ap cp hq
    split at h
    · rename_i hb
      have e := methB_ok hq
      obtain ⟨e1, e2⟩ := hb
      subst e1
      refine ⟨x, p, ap, cp, e, ?_⟩
      rw [e]
      exact pe_bm0 PySem.F.plainAttrs_list PySem.F.slot_list_pop PySem.F.type_list_pop mt_pop (cVar_ok C h) rfl e2
    · cases h
  · cases h
theorem cAsg_ok (C : CxOk X c Φ Ψ) (hfn : ∀ x, X.fn x = true) {s : S} (h : cAsg n c tg v = some s) : PS X (.Assign [tg] v pos) (tSt X.K ta Φ Ψ M s) := by
  have hf := compE_ok (ta := ta) n c X C
  unfold cAsg at h
  split at h
  · rename_i x px
    obtain ⟨i, hi, h⟩ := bind_some h
    obtain ⟨s1, s2, s3⟩ := stoN_ok C hfn hi
    split at h
    · rename_i j hj
      cases h
      obtain ⟨x1, p1, ap, cp, ev1, hpe⟩ := popB_ok C hj
      refine PS.weak (ps_set (nd_of C) s1 s2 hpe ?_ s3) fun D σ H h => popt_data h
      rw [ev1]; rfl
    split at h
    · rename_i y yp _ _
      split at h
      · rename_i j hj
        cases h
        refine PS.weak (ps_set (nd_of C) s1 s2 (cVar_ok C hj) rfl s3) fun D σ H h => mov_data h
      · obtain ⟨y, hy, h⟩ := map_some h
        subst h
        exact s_set (nd_of C) s1 s2 (hf _ _ hy).1 rfl s3
    · rename_i elt gs scope lp _ _
      split at h
      · rename_i hb
        simp only [Bool.and_eq_true, Bool.not_eq_true'] at hb
        obtain ⟨y, hy, h⟩ := map_some h
        subst h
        have hl := isLocal_ok C hb.1.1
        obtain ⟨tg, iter, ifs, wi, gg, tt, te, own, rfl, h1, h2, h3, h4, h5, h6, h7⟩ := cComp_parts C hf (fun X' eK C' => compE_ok n _ X' C') hy
        have hsw : swapsWith (.ListComp elt [⟨tg, iter, ifs, 0⟩] scope lp) (some (.Name x px)) pos.line X.env = pure true := sw_true (by rw [C.sc]; exact C.kind) hl hb.1.2 hb.2
        refine PS.weak (ps_setLc C.calm (nd_of C) s1 hl hsw h1 h2 h3 h4 h5 h6) fun D σ H hq => ?_
        exact h7 _ _ _ (set_data hq)
      · split at h
        · cases h
        · rename_i hb hnl
          obtain ⟨y, hy, h⟩ := map_some h
          subst h
          refine s_set (nd_of C) s1 s2 (hf _ _ hy).1 ?_ s3
          have hk : X.env.kindOf x ≠ some .local := fun z => hnl (decide_eq_true (by rw [← C.sc]; exact z))
          have hk2 : (X.env.kindOf x == some .local) = false := by simpa using hk
          unfold swapsWith
          simp only [hk2, Bool.and_false, Bool.false_and]
    · rename_i hnc
      split at h
      · cases h
      · rename_i hc
        obtain ⟨y, hy, h⟩ := map_some h
        subst h
        refine s_set (nd_of C) s1 s2 (hf _ _ hy).1 ?_ s3
        cases v <;> first | rfl | (exact absurd rfl hc)
  · rename_i ts k p
    split at h
    · rename_i hs
      obtain ⟨t, ht, h⟩ := bind_some h
      split at h
      · rename_i hst
        split at h
        · rename_i j hj
          cases h
          obtain ⟨x1, p1, ap, cp, ev1, hpe⟩ := popB_ok C hj
          refine PS.weak (ps_asg hpe (cTg_ok C.hN C.nd C.calm ht (stoAll_ok C hfn hst)) ?_ (swK_ok C.sc C.kind hs) rfl) fun D σ H h => popt_data h
          rw [ev1]; rfl
        · obtain ⟨y, hy, h⟩ := map_some h
          subst h
          refine s_asg (hf _ _ hy).1 (cTg_ok C.hN C.nd C.calm ht (stoAll_ok C hfn hst)) ?_ (swK_ok C.sc C.kind hs) rfl
          cases v <;> rfl
      · cases h
    · rename_i names hs
      split at h
      · rename_i x px y py a b k2 p2
        split at h
        · rename_i hb
          obtain ⟨e1, e2, e3, e4⟩ := hb
          obtain ⟨i, hi, h⟩ := bind_some h
          obtain ⟨j, hj, h⟩ := bind_some h
          obtain ⟨ca, ha, h⟩ := bind_some h
          obtain ⟨cb, hb, h⟩ := map_some h
          subst h e1
          obtain ⟨i1, i2⟩ := stoN_ok C hfn hi
          obtain ⟨j1, j2⟩ := stoN_ok C hfn hj
          have pa := hf _ _ ha
          have pb := hf _ _ hb
          exact s_par2 C.calm (nd_of C) i1 j1 (ix_ne i1 j1 e2) (isLocal_ok C e3) (isLocal_ok C e4) (as_cons pa.1 (as_cons pb.1 as_nil (star_ns pb.2.2)) (star_ns pa.2.2)) (swK_ok C.sc C.kind hs) rfl
        · cases h
      · rename_i x px y py z pz a b d k2 p2
        split at h
        · rename_i hb
          obtain ⟨e1, ⟨e2, e2b, e2c⟩, e3, e4, e5⟩ := hb
          obtain ⟨i, hi, h⟩ := bind_some h
          obtain ⟨j, hj, h⟩ := bind_some h
          obtain ⟨l, hl, h⟩ := bind_some h
          obtain ⟨ca, ha, h⟩ := bind_some h
          obtain ⟨cb, hb, h⟩ := bind_some h
          obtain ⟨cd, hd, h⟩ := map_some h
          subst h e1
          obtain ⟨i1, i2⟩ := stoN_ok C hfn hi
          obtain ⟨j1, j2⟩ := stoN_ok C hfn hj
          obtain ⟨l1, l2⟩ := stoN_ok C hfn hl
          have pa := hf _ _ ha
          have pb := hf _ _ hb
          have pd := hf _ _ hd
          have args := as_cons pa.1 (as_cons pb.1 (as_cons pd.1 as_nil (star_ns pd.2.2)) (star_ns pb.2.2)) (star_ns pa.2.2)
          have x1 := isLocal_ok C e3
          have x2 := isLocal_ok C e4
          have x3 := isLocal_ok C e5
          exact s_par3 C.calm (nd_of C) i1 j1 l1 (ix_ne i1 j1 e2) (ix_ne i1 l1 e2b) (ix_ne j1 l1 e2c) x1 x2 x3 args (ps_par3 C.calm (nd_of C) i1 j1 l1 (ix_ne i1 j1 e2) (ix_ne i1 l1 e2b) (ix_ne j1 l1 e2c) x1 x2 x3 args (swK_ok C.sc C.kind hs) rfl)
        · cases h
      · cases h
    · cases h
  · rename_i x px ix sp
    obtain ⟨i, hi, h⟩ := bind_some h
    split at h
    · cases h
    · rename_i hns
      obtain ⟨y, hy, h⟩ := bind_some h
      obtain ⟨z, hz, h⟩ := map_some h
      subst h
      refine s_sti (ps_asg (hf _ _ hy).1.use (pg_sub (cVar_ok C hi) (hf _ _ hz).1.use set_list ?_) ?_ ?_ rfl)
      · intro v'
        cases ix <;> first | rfl | exact absurd rfl (hns _ _ _ _)
      · cases v <;> rfl
      · cases v <;> rfl
  · cases h
theorem cMeth_ok (C : CxOk X c Φ Ψ) {x m : Str} {p ap cp : Pos} {args : List Expr} {s : S} (h : cMeth n c x m ap cp args = some s) : PS X (.Expr (.Call (.Attribute (.Name x p) m ap) args [] cp) pos) (tSt X.K ta Φ Ψ M s) := by
  have hf := compE_ok (ta := ta) n c X C
  unfold cMeth at h
  split at h
  · rename_i hl
    obtain ⟨i, hi, h⟩ := bind_some h
    split at h
    · rename_i e
      split at h
      · rename_i hm
        obtain ⟨y, hy, h⟩ := map_some h
        subst h hm
        obtain ⟨q1, _, q3⟩ := hf _ _ hy
        have hs := star_ns (es := []) (env := X.env) q3
        exact s_app (ps_expr (pe_bm PySem.F.plainAttrs_list PySem.F.slot_list_append PySem.F.type_list_append mt_append (cVar_ok C hi) (pa_cons q1.use pa_nil hs) rfl (by rw [hs]; rfl) hl hs rfl) rfl)
      · split at h
        · rename_i hm
          obtain ⟨y, hy, h⟩ := map_some h
          subst h hm
          obtain ⟨q1, _, q3⟩ := hf _ _ hy
          have hs := star_ns (es := []) (env := X.env) q3
          exact s_ext (ps_expr (pe_bm PySem.F.plainAttrs_list PySem.F.slot_list_extend PySem.F.type_list_extend mt_extend (cVar_ok C hi) (pa_cons q1.use pa_nil hs) rfl (by rw [hs]; rfl) hl hs rfl) rfl)
        · cases h
    · split at h
      · rename_i hm
        cases h
        subst hm
        exact s_pop (ps_expr (pe_bm0 PySem.F.plainAttrs_list PySem.F.slot_list_pop PySem.F.type_list_pop mt_pop (cVar_ok C hi) rfl hl) rfl)
      · cases h
    · cases h
  · cases h
theorem comp_ok (C : CxOk X c Φ Ψ) (hfn : ∀ x, X.fn x = true) : ∀ n, (∀ st s, compS n c st = some s → PS X st (tSt X.K ta Φ Ψ M s)) ∧ ∀ sts ss, compSs n c sts = some ss → PSs X sts (tSts X.K ta Φ Ψ M ss) := by
  have hp : PassesOwn (model X.prog X.w) X.A X.env X.xe := by rw [C.xe]; exact PassesOwn.never
  intro n
  induction n with
  | zero => exact ⟨(fun _ _ h => by simp [compS] at h), (fun _ _ h => by simp [compSs] at h)⟩
  | succ n ih =>
    obtain ⟨ih1, ih2⟩ := ih
    have hf := compE_ok (ta := ta) n c X C
    constructor
    · intro st s h
      unfold compS at h
      split at h
      · split at h
        · exact cAsg_ok C hfn h
        · cases h
      · split at h
        · obtain ⟨i, hi, h⟩ := bind_some h
          obtain ⟨o, ho, h⟩ := bind_some h
          obtain ⟨y, hy, h⟩ := map_some h
          subst h
          have eo := cOp_ok ho
          subst eo
          obtain ⟨s1, s2, s3⟩ := stoN_ok C hfn hi
          exact s_aug (nd_of C) s1 s2 (hf _ _ hy).1 s3
        · cases h
      · split at h
        · rename_i q hq
          rw [methB_ok hq]
          exact cMeth_ok C h
        · split at h
          · cases h
          · rename_i e _ _ _ hc
            obtain ⟨y, hy, h⟩ := map_some h
            subst h
            refine s_exp (hf _ _ hy).1 ?_
            cases e <;> first | rfl | exact absurd rfl hc
      · split at h
        · cases h; exact s_retn
        · split at h
          · split at h
            · rename_i i hi
              cases h
              exact s_retv (cVar_ok C hi)
            · obtain ⟨y, hy, h⟩ := map_some h
              subst h
              exact s_ret (hf _ _ hy).1
          · obtain ⟨y, hy, h⟩ := map_some h
            subst h
            exact s_ret (hf _ _ hy).1
      · obtain ⟨x, hx, h⟩ := bind_some h
        obtain ⟨y, hy, h⟩ := bind_some h
        obtain ⟨z, hz, h⟩ := map_some h
        subst h
        exact s_ite (cTest_ok hf _ _ _ hx) (ih2 _ _ hy) (ih2 _ _ hz)
      · split at h
        · obtain ⟨x, hx, h⟩ := bind_some h
          obtain ⟨y, hy, h⟩ := map_some h
          subst h
          exact s_whl hp (cTest_ok hf _ _ _ hx) (ih2 _ _ hy)
        · cases h
      · split at h
        · obtain ⟨t, ht, h⟩ := bind_some h
          split at h
          · rename_i hst
            obtain ⟨y, hy, h⟩ := bind_some h
            have hg := cTg_ok C.hN C.nd C.calm ht (stoAll_ok C hfn hst)
            split at h
            · split at h
              · rename_i i hi
                cases h
                exact s_forv hp C.calm (cVar_ok C hi) hg (ih2 _ _ hy) fun x => rfl
              · obtain ⟨z, hz, h⟩ := map_some h
                subst h
                obtain ⟨p1, p2⟩ := cIt_ok C hf hz
                exact s_for hp C.calm p1 hg (ih2 _ _ hy) p2
            · obtain ⟨z, hz, h⟩ := map_some h
              subst h
              obtain ⟨p1, p2⟩ := cIt_ok C hf hz
              exact s_for hp C.calm p1 hg (ih2 _ _ hy) p2
          · cases h
        · cases h
      · cases h; exact s_pas
      · cases h; exact s_brk
      · cases h; exact s_cnt
      · cases h; exact s_nev
      · cases h
    · intro sts ss h
      unfold compSs at h
      split at h
      · cases h; exact s_nil
      · obtain ⟨x, hx, h⟩ := bind_some h
        obtain ⟨xs, hxs, h⟩ := map_some h
        subst h
        exact s_cons (ih1 _ _ hx) (ih2 _ _ hxs)
end

/-! ### defs -/
/-- what a body hands back -/
def retOf : Out → Option R
  | .rt r _ => some r
  | .nx _ _ => some ⟨.S, .none⟩
  | _ => none
def τ0 : Tp := ⟨[], 0, 0, 0⟩
/-- a def's slots at its entry -/
def start0 (N : Nat) (ds : List D) : Rho := ds.map Sl.im ++ List.replicate (N - ds.length) .un
theorem start_rel {K : PySem.W.Frag} {H : Hp} {N : List Str} {vs : List V} {ds : List D} (h : RpAll K H vs ds) (hl : ds.length ≤ N.length) : Rel K ⟨none, 0⟩ (start0 N.length ds) H (L2.start N vs) H := by
  have lv := h.length
  have noow : ∀ (i : Nat) (di : List D), (start0 N.length ds)[i]? = some (.ow di) → False := fun i di e => by
    unfold start0 at e
    rw [List.getElem?_append] at e
    split at e
    · rw [List.getElem?_map] at e
      cases q : ds[i]? with
      | none => rw [q] at e; cases e
      | some d => rw [q] at e; cases e
    · rw [List.getElem?_replicate] at e
      split at e <;> cases e
  refine ⟨?_, Same.refl _, fun i s e => ?_, fun i j di dj p e1 e2 e3 e4 => (noow i di e1).elim⟩
  · unfold start0 L2.start
    simp [lv]
  · unfold start0 at e
    rw [List.getElem?_append] at e
    split at e
    · rename_i hi
      rw [List.length_map] at hi
      rw [List.getElem?_map, List.getElem?_eq_getElem hi] at e
      cases e
      obtain ⟨v, e1, e2⟩ := h.get (List.getElem?_eq_getElem hi)
      refine ⟨v, ?_, e2⟩
      unfold L2.start
      rw [List.getElem?_append_left (by rw [List.length_map, lv]; exact hi), List.getElem?_map, e1]
      rfl
    · rw [List.getElem?_replicate] at e
      split at e
      · cases e; trivial
      · cases e
/-- what a caller has to know of the defs around -/
structure Env1 (P : Program) (w : World) (K : PySem.W.Frag) (mg : Str → Option Value) (base : Heap) (k : Nat) (c : Cc) (Φ : Nat → List D → Option R) (Ψ : Nat → List D → Tp → Option (R × Tp)) : Prop where
  con : ∀ x d, c.cs.lookup x = some d → ∃ v u, mg x = some u ∧ RelV v u ∧ ∀ H, Rp K H v d
  bl : ∀ x, c.bl.contains x = true → mg x = none
  fns : ∀ n x, c.fs[n]? = some x → ∃ f fd ps, FnOk P w K mg base CX0 k f fd ps (spP K (Φ n)) ∧ mg x = some (.ref f) ∧ PySem.W.keepIn K (.ref f) = true ∧ Binds K fd ps []
  fts : ∀ n x, c.ft[n]? = some x → (∀ ds τ r τ', Ψ n ds τ = some (r, τ') → τ'.cells = τ.cells) ∧ ∃ f fd ps, FnOk P w K mg base CX0 k f fd ps (spT K (Ψ n)) ∧ mg x = some (.ref f) ∧ PySem.W.keepIn K (.ref f) = true ∧ Binds K fd ps []
theorem Env1.cx {P : Program} {w : World} {K : PySem.W.Frag} {mg : Str → Option Value} {base : Heap} {k : Nat} {c : Cc} {Φ : Nat → List D → Option R} {Ψ : Nat → List D → Tp → Option (R × Tp)} (V : Env1 P w K mg base k c Φ Ψ) {ps : List Str} (hS : FnScope c.N ps c.sc)
    {qual : Str} {f : Addr} {cd : Value} {A : Around} {outer : List Env} {s : Shared} {H : Hp} {E : XK} (hr : Room k (A.deeper (envOfC qual c.sc s.heap.objs.size f cd))) : CxOk (cxOf CX0 P w K mg base c.N qual c.sc f cd A outer s H E).nox c Φ Ψ where
  hN := rfl
  nd := hS.nd
  sc := rfl
  kind := hS.kind
  calm := rfl
  xe := rfl
  hu := by have := hr.un; show (A.deeper _).units + 80 < cLine; omega
  con := V.con
  bl := V.bl
  fns := fun n x h => by
    obtain ⟨f, fd, ps, F, hm, hk, hb⟩ := V.fns n x h
    exact ⟨k, f, fd, ps, F, hr, hm, hk, hb⟩
  fts := fun n x h => by
    obtain ⟨h1, f, fd, ps, F, hm, hk, hb⟩ := V.fts n x h
    exact ⟨h1, k, f, fd, ps, F, hr, hm, hk, hb⟩
/-- THE RULE: a def keeps the promise that the evaluator tells -/
theorem fn_ev {P : Program} {w : World} {K : PySem.W.Frag} {mg : Str → Option Value} {base : Heap} {k : Nat} {c : Cc} {Φ : Nat → List D → Option R} {Ψ : Nat → List D → Tp → Option (R × Tp)} {x qual : Str} {st : Stmt} {f : Addr} {fd : FuncData} {ps : List Str} {code : List S} {fuel : Nat} {φ : List D → Option R}
    (V : Env1 P w K mg base k c Φ Ψ) (F : Fun K x qual st f fd) (hS : FnScope c.N ps c.sc) (hsc : c.sc = defScope st) (hc : compSs fuel c (defBody st) = some code) (hp : ps.length ≤ c.N.length)
    (hφ : ∀ ds r, φ ds = some r → ds.length = ps.length ∧ ∃ M o, evSs Φ Ψ M (start0 c.N.length ds) τ0 code = some o ∧ retOf o = some r) : FnOk P w K mg base CX0 (k + 1) f fd ps (spP K φ) := by
  refine F.ok (N := c.N) (by rw [← hsc]; exact hS) (fun vs H Q E h => ?_) (fun cdv A outer s H vs Q E hr h => ?_)
  · obtain ⟨ds, r, h1, h2, _⟩ := h
    rw [h1.length]
    exact (hφ ds r h2).1
  · obtain ⟨ds, r, h1, h2, hcl, hQ⟩ := h
    obtain ⟨hl, M, o, hev, hro⟩ := hφ ds r h2
    rw [← hsc] at hr ⊢
    have C := V.cx hS hr (outer := outer) (E := E) (H := H)
    refine ⟨_, (comp_ok (ta := ⟨none, 0⟩) (M := M) C (fun _ => rfl) fuel).2 _ _ hc, H, start0 c.N.length ds, τ0, o, start_rel h1 (by omega), (fun a e => by cases e), hev, ?_⟩
    cases o with
    | bk _ _ => cases hro
    | ct _ _ => cases hro
    | nx ρ1 τ1 =>
      cases hro
      intro σ' H' S' hs R' _
      exact hQ .non H' (hs.trans R'.sub) (show Rp K H' .non .none from rfl)
    | rt r' τ' =>
    cases hro
    intro v H' S' hs hs' _ hv
    refine hQ v H' (hs.trans hs') ?_
    obtain ⟨kd, d⟩ := r
    cases kd with
    | S => exact Rp.mono hs' d hv
    | B => exact hv.elim
    | F =>
      obtain ⟨p, ds', vs', e1, e2, e3, e4, e5, _⟩ := hv
      have n : H p = none := by
        cases z : H p with
        | none => rfl
        | some o => have := hs _ _ z; rw [e4] at this; cases this
      exact ⟨p, ds', vs', e1, e2, n, e3, RpAll.mono hs' ds' e5⟩
end Ev

/-! ## Ev13 -/
namespace Ev
open PySem PySem.Spec PyProof.Rows L2

/-! ### the law's tape: _law_begin, _law_take -/
def takeA (τ : Tp) (m v : Int) : Int × Tp := if v < 1000000000000000000 then (v.fmod m, ⟨τ.cells, τ.pos + 1, 0, τ.seed⟩) else (v.fmod m, ⟨τ.cells, τ.pos + 1, v.fdiv m, τ.seed⟩)
def takeB (τ : Tp) (m s : Int) : Int × Tp := ((s.fdiv 3).fmod m, ⟨τ.cells, τ.pos, τ.cur, s⟩)
def takeM (τ : Tp) (m : Int) : Int × Tp :=
  if τ.cur = 0 ∧ τ.pos < τ.cells.length then takeA τ m ((τ.cells.getD τ.pos 0).natAbs : Int)
  else if 0 < τ.cur then (τ.cur.fmod m, ⟨τ.cells, τ.pos, τ.cur.fdiv m, τ.seed⟩)
  else takeB τ m ((τ.seed * 48271 + 11).fmod 2147483647)
theorem takeA_cells (τ : Tp) (m v : Int) : (takeA τ m v).2.cells = τ.cells := by
  unfold takeA
  by_cases h : v < 1000000000000000000
  · rw [if_pos h]
  · rw [if_neg h]
theorem takeM_cells (τ : Tp) (m : Int) : (takeM τ m).2.cells = τ.cells := by
  unfold takeM
  by_cases h : τ.cur = 0 ∧ τ.pos < τ.cells.length
  · rw [if_pos h, takeA_cells]
  · rw [if_neg h]
    by_cases h2 : 0 < τ.cur
    · rw [if_pos h2]
    · rw [if_neg h2, takeB]
theorem fmod_range {x m : Int} (h : 0 < m) : 0 ≤ x.fmod m ∧ x.fmod m < m := ⟨Int.fmod_nonneg_of_pos x h, Int.fmod_lt_of_pos x h⟩
theorem takeA_range (τ : Tp) {m v : Int} (h : 0 < m) : 0 ≤ (takeA τ m v).1 ∧ (takeA τ m v).1 < m := by
  unfold takeA
  by_cases h1 : v < 1000000000000000000
  · rw [if_pos h1]; exact fmod_range h
  · rw [if_neg h1]; exact fmod_range h
theorem takeM_range (τ : Tp) {m : Int} (h : 0 < m) : 0 ≤ (takeM τ m).1 ∧ (takeM τ m).1 < m := by
  unfold takeM
  by_cases h1 : τ.cur = 0 ∧ τ.pos < τ.cells.length
  · rw [if_pos h1]; exact takeA_range τ h
  · rw [if_neg h1]
    by_cases h2 : 0 < τ.cur
    · rw [if_pos h2]; exact fmod_range h
    · rw [if_neg h2, takeB]; exact fmod_range h
def takeF : List D → Tp → Option (R × Tp)
  | [.int m], τ => if 0 < m ∧ m < 1073741824 then some (⟨.S, .int (takeM τ m).1⟩, (takeM τ m).2) else none
  | _, _ => none
theorem takeF_cells : ∀ (ds : List D) (τ : Tp) (r : R) (τ' : Tp), takeF ds τ = some (r, τ') → τ'.cells = τ.cells := by
  intro ds τ r τ' h
  unfold takeF at h
  split at h
  · split at h
    · cases h; exact takeM_cells _ _
    · cases h
  · cases h
/-! the readings of the tape's own expressions -/
section
variable {K : PySem.W.Frag}
def xIx (K : PySem.W.Frag) (i : Int) : TE := tOp (rIx K) (tVar 0) (tC (.int i))
def tTake (K : PySem.W.Frag) : TS :=
  tSeq (tIfS (tAnd (tTest (tOp rEq (xIx K 2) (tC (.int 0)))) (tTest (tOp (rI0 fun i j => .bl (decide (i < j))) (xIx K 1) (tCB (fun xs H Q => ∃ p ys, xs = [.ref p] ∧ (SqL K H p ys ∨ SqT K H p ys) ∧ Q (.int ys.length) H) (tCons (xIx K 0) tNil)))))
    (tSeq (tAsg (tCB (fun xs H Q => ∃ i, xs = [.int i] ∧ Q (.int (if i < 0 then -i else i)) H) (tCons (tCB (fun xs H Q => (∃ i, xs = [.int i] ∧ Q (.int i) H) ∨ ∃ k, xs = [.bl k] ∧ Q (.int (if k then 1 else 0)) H) (tCons (tOp (rIx K) (xIx K 0) (xIx K 1)) tNil)) tNil)) (gSub (tVar 0) (tC (.int 2)) rSetL))
    (tSeq (tAsg (tOp (rI0 fun i j => .int (i + j)) (xIx K 1) (tC (.int 1))) (gSub (tVar 0) (tC (.int 1)) rSetL))
      (tIfS (tTest (tOp (rI0 fun i j => .bl (decide (i < j))) (xIx K 2) (tOp (rI CPow fun i j => .int (i ^ j.toNat)) (tC (.int 10)) (tC (.int 18)))))
        (tSeq (tAsg (tCB (fun xs H Q => (∃ i, xs = [.int i] ∧ Q (.int i) H) ∨ ∃ k, xs = [.bl k] ∧ Q (.int (if k then 1 else 0)) H) (tCons (xIx K 2) tNil)) (gName 2))
          (tSeq (tAsg (tC (.int 0)) (gSub (tVar 0) (tC (.int 2)) rSetL)) (tRet (tOp (rI (fun _ j => j ≠ 0) fun i j => .int (i.fmod j)) (tVar 2) (tVar 1))))) tNext)))
    tNext)
  (tSeq (tIfS (tTest (tOp (rI0 fun i j => .bl (decide (j < i))) (xIx K 2) (tC (.int 0))))
    (tSeq (tAsg (tOp (rI (fun _ j => j ≠ 0) fun i j => .int (i.fmod j)) (tCB (fun xs H Q => (∃ i, xs = [.int i] ∧ Q (.int i) H) ∨ ∃ k, xs = [.bl k] ∧ Q (.int (if k then 1 else 0)) H) (tCons (xIx K 2) tNil)) (tVar 1)) (gName 3))
      (tSeq (tAsg (tOp (rI CDivN fun i j => .int (i.fdiv j)) (tCB (fun xs H Q => (∃ i, xs = [.int i] ∧ Q (.int i) H) ∨ ∃ k, xs = [.bl k] ∧ Q (.int (if k then 1 else 0)) H) (tCons (xIx K 2) tNil)) (tVar 1)) (gSub (tVar 0) (tC (.int 2)) rSetL))
        (tRet (tVar 3)))) tNext)
  (tSeq (tAsg (tOp (rI (fun _ j => j ≠ 0) fun i j => .int (i.fmod j)) (tCB (fun xs H Q => (∃ i, xs = [.int i] ∧ Q (.int i) H) ∨ ∃ k, xs = [.bl k] ∧ Q (.int (if k then 1 else 0)) H) (tCons (tOp (rI0 fun i j => .int (i + j)) (tOp (rI CMul fun i j => .int (i * j)) (xIx K 3) (tC (.int 48271))) (tC (.int 11))) tNil)) (tC (.int 2147483647))) (gSub (tVar 0) (tC (.int 3)) rSetL))
    (tRet (tOp (rI (fun _ j => j ≠ 0) fun i j => .int (i.fmod j)) (tCB (fun xs H Q => (∃ i, xs = [.int i] ∧ Q (.int i) H) ∨ ∃ k, xs = [.bl k] ∧ Q (.int (if k then 1 else 0)) H) (tCons (tOp (rI CDivN fun i j => .int (i.fdiv j)) (xIx K 3) (tC (.int 3))) tNil)) (tVar 1)))))
theorem ix_ok {σ : L2.St} {H : Hp} {a : Addr} {xs : List V} {i : Nat} {v : V} {Q : VK} (h0 : σ[0]? = some (some (.ref a))) (h : H a = some (.lst xs)) (hv : xs[i]? = some v) (q : Q v H) : xIx K (i : Int) σ H Q :=
  ⟨_, h0, .inl ⟨a, xs, i, v, rfl, rfl, SqL.of h, atI_nat hv, q⟩⟩
theorem st_ok {σ : L2.St} {H : Hp} {a : Addr} {xs : List V} {i : Nat} {v : V} {Q : L2.St → Hp → Prop} (h0 : σ[0]? = some (some (.ref a))) (h : H a = some (.lst xs)) (hi : i < xs.length) (q : Q σ (upd H a (.lst (xs.set i v)))) : gSub (tVar 0) (tC (.int (i : Int))) rSetL v σ H Q :=
  ⟨_, h0, a, xs, i, i, rfl, rfl, h, by unfold ixN; rw [if_pos (by omega), if_pos (by omega)]; rfl, q⟩
theorem e18 : (10 : Int) ^ (18 : Int).toNat = 1000000000000000000 := by decide +kernel
theorem take_run {a : Addr} {b : Addr} {τ : Tp} {m : Int} {H : Hp} {D : Ends} (ht : TapeAt K (del H a) H a b τ) (hm : 0 < m ∧ m < 1073741824)
    (hQ : ∀ H', Same (del H a) (del H' a) → TapeAt K (del H' a) H' a b (takeM τ m).2 → D.rt (.int (takeM τ m).1) H') : tTake K D [some (.ref a), some (.int m), none, none] H := by
  obtain ⟨_, hA, hB⟩ := ht
  have fin : ∀ (H' : Hp) (τ' : Tp), τ'.cells = τ.cells → del H' a = del H a → H' a = some (.lst [.ref b, .int (τ'.pos : Int), .int τ'.cur, .int τ'.seed]) → TapeAt K (del H' a) H' a b τ' := fun H' τ' e1 e2 e3 => ⟨del_same, e3, by rw [e1, e2]; exact hB⟩
  have sm : ∀ {H' : Hp}, del H' a = del H a → Same (del H a) (del H' a) := fun {H'} e => by rw [e]; exact Same.refl _
  have hBH : SqL K H b (τ.cells.map V.int) := del_sub.seq hB
  have hnz : m ≠ 0 := by omega
  -- the second part: from the second if on
  have second : ∀ (τ1 : Tp) (H1 : Hp) (x2 : Option V), τ1.cells = τ.cells → del H1 a = del H a → H1 a = some (.lst [.ref b, .int (τ1.pos : Int), .int τ1.cur, .int τ1.seed]) →
      (0 < τ1.cur → ∀ H', del H' a = del H a → H' a = some (.lst [.ref b, .int (τ1.pos : Int), .int (τ1.cur.fdiv m), .int τ1.seed]) → D.rt (.int (τ1.cur.fmod m)) H') →
      (¬ 0 < τ1.cur → ∀ H', del H' a = del H a → H' a = some (.lst [.ref b, .int (τ1.pos : Int), .int τ1.cur, .int ((τ1.seed * 48271 + 11).fmod 2147483647)]) → D.rt (.int ((((τ1.seed * 48271 + 11).fmod 2147483647).fdiv 3).fmod m)) H') →
      (tSeq (tIfS (tTest (tOp (rI0 fun i j => .bl (decide (j < i))) (xIx K 2) (tC (.int 0))))
    (tSeq (tAsg (tOp (rI (fun _ j => j ≠ 0) fun i j => .int (i.fmod j)) (tCB (fun xs H Q => (∃ i, xs = [.int i] ∧ Q (.int i) H) ∨ ∃ k, xs = [.bl k] ∧ Q (.int (if k then 1 else 0)) H) (tCons (xIx K 2) tNil)) (tVar 1)) (gName 3))
      (tSeq (tAsg (tOp (rI CDivN fun i j => .int (i.fdiv j)) (tCB (fun xs H Q => (∃ i, xs = [.int i] ∧ Q (.int i) H) ∨ ∃ k, xs = [.bl k] ∧ Q (.int (if k then 1 else 0)) H) (tCons (xIx K 2) tNil)) (tVar 1)) (gSub (tVar 0) (tC (.int 2)) rSetL))
        (tRet (tVar 3)))) tNext)
  (tSeq (tAsg (tOp (rI (fun _ j => j ≠ 0) fun i j => .int (i.fmod j)) (tCB (fun xs H Q => (∃ i, xs = [.int i] ∧ Q (.int i) H) ∨ ∃ k, xs = [.bl k] ∧ Q (.int (if k then 1 else 0)) H) (tCons (tOp (rI0 fun i j => .int (i + j)) (tOp (rI CMul fun i j => .int (i * j)) (xIx K 3) (tC (.int 48271))) (tC (.int 11))) tNil)) (tC (.int 2147483647))) (gSub (tVar 0) (tC (.int 3)) rSetL))
    (tRet (tOp (rI (fun _ j => j ≠ 0) fun i j => .int (i.fmod j)) (tCB (fun xs H Q => (∃ i, xs = [.int i] ∧ Q (.int i) H) ∨ ∃ k, xs = [.bl k] ∧ Q (.int (if k then 1 else 0)) H) (tCons (tOp (rI CDivN fun i j => .int (i.fdiv j)) (xIx K 3) (tC (.int 3))) tNil)) (tVar 1))))) D [some (.ref a), some (.int m), x2, none] H1 := by
    intro τ1 H1 x2 e1 e2 e3 p1 p2
    refine ix_ok (i := 2) rfl e3 rfl ⟨τ1.cur, 0, rfl, rfl, _, rfl, ite2 (fun h => ?_) (fun h => ?_)⟩
    · have hpos : 0 < τ1.cur := of_decide_eq_true h
      refine ix_ok (i := 2) rfl e3 rfl (.inl ⟨_, rfl, _, rfl, _, _, rfl, rfl, hnz, ?_⟩)
      refine ix_ok (i := 2) rfl e3 rfl (.inl ⟨_, rfl, _, rfl, _, _, rfl, rfl, ⟨hnz, by omega⟩, ?_⟩)
      refine st_ok (i := 2) rfl e3 (by simp) ⟨_, rfl, ?_⟩
      exact p1 hpos _ (by rw [del_upd, e2]) upd_same
    · have hpos : ¬ 0 < τ1.cur := fun z => h (decide_eq_true z)
      refine ix_ok (i := 3) rfl e3 rfl ⟨_, _, rfl, rfl, .inr ⟨by decide, by decide⟩, _, _, rfl, rfl, .inl ⟨_, rfl, _, _, rfl, rfl, (by show (2147483647 : Int) ≠ 0; decide), ?_⟩⟩
      refine st_ok (i := 3) rfl e3 (by simp) ?_
      refine ix_ok (i := 3) rfl upd_same rfl ⟨_, _, rfl, rfl, ⟨by decide, by decide⟩, .inl ⟨_, rfl, _, rfl, _, _, rfl, rfl, hnz, ?_⟩⟩
      exact p2 hpos _ (by rw [del_upd, e2]) upd_same
  -- the first if
  refine ix_ok (i := 2) rfl hA rfl ⟨rfl, _, rfl, ite2 (fun h => ?_) (fun h => ?_)⟩
  · have h0 : τ.cur = 0 := V.int.inj (of_decide_eq_true h)
    refine ix_ok (i := 1) rfl hA rfl (ix_ok (i := 0) rfl hA rfl ⟨b, _, rfl, .inl hBH, _, _, rfl, rfl, _, rfl, ite2 (fun h1 => ?_) (fun h1 => ?_)⟩)
    · have hlt : τ.pos < τ.cells.length := by
        have := of_decide_eq_true h1
        rw [List.length_map] at this
        omega
      refine ix_ok (i := 0) rfl hA rfl (ix_ok (i := 1) rfl hA rfl (.inl ⟨b, _, _, .int (τ.cells.getD τ.pos 0), rfl, rfl, hBH, atI_nat ?_, .inl ⟨_, rfl, _, rfl, ?_⟩⟩))
      · rw [List.getElem?_map, List.getElem?_eq_getElem hlt]
        simp [List.getD, List.getElem?_eq_getElem hlt]
      · have habs : (if τ.cells.getD τ.pos 0 < 0 then -(τ.cells.getD τ.pos 0) else τ.cells.getD τ.pos 0) = ((τ.cells.getD τ.pos 0).natAbs : Int) := by
          split <;> omega
        rw [habs]
        have htm : takeM τ m = if ((τ.cells.getD τ.pos 0).natAbs : Int) < 1000000000000000000 then ((((τ.cells.getD τ.pos 0).natAbs : Int)).fmod m, ⟨τ.cells, τ.pos + 1, 0, τ.seed⟩) else ((((τ.cells.getD τ.pos 0).natAbs : Int)).fmod m, ⟨τ.cells, τ.pos + 1, (((τ.cells.getD τ.pos 0).natAbs : Int)).fdiv m, τ.seed⟩) := by
          unfold takeM
          rw [if_pos ⟨h0, hlt⟩, takeA]
        generalize hv : ((τ.cells.getD τ.pos 0).natAbs : Int) = v at htm
        refine st_ok (i := 2) rfl hA (by simp) ?_
        refine ix_ok (i := 1) rfl upd_same rfl ⟨_, _, rfl, rfl, ?_⟩
        refine st_ok (i := 1) rfl upd_same (by simp) ?_
        rw [upd_upd]
        refine ix_ok (i := 2) rfl upd_same rfl ⟨_, _, rfl, rfl, ⟨by decide, by decide, by decide⟩, _, _, rfl, rfl, _, rfl, ite2 (fun h2 => ?_) (fun h2 => ?_)⟩
        · have h2' : v < 1000000000000000000 := by have := of_decide_eq_true h2; rw [e18] at this; exact this
          rw [if_pos h2'] at htm
          refine ix_ok (i := 2) rfl upd_same rfl (.inl ⟨_, rfl, ?_⟩)
          refine st_ok (i := 2) rfl upd_same (by simp) ⟨_, rfl, _, rfl, _, _, rfl, rfl, hnz, ?_⟩
          rw [upd_upd]
          have := hQ (upd H a (.lst [.ref b, .int ((τ.pos : Int) + 1), .int 0, .int τ.seed]))
          rw [htm] at this
          exact this (sm del_upd) (fin _ _ rfl del_upd (by rw [upd_same]; rfl))
        · have h2' : ¬ v < 1000000000000000000 := fun z => h2 (decide_eq_true (by rw [e18]; exact z))
          rw [if_neg h2'] at htm
          refine second ⟨τ.cells, τ.pos + 1, v, τ.seed⟩ _ none rfl del_upd upd_same (fun hp H' g1 g2 => ?_) (fun hp => ?_)
          · have := hQ H'
            rw [htm] at this
            exact this (sm g1) (fin _ _ rfl g1 g2)
          · have hv0 : (0 : Int) < v := by omega
            exact absurd hv0 hp
    · have hlt : ¬ τ.pos < τ.cells.length := fun z => h1 (decide_eq_true (by rw [List.length_map]; omega))
      have htm : takeM τ m = ((((τ.seed * 48271 + 11).fmod 2147483647).fdiv 3).fmod m, ⟨τ.cells, τ.pos, τ.cur, (τ.seed * 48271 + 11).fmod 2147483647⟩) := by
        unfold takeM
        rw [if_neg (fun z => hlt z.2), if_neg (by omega), takeB]
      refine second τ H none rfl rfl hA (fun hp => by omega) (fun hp H' g1 g2 => ?_)
      have := hQ H'
      rw [htm] at this
      exact this (sm g1) (fin _ _ rfl g1 g2)
  · have h0 : τ.cur ≠ 0 := fun z => h (decide_eq_true (by rw [z]))
    refine iteF ?_
    refine second τ H none rfl rfl hA (fun hp H' g1 g2 => ?_) (fun hp H' g1 g2 => ?_)
    · have htm : takeM τ m = (τ.cur.fmod m, ⟨τ.cells, τ.pos, τ.cur.fdiv m, τ.seed⟩) := by
        unfold takeM
        rw [if_neg (fun z => h0 z.1), if_pos hp]
      have := hQ H'
      rw [htm] at this
      exact this (sm g1) (fin _ _ rfl g1 g2)
    · have htm : takeM τ m = ((((τ.seed * 48271 + 11).fmod 2147483647).fdiv 3).fmod m, ⟨τ.cells, τ.pos, τ.cur, (τ.seed * 48271 + 11).fmod 2147483647⟩) := by
        unfold takeM
        rw [if_neg (fun z => h0 z.1), if_neg hp, takeB]
      have := hQ H'
      rw [htm] at this
      exact this (sm g1) (fin _ _ rfl g1 g2)
end
end Ev

/-! ## EvK -/
/-! the same evaluator once more, by the recursors and with forced numbers, lists and slots: for runs in the kernel -/
namespace Ev
open PySem PySem.Spec PyProof.Rows L2

/-! ### forcing -/
section
variable {β : Type}
noncomputable def frcN (n : Nat) (f : Nat → β) : β := @Nat.rec (fun _ => β) (f .zero) (fun m _ => f (.succ m)) n
theorem frcN_eq (n : Nat) (f : Nat → β) : frcN n f = f n := by cases n <;> rfl
noncomputable def frcI (i : Int) (f : Int → β) : β := @Int.rec (fun _ => β) (fun n => @Nat.rec (fun _ => β) (f (.ofNat .zero)) (fun m _ => f (.ofNat (.succ m))) n) (fun n => @Nat.rec (fun _ => β) (f (.negSucc .zero)) (fun m _ => f (.negSucc (.succ m))) n) i
theorem frcI_eq (i : Int) (f : Int → β) : frcI i f = f i := by
  cases i with
  | ofNat n => cases n <;> rfl
  | negSucc n => cases n <;> rfl
/-- a list's spine -/
noncomputable def frcL {α : Type} (l : List α) : (List α → β) → β := @List.rec α (fun _ => (List α → β) → β) (fun f => f []) (fun a _ ih f => ih fun r => f (a :: r)) l
theorem frcL_eq {α : Type} : ∀ (l : List α) (f : List α → β), frcL l f = f l
  | [], _ => rfl
  | a :: l, f => frcL_eq l _
noncomputable def frcB (b : Bool) (f : Bool → β) : β := @Bool.rec (fun _ => β) (f false) (f true) b
theorem frcB_eq (b : Bool) (f : Bool → β) : frcB b f = f b := by cases b <;> rfl
noncomputable def iteB (b : Bool) (x y : β) : β := @Bool.rec (fun _ => β) y x b
theorem iteB_eq (b : Bool) (x y : β) : iteB b x y = if b = true then x else y := by cases b <;> rfl
/-- an int, or else -/
noncomputable def dInt (d : D) (g : β) (f : Int → β) : β := @PyData.rec (fun _ => β) (fun _ => PUnit) (fun _ => PUnit) (fun _ => PUnit) g (fun _ => g) f (fun _ => g) (fun _ _ => g) (fun _ _ => g) (fun _ _ => g) ⟨⟩ (fun _ _ _ _ => ⟨⟩) ⟨⟩ (fun _ _ _ _ => ⟨⟩) (fun _ _ _ _ => ⟨⟩) d
noncomputable def dBool (d : D) (g : β) (f : Bool → β) : β := @PyData.rec (fun _ => β) (fun _ => PUnit) (fun _ => PUnit) (fun _ => PUnit) g f (fun _ => g) (fun _ => g) (fun _ _ => g) (fun _ _ => g) (fun _ _ => g) ⟨⟩ (fun _ _ _ _ => ⟨⟩) ⟨⟩ (fun _ _ _ _ => ⟨⟩) (fun _ _ _ _ => ⟨⟩) d
/-- two ways -/
noncomputable def dTest (d : D) (g x y : β) : β := @PyData.rec (fun _ => β) (fun _ => PUnit) (fun _ => PUnit) (fun _ => PUnit) g (fun b => @Bool.rec (fun _ => β) y x b) (fun _ => g) (fun _ => g) (fun _ _ => g) (fun _ _ => g) (fun _ _ => g) ⟨⟩ (fun _ _ _ _ => ⟨⟩) ⟨⟩ (fun _ _ _ _ => ⟨⟩) (fun _ _ _ _ => ⟨⟩) d
/-- a datum's head -/
noncomputable def frcD (d : D) (f : D → β) : β := @PyData.rec (fun _ => β) (fun _ => PUnit) (fun _ => PUnit) (fun _ => PUnit) (f .none) (fun b => @Bool.rec (fun _ => β) (f (.bool false)) (f (.bool true)) b) (fun i => frcI i fun i => f (.int i)) (fun x => f (.str x)) (fun l _ => frcL l fun l => f (.list l)) (fun l _ => frcL l fun l => f (.tuple l)) (fun l _ => f (.dict l)) ⟨⟩ (fun _ _ _ _ => ⟨⟩) ⟨⟩ (fun _ _ _ _ => ⟨⟩) (fun _ _ _ _ => ⟨⟩) d
theorem frcD_eq (d : D) (f : D → β) : frcD d f = f d := by
  cases d with
  | bool b => cases b <;> rfl
  | int i => exact frcI_eq i fun i => f (.int i)
  | list l => exact frcL_eq l fun l => f (.list l)
  | tuple l => exact frcL_eq l fun l => f (.tuple l)
  | _ => rfl
noncomputable def getK {α : Type} (l : List α) : Nat → Option α := @List.rec α (fun _ => Nat → Option α) (fun _ => none) (fun a _ ih n => @Nat.rec (fun _ => Option α) (some a) (fun n _ => ih n) n) l
theorem getK_eq {α : Type} : ∀ (l : List α) (n : Nat), getK l n = l[n]?
  | [], _ => by simp [getK]
  | _ :: _, 0 => rfl
  | _ :: l, n + 1 => by
    show getK l n = _
    simp [getK_eq l n]
noncomputable def setK {α : Type} (l : List α) : Nat → α → (List α → β) → β := @List.rec α (fun _ => Nat → α → (List α → β) → β) (fun _ _ f => f []) (fun a l ih n v f => @Nat.rec (fun _ => β) (f (v :: l)) (fun n _ => ih n v fun r => f (a :: r)) n) l
theorem setK_eq {α : Type} : ∀ (l : List α) (n : Nat) (v : α) (f : List α → β), setK l n v f = f (l.set n v)
  | [], _, _, _ => rfl
  | _ :: _, 0, _, _ => rfl
  | a :: l, n + 1, v, f => setK_eq l n v _
noncomputable def bnd (o : Option (R × Tp)) (f : Kd → D → Tp → Option β) : Option β := @Option.rec (R × Tp) (fun _ => Option β) none (fun x => @Prod.rec R Tp (fun _ => Option β) (fun r τ => @R.rec (fun _ => Option β) (fun k d => f k d τ) r) x) o
theorem bnd_eq (o : Option (R × Tp)) (f : Kd → D → Tp → Option β) : bnd o f = o.bind fun x => f x.1.k x.1.d x.2 := by cases o <;> rfl
noncomputable def bndP {α : Type} (o : Option (α × Tp)) (f : α → Tp → Option β) : Option β := @Option.rec (α × Tp) (fun _ => Option β) none (fun x => @Prod.rec α Tp (fun _ => Option β) f x) o
theorem bndP_eq {α : Type} (o : Option (α × Tp)) (f : α → Tp → Option β) : bndP o f = o.bind fun x => f x.1 x.2 := by cases o <;> rfl
end
/-- an answer, forced -/
noncomputable def outR (o : Option R) (τ : Tp) : Option (R × Tp) := @Option.rec R (fun _ => Option (R × Tp)) none (fun r => @R.rec (fun _ => Option (R × Tp)) (fun k d => frcD d fun d => some (⟨k, d⟩, τ)) r) o
theorem outR_eq (o : Option R) (τ : Tp) : outR o τ = o.map fun r => (r, τ) := by
  cases o with
  | none => rfl
  | some r => exact frcD_eq r.d fun d => some ((⟨r.k, d⟩ : R), τ)
noncomputable def retB (b : Bool) (τ : Tp) : Option (R × Tp) := @Bool.rec (fun _ => Option (R × Tp)) (some (⟨.S, .bool false⟩, τ)) (some (⟨.S, .bool true⟩, τ)) b
theorem retB_eq (b : Bool) (τ : Tp) : retB b τ = some (⟨.S, .bool b⟩, τ) := by cases b <;> rfl
noncomputable def outB (o : Option Bool) (τ : Tp) : Option (R × Tp) := @Option.rec Bool (fun _ => Option (R × Tp)) none (fun b => retB b τ) o
theorem outB_eq (o : Option Bool) (τ : Tp) : outB o τ = o.map fun r => (⟨.S, .bool r⟩, τ) := by
  cases o with
  | none => rfl
  | some r => exact retB_eq r τ
noncomputable def retI (z : Int) (τ : Tp) : Option (R × Tp) := @Int.rec (fun _ => Option (R × Tp)) (fun n => @Nat.rec (fun _ => Option (R × Tp)) (some (⟨.S, .int (.ofNat .zero)⟩, τ)) (fun m _ => some (⟨.S, .int (.ofNat (.succ m))⟩, τ)) n) (fun n => @Nat.rec (fun _ => Option (R × Tp)) (some (⟨.S, .int (.negSucc .zero)⟩, τ)) (fun m _ => some (⟨.S, .int (.negSucc (.succ m))⟩, τ)) n) z
theorem retI_eq (z : Int) (τ : Tp) : retI z τ = some (⟨.S, .int z⟩, τ) := by
  cases z with
  | ofNat n => cases n <;> rfl
  | negSucc n => cases n <;> rfl
/-! ### operations -/
noncomputable def addZ (i j : Int) : Int := @Int.rec (fun _ => Int) (fun m => @Int.rec (fun _ => Int) (fun n => .ofNat (Nat.add m n)) (fun n => Int.add (.ofNat m) (.negSucc n)) j) (fun m => Int.add (.negSucc m) j) i
theorem addZ_eq (i j : Int) : addZ i j = i + j := by cases i <;> cases j <;> rfl
noncomputable def mulZ (i j : Int) : Int := @Int.rec (fun _ => Int) (fun m => @Int.rec (fun _ => Int) (fun n => .ofNat (Nat.mul m n)) (fun n => Int.mul (.ofNat m) (.negSucc n)) j) (fun m => Int.mul (.negSucc m) j) i
theorem mulZ_eq (i j : Int) : mulZ i j = i * j := by cases i <;> cases j <;> rfl
noncomputable def absZ (i : Int) : Nat := @Int.rec (fun _ => Nat) (fun m => m) (fun m => .succ m) i
theorem absZ_eq (i : Int) : absZ i = i.natAbs := by cases i <;> rfl
noncomputable def subZ (i j : Int) : Int := @Int.rec (fun _ => Int) (fun m => @Int.rec (fun _ => Int) (fun n => @Bool.rec (fun _ => Int) (Int.negSucc (Nat.sub (Nat.sub n m) 1)) (.ofNat (Nat.sub m n)) (Nat.ble n m)) (fun n => .ofNat (Nat.add m (.succ n))) j) (fun m => Int.sub (.negSucc m) j) i
theorem subZ_eq (i j : Int) : subZ i j = i - j := by
  cases i with
  | negSucc m => rfl
  | ofNat m =>
    cases j with
    | negSucc n => rfl
    | ofNat n =>
      show @Bool.rec (fun _ => Int) (Int.negSucc ((n - m) - 1)) (.ofNat (m - n)) (Nat.ble n m) = (m : Int) - (n : Int)
      cases h : Nat.ble n m with
      | true =>
        have := Nat.le_of_ble_eq_true h
        show ((m - n : Nat) : Int) = _
        omega
      | false =>
        have : ¬ n ≤ m := fun g => by rw [Nat.ble_eq_true_of_le g] at h; cases h
        show Int.negSucc ((n - m) - 1) = _
        omega
noncomputable def ltZ (i j : Int) : Bool := @Int.rec (fun _ => Bool) (fun m => @Int.rec (fun _ => Bool) (fun n => Nat.ble (.succ m) n) (fun _ => false) j) (fun m => @Int.rec (fun _ => Bool) (fun _ => true) (fun n => Nat.ble (.succ n) m) j) i
noncomputable def leZ (i j : Int) : Bool := @Int.rec (fun _ => Bool) (fun m => @Int.rec (fun _ => Bool) (fun n => Nat.ble m n) (fun _ => false) j) (fun m => @Int.rec (fun _ => Bool) (fun _ => true) (fun n => Nat.ble n m) j) i
noncomputable def eqZ (i j : Int) : Bool := @Int.rec (fun _ => Bool) (fun m => @Int.rec (fun _ => Bool) (fun n => Nat.beq m n) (fun _ => false) j) (fun m => @Int.rec (fun _ => Bool) (fun _ => false) (fun n => Nat.beq m n) j) i
theorem ble_dec (m n : Nat) : Nat.ble m n = decide (m ≤ n) := by
  cases h : Nat.ble m n with
  | true => exact (decide_eq_true (Nat.le_of_ble_eq_true h)).symm
  | false => exact (decide_eq_false fun g => by rw [Nat.ble_eq_true_of_le g] at h; cases h).symm
theorem beq_dec (m n : Nat) : Nat.beq m n = decide (m = n) := by
  cases h : Nat.beq m n with
  | true => exact (decide_eq_true (Nat.eq_of_beq_eq_true h)).symm
  | false => exact (decide_eq_false (Nat.ne_of_beq_eq_false h)).symm
theorem ltZ_eq (i j : Int) : ltZ i j = decide (i < j) := by
  cases i <;> cases j
  · show Nat.ble _ _ = _
    rw [ble_dec]
    exact decide_eq_decide.mpr (by rw [Int.ofNat_eq_natCast, Int.ofNat_eq_natCast]; omega)
  · exact (decide_eq_false (by rw [Int.ofNat_eq_natCast]; omega)).symm
  · exact (decide_eq_true (by rw [Int.ofNat_eq_natCast]; omega)).symm
  · show Nat.ble _ _ = _
    rw [ble_dec]
    exact decide_eq_decide.mpr (by omega)
theorem leZ_eq (i j : Int) : leZ i j = decide (i ≤ j) := by
  cases i <;> cases j
  · show Nat.ble _ _ = _
    rw [ble_dec]
    exact decide_eq_decide.mpr (by rw [Int.ofNat_eq_natCast, Int.ofNat_eq_natCast]; omega)
  · exact (decide_eq_false (by rw [Int.ofNat_eq_natCast]; omega)).symm
  · exact (decide_eq_true (by rw [Int.ofNat_eq_natCast]; omega)).symm
  · show Nat.ble _ _ = _
    rw [ble_dec]
    exact decide_eq_decide.mpr (by omega)
theorem eqZ_eq (i j : Int) : eqZ i j = decide (i = j) := by
  cases i <;> cases j
  · show Nat.beq _ _ = _
    rw [beq_dec]
    exact decide_eq_decide.mpr (by rw [Int.ofNat_eq_natCast, Int.ofNat_eq_natCast]; omega)
  · exact (decide_eq_false (by rw [Int.ofNat_eq_natCast]; omega)).symm
  · exact (decide_eq_false (by rw [Int.ofNat_eq_natCast]; omega)).symm
  · show Nat.beq _ _ = _
    rw [beq_dec]
    exact decide_eq_decide.mpr (by omega)
noncomputable def fdivZ (i j : Int) : Int := @Int.rec (fun _ => Int) (fun m => @Int.rec (fun _ => Int) (fun n => .ofNat (Nat.div m n)) (fun n => Int.fdiv (.ofNat m) (.negSucc n)) j) (fun m => Int.fdiv (.negSucc m) j) i
theorem fdivZ_eq (i j : Int) : fdivZ i j = i.fdiv j := by
  cases i with
  | negSucc m => rfl
  | ofNat m =>
    cases j with
    | negSucc n => rfl
    | ofNat n => cases m <;> first | rfl | (show Int.ofNat (0 / n) = 0; simp)
noncomputable def fmodZ (i j : Int) : Int := @Int.rec (fun _ => Int) (fun m => @Int.rec (fun _ => Int) (fun n => .ofNat (Nat.mod m n)) (fun n => Int.fmod (.ofNat m) (.negSucc n)) j) (fun m => Int.fmod (.negSucc m) j) i
theorem fmodZ_eq (i j : Int) : fmodZ i j = i.fmod j := by
  cases i with
  | negSucc m => rfl
  | ofNat m =>
    cases j with
    | negSucc n => rfl
    | ofNat n => cases m <;> first | rfl | (show Int.ofNat (0 % n) = 0; simp)
noncomputable def mulB (i j : Int) : Bool := Nat.ble (.succ (Nat.add (Nat.log2 (absZ i)) (Nat.log2 (absZ j)))) 1000000
theorem mulB_eq (i j : Int) : mulB i j = mulFits i j := by unfold mulB mulFits; rw [ble_dec, absZ_eq, absZ_eq]; rfl
noncomputable def divB (j : Int) : Bool := @Bool.rec (fun _ => Bool) (Nat.ble (.succ (Nat.log2 (absZ j))) 9000) false (Nat.beq (absZ j) 0)
theorem divB_eq (j : Int) : divB j = divFits j := by
  unfold divB divFits
  rw [ble_dec, absZ_eq, beq_dec]
  by_cases h : j = 0
  · subst h; rfl
  · rw [decide_eq_false (show ¬ j.natAbs = 0 by omega), decide_eq_true (show j ≠ 0 from h)]; rfl
noncomputable def ixK (ds : List D) (i : Int) : Option D := match i with
  | .ofNat n => getK ds n
  | .negSucc m => if m < ds.length then getK ds (ds.length - (m + 1)) else none
theorem ixK_eq (ds : List D) (i : Int) : ixK ds i = atD ds i := by
  unfold ixK atD atI ixN
  cases i with
  | ofNat n =>
    simp only [getK_eq, Int.ofNat_eq_natCast, Int.toNat_natCast]
    rw [if_pos (by omega)]
    by_cases h : n < ds.length
    · rw [if_pos (by omega)]
      rfl
    · rw [if_neg (by omega), List.getElem?_eq_none (by omega)]
      rfl
  | negSucc m =>
    simp only [getK_eq]
    rw [if_neg (show ¬ (0 : Int) ≤ Int.negSucc m by omega)]
    by_cases h : m < ds.length
    · rw [if_pos h, if_pos (show -(ds.length : Int) ≤ Int.negSucc m by omega)]
      simp only [Option.bind_some]
      congr 1
      omega
    · rw [if_neg h, if_neg (show ¬ -(ds.length : Int) ≤ Int.negSucc m by omega)]
      rfl
end Ev

/-! ## Ev14 -/
namespace Ev
open PySem PySem.Spec PyProof.Rows L2

/-! ### the law's begin -/
abbrev rInt1 : List V → Hp → VK → Prop := fun xs H Q => (∃ i, xs = [.int i] ∧ Q (.int i) H) ∨ ∃ k, xs = [.bl k] ∧ Q (.int (if k then 1 else 0)) H
abbrev rModN : R2 := rI (fun _ j => j ≠ 0) fun i j => .int (i.fmod j)
def tBegin (K : PySem.W.Frag) : TS :=
  tSeq (tAsg (tC (.int 1)) (gName 1))
  (tSeq (tFor (iList K (tVar 0)) (gName 2) (tAsg (tOp rModN (tOp (rI0 fun i j => .int (i + j)) (tOp (rI0 fun i j => .int (i + j)) (tOp (rI CMul fun i j => .int (i * j)) (tVar 1) (tC (.int 69621))) (tOp rModN (tCB rInt1 (tCons (tVar 2) tNil)) (tC (.int 2147483629)))) (tC (.int 7))) (tC (.int 2147483647))) (gName 1)))
  (tRet (tLst (tCons (tCB (fun xs H Q => ∃ p ys, xs = [.ref p] ∧ (SqL K H p ys ∨ SqT K H p ys) ∧ ∀ l, H l = none → Q (.ref l) (upd H l (.lst ys))) (tCons (tVar 0) tNil)) (tCons (tC (.int 0)) (tCons (tC (.int 0)) (tCons (tVar 1) tNil)))))))
def spBegin (K : PySem.W.Frag) : Sp := fun vs H Q _ => ∃ (a : Addr) (ns : List Int), vs = [.ref a] ∧ SqL K H a (ns.map V.int) ∧ ns.length ≤ 63 ∧
  ∀ H' p b seed, Same H H' → p ≠ b → H' b = some (.lst (ns.map V.int)) → H' p = some (.lst [.ref b, .int 0, .int 0, .int seed]) → Q (.ref p) H'
theorem begin_run {K : PySem.W.Frag} {vs : List V} {H : Hp} {Q : VK} {E : XK} {D : Ends} (hD : D.rt = Q) (h : spBegin K vs H Q E) : tBegin K D (L2.start ["script", "seed", "cell"] vs) H := by
  obtain ⟨a, ns, rfl, hS, hl, hQ⟩ := h
  subst hD
  refine ⟨.ref a, rfl, a, rfl, ⟨_, hS⟩, ?_⟩
  refine for_list (xs := ns.map V.int) (fun i σ H' => H' = H ∧ ∃ (sd : Int) (c : Option V), σ = [some (.ref a), some (.int sd), c]) ⟨rfl, 1, none, rfl⟩ (fun i σ H' _ h => by obtain ⟨rfl, _⟩ := h; exact hS) (fun i x σ H' hx h => ?_) (fun σ H' h => ?_)
  · obtain ⟨rfl, sd, c, rfl⟩ := h
    rw [List.getElem?_map] at hx
    obtain ⟨n, _, rfl⟩ := Option.map_eq_some_iff.mp hx
    exact ⟨_, rfl, _, _, rfl, rfl, .inr ⟨by decide, by decide⟩, _, rfl, .inl ⟨n, rfl, _, _, rfl, rfl, (by show (2147483629 : Int) ≠ 0; decide), _, _, rfl, rfl, _, _, rfl, rfl, _, _, rfl, rfl, (by show (2147483647 : Int) ≠ 0; decide), rfl, _, _, rfl⟩⟩
  · obtain ⟨rfl, sd, c, rfl⟩ := h
    refine ⟨_, rfl, a, _, rfl, .inl hS, fun b nb => ⟨_, rfl, ?_⟩⟩
    refine ⟨Nat.le_trans (show 4 ≤ 63 by decide) (Nat.le_of_lt (small1000 (by decide))), fun p np => ?_⟩
    have nbp : b ≠ p := fun z => by rw [← z, upd_same] at np; cases np
    refine hQ _ p b sd ?_ nbp.symm ?_ upd_same
    · exact (same_upd nb).trans (same_upd np)
    · rw [upd_ne nbp]; exact upd_same

/-! ### the table of defs -/
def Φof (φs : List (List D → Option R)) (n : Nat) : List D → Option R := match φs[n]? with
  | some φ => φ
  | none => fun _ => none
def Ψof (ψs : List (List D → Tp → Option (R × Tp))) (n : Nat) : List D → Tp → Option (R × Tp) := match ψs[n]? with
  | some ψ => ψ
  | none => fun _ _ => none
/-- a def by running its code -/
noncomputable def runF (Φ : Nat → List D → Option R) (M N n : Nat) (code : List S) : List D → Option R := fun ds =>
  if ds.length = n then (evSs Φ (Ψof []) M (start0 N ds) τ0 code).bind retOf else none
section
variable {P : Program} {w : World} {K : PySem.W.Frag} {mg : Str → Option Value} {base : Heap} {k : Nat}
def FOk (P : Program) (w : World) (K : PySem.W.Frag) (mg : Str → Option Value) (base : Heap) (k : Nat) (x : Str) (φ : List D → Option R) : Prop := ∃ f fd ps, FnOk P w K mg base CX0 k f fd ps (spP K φ) ∧ mg x = some (.ref f) ∧ PySem.W.keepIn K (.ref f) = true ∧ Binds K fd ps []
def TOk (P : Program) (w : World) (K : PySem.W.Frag) (mg : Str → Option Value) (base : Heap) (k : Nat) (x : Str) (ψ : List D → Tp → Option (R × Tp)) : Prop := (∀ ds τ r τ', ψ ds τ = some (r, τ') → τ'.cells = τ.cells) ∧ ∃ f fd ps, FnOk P w K mg base CX0 k f fd ps (spT K ψ) ∧ mg x = some (.ref f) ∧ PySem.W.keepIn K (.ref f) = true ∧ Binds K fd ps []
theorem FOk.mono {j : Nat} {x : Str} {φ : List D → Option R} (h : FOk P w K mg base j x φ) (hj : j ≤ k) : FOk P w K mg base k x φ := let ⟨f, fd, ps, F, r⟩ := h; ⟨f, fd, ps, F.mono hj, r⟩
theorem TOk.mono {j : Nat} {x : Str} {φ : List D → Tp → Option (R × Tp)} (h : TOk P w K mg base j x φ) (hj : j ≤ k) : TOk P w K mg base k x φ := let ⟨c, f, fd, ps, F, r⟩ := h; ⟨c, f, fd, ps, F.mono hj, r⟩
theorem fns_nil : Paired (FOk P w K mg base k) [] [] := .nil
theorem fns_get {xs : List Str} {φs : List (List D → Option R)} (h : Paired (FOk P w K mg base k) xs φs) (n : Nat) (x : Str) (e : xs[n]? = some x) : FOk P w K mg base k x (Φof φs n) := by
  induction h generalizing n with
  | nil => simp at e
  | cons r t ih =>
    cases n with
    | zero => simp at e; subst e; exact r
    | succ n => exact ih n (by simpa using e)
theorem fts_get {xs : List Str} {φs : List (List D → Tp → Option (R × Tp))} (h : Paired (TOk P w K mg base k) xs φs) (n : Nat) (x : Str) (e : xs[n]? = some x) : TOk P w K mg base k x (Ψof φs n) := by
  induction h generalizing n with
  | nil => simp at e
  | cons r t ih =>
    cases n with
    | zero => simp at e; subst e; exact r
    | succ n => exact ih n (by simpa using e)
theorem fns_mono {j : Nat} {xs : List Str} {φs : List (List D → Option R)} (h : Paired (FOk P w K mg base j) xs φs) (hj : j ≤ k) : Paired (FOk P w K mg base k) xs φs := Paired.mapP h fun _ _ q => q.mono hj
theorem fns_snoc {xs : List Str} {φs : List (List D → Option R)} {x : Str} {φ : List D → Option R} (h : Paired (FOk P w K mg base k) xs φs) (q : FOk P w K mg base k x φ) : Paired (FOk P w K mg base k) (xs ++ [x]) (φs ++ [φ]) := by
  induction h with
  | nil => exact .cons q .nil
  | cons r t ih => exact .cons r ih
theorem env_mk {c : Cc} {φs : List (List D → Option R)} {ψs : List (List D → Tp → Option (R × Tp))} (hc : ∀ x d, c.cs.lookup x = some d → ∃ v u, mg x = some u ∧ RelV v u ∧ ∀ H, Rp K H v d) (hb : ∀ x, c.bl.contains x = true → mg x = none) (hf : Paired (FOk P w K mg base k) c.fs φs) (ht : Paired (TOk P w K mg base k) c.ft ψs) :
    Env1 P w K mg base k c (Φof φs) (Ψof ψs) := ⟨hc, hb, fns_get hf, fts_get ht⟩
/-- a def whose code is run -/
theorem run_ok {c : Cc} {φs : List (List D → Option R)} {x y qual : Str} {st : Stmt} {f : Addr} {fd : FuncData} {ps : List Str} {code : List S} {fuel M : Nat}
    (V : Env1 P w K mg base k c (Φof φs) (Ψof [])) (F : Fun K x qual st f fd) (hm : mg y = some (.ref f)) (hbd : Binds K fd ps []) (hS : FnScope c.N ps c.sc) (hsc : c.sc = defScope st) (hc : compSs fuel c (defBody st) = some code) (hp : ps.length ≤ c.N.length) :
    FOk P w K mg base (k + 1) y (runF (Φof φs) M c.N.length ps.length code) := by
  refine ⟨f, fd, ps, fn_ev V F hS hsc hc hp fun ds r h => ?_, hm, F.kp, hbd⟩
  unfold runF at h
  split at h
  · rename_i hl
    obtain ⟨o, he, h⟩ := bind_some h
    exact ⟨hl, M, o, he, h⟩
  · cases h
/-- a def by a function of one's own -/
theorem own_ok {c : Cc} {φs : List (List D → Option R)} {x y qual : Str} {st : Stmt} {f : Addr} {fd : FuncData} {ps : List Str} {code : List S} {fuel : Nat} (φ : List D → Option R)
    (V : Env1 P w K mg base k c (Φof φs) (Ψof [])) (F : Fun K x qual st f fd) (hm : mg y = some (.ref f)) (hbd : Binds K fd ps []) (hS : FnScope c.N ps c.sc) (hsc : c.sc = defScope st) (hc : compSs fuel c (defBody st) = some code) (hp : ps.length ≤ c.N.length)
    (hφ : ∀ ds r, φ ds = some r → ds.length = ps.length ∧ ∃ M o, evSs (Φof φs) (Ψof []) M (start0 c.N.length ds) τ0 code = some o ∧ retOf o = some r) : FOk P w K mg base (k + 1) y φ :=
  ⟨f, fd, ps, fn_ev V F hS hsc hc hp hφ, hm, F.kp, hbd⟩

theorem con_all {cs : List (Str × D)} (h : ∀ p ∈ cs, ∃ v u, mg p.1 = some u ∧ RelV v u ∧ ∀ H, Rp K H v p.2) : ∀ x d, cs.lookup x = some d → ∃ v u, mg x = some u ∧ RelV v u ∧ ∀ H, Rp K H v d := by
  intro x d
  induction cs with
  | nil => intro e; cases e
  | cons p r ih =>
    intro e
    rw [List.lookup_cons] at e
    cases hb : x == p.1 with
    | true =>
      rw [hb] at e
      cases e
      have e1 : x = p.1 := by simpa using hb
      rw [e1]
      exact h p List.mem_cons_self
    | false =>
      rw [hb] at e
      exact ih (fun q hq => h q (List.mem_cons_of_mem _ hq)) e
theorem con_tup {x : Str} {a : Addr} {o1 : Option Addr} {o2 : Array (Option Value)} {its : Array Value} {n : Nat} {ns : List Int} (hm : mg x = some (.ref a)) (hl : K.lookup a = some ⟨.type "tuple", o1, .seq its n, o2⟩) (hz : its.size ≤ sizeLine) (hv : Vals (ns.map V.int) its.toList) :
    ∃ v u, mg x = some u ∧ RelV v u ∧ ∀ H, Rp K H v (.tuple (ns.map PyData.int)) := by
  refine ⟨.ref a, _, hm, rfl, fun H => ⟨a, ns.map V.int, rfl, .inr ⟨_, its, n, hl, rfl, rfl, hz, hv⟩, ?_⟩⟩
  clear hv
  induction ns with
  | nil => exact rfl
  | cons i ns ih => exact ⟨_, _, rfl, rfl, ih⟩

/-! ### the law -/
def spLaw (K : PySem.W.Frag) : Sp := fun vs H Q _ => ∃ (a : Addr) (ns : List Int), vs = [.ref a] ∧ SqL K H a (ns.map V.int) ∧ ns.length ≤ 63 ∧ ∀ H', Q (.bl true) H'
theorem PSs.ex {X : Cx} {ι : Type} {st : List Stmt} {t : ι → TS} (h : ∀ i, PSs X st (t i)) : PSs X st (fun D σ H => ∃ i, t i D σ H) := ⟨fun pins s σ H D I ⟨i, q⟩ => (h i).run pins s σ H D I q⟩
theorem tape_rel {H' : Hp} {a p b : Addr} {ns : List Int} {seed : Int} {n : Nat} (hb : H' b = some (.lst (ns.map V.int))) (hp : H' p = some (.lst [.ref b, .int 0, .int 0, .int seed])) (nb : p ≠ b) :
    Rel K ⟨some p, b⟩ (.un :: .tp :: List.replicate n .un) (del H' p) (some (.ref a) :: some (.ref p) :: List.replicate n none) H' ∧ TpOk K ⟨some p, b⟩ (del H' p) H' ⟨ns, 0, 0, seed⟩ := by
  have no : ∀ (i : Nat) (di : List D), (Sl.un :: Sl.tp :: List.replicate n Sl.un)[i]? = some (.ow di) → False := fun i di e => by
    match i, e with
    | 0, e => simp at e
    | 1, e => simp at e
    | i + 2, e =>
      simp only [List.getElem?_cons_succ, List.getElem?_replicate] at e
      split at e <;> cases e
  refine ⟨⟨by simp, del_sub, fun i s e => ?_, fun i j di dj q e1 e2 e3 e4 => (no i di e1).elim⟩, fun q e => ?_⟩
  · match i, e with
    | 0, e => simp at e; subst e; trivial
    | 1, e => simp at e; subst e; exact ⟨p, rfl, rfl⟩
    | i + 2, e =>
      simp only [List.getElem?_cons_succ, List.getElem?_replicate] at e
      split at e
      · cases e; trivial
      · cases e
  · cases e
    exact ⟨del_same, hp, .inl (.inl (by rw [del_ne nb.symm]; exact hb))⟩
theorem law_ev {c : Cc} {Φ : Nat → List D → Option R} {Ψ : Nat → List D → Tp → Option (R × Tp)} {st : Stmt} {f fB : Addr} {fd fdB : FuncData} {rest : List Stmt} {code : List S} {fuel : Nat} {p1 p2 p3 p4 p5 : Pos} {N0 : List Str}
    (V : Env1 P w K mg base k c Φ Ψ) (F : Fun K "law" "law" st f fd) (hS : FnScope c.N ["script"] c.sc) (hsc : c.sc = defScope st) (hN : c.N = ("script" : Str) :: ("d" : Str) :: N0) (hloc : c.sc.names.lookup ("d" : Str) = some .local ∨ c.sc.names.lookup ("d" : Str) = some .cell) (hscr : Vis c.sc "script") (hgl : c.sc.names.lookup ("_law_begin" : Str) = some .globalImplicit)
    (GB : FnOk P w K mg base CX0 k fB fdB ["script"] (spBegin K)) (mB : mg "_law_begin" = some (.ref fB)) (kB : PySem.W.keepIn K (.ref fB) = true) (bB : Binds K fdB ["script"] [])
    (hbody : defBody st = .Assign [.Name "d" p1] (.Call (.Name "_law_begin" p2) [.Name "script" p3] [] p4) p5 :: rest) (hc : compSs fuel c rest = some code)
    (hlaw : ∀ ns seed, ∃ M τ', evSs Φ Ψ M (.un :: .tp :: List.replicate N0.length .un) ⟨ns, 0, 0, seed⟩ code = some (.rt ⟨.S, .bool true⟩ τ')) : FnOk P w K mg base CX0 (k + 1) f fd ["script"] (spLaw K) := by
  refine F.ok (N := c.N) (by rw [← hsc]; exact hS) (fun vs H Q E h => ?_) (fun cdv A outer s H vs Q E hr h => ?_)
  · obtain ⟨a, ns, rfl, _⟩ := h
    rfl
  · obtain ⟨a, ns, rfl, hs, hl, hQ⟩ := h
    rw [← hsc] at hr ⊢
    have C := V.cx hS hr (outer := outer) (E := E) (H := H)
    rw [hbody]
    refine ⟨_, pss_cons (ps_set (i := 1) hS.nd (by show c.N[1]? = _; rw [hN]; rfl) hloc (pe_call (dvs := []) GB hr hgl mB kB bB .nil (pass0 (X := _)) (pa_cons (pe_var (i := 0) (by show c.N[0]? = _; rw [hN]; rfl) hscr) pa_nil))) (PSs.ex (ι := Ta × Nat) fun i => (comp_ok (ta := i.1) (M := i.2) C (fun _ => rfl) fuel).2 _ _ hc), ?_⟩
    refine ⟨.ref a, by rw [hN]; rfl, a, ns, rfl, hs, hl, fun H' p b seed s1 npb hb hp => ?_⟩
    obtain ⟨M, τ', hev⟩ := hlaw ns seed
    obtain ⟨r1, r2⟩ := tape_rel (K := K) (a := a) (n := N0.length) hb hp npb
    refine ⟨(⟨some p, b⟩, M), del H' p, _, _, _, ?_, r2, hev, ?_⟩
    · rw [hN]
      exact r1
    · intro v H2 S2 _ _ _ hv
      have hv' : v = .bl true := hv
      subst hv'
      exact hQ H2
end
end Ev

/-! ## Ev15 -/
namespace Ev
open PySem PySem.Spec PyProof.Rows L2
/-- a number drawn from the tape, with a number added -/
theorem draw_add {Φ : Nat → List D → Option R} {M : Nat} {ρ : Rho} {τ : Tp} {j : Nat} {c m : Int} (h : ρ[1]? = some .tp) (h0 : 0 < m) (h1 : m < 1073741824) :
    evS Φ (Ψof [takeF]) M ρ τ (.set (.nm j) (.bin .add (.cst (.int c)) (.callT 0 1 [.cst (.int m)]))) = some (.nx (ρ.set j (.im (.int (c + (takeM τ m).1)))) (takeM τ m).2) := by
  simp [evS, ev, evs, Ψof, takeF, clean, binD, putTg, putR, noList, h, h0, h1]
theorem draw {Φ : Nat → List D → Option R} {M : Nat} {ρ : Rho} {τ : Tp} {j : Nat} {m : Int} (h : ρ[1]? = some .tp) (h0 : 0 < m) (h1 : m < 1073741824) :
    evS Φ (Ψof [takeF]) M ρ τ (.set (.nm j) (.callT 0 1 [.cst (.int m)])) = some (.nx (ρ.set j (.im (.int (takeM τ m).1))) (takeM τ m).2) := by
  simp [evS, ev, evs, Ψof, takeF, clean, putTg, putR, noList, h, h0, h1]
theorem evSs_cons {Φ : Nat → List D → Option R} {Ψ : Nat → List D → Tp → Option (R × Tp)} {M : Nat} {ρ ρ1 : Rho} {τ τ1 : Tp} {s : S} {ss : List S} (h : evS Φ Ψ M ρ τ s = some (.nx ρ1 τ1)) : evSs Φ Ψ M ρ τ (s :: ss) = evSs Φ Ψ M ρ1 τ1 ss := by
  rw [evSs, h]; rfl
/-- it ends in True -/
def okTrue : Option Out → Bool
  | some (.rt ⟨.S, .bool true⟩ _) => true
  | _ => false
theorem okTrue_of {o : Option Out} (h : okTrue o = true) : ∃ τ, o = some (.rt ⟨.S, .bool true⟩ τ) := by
  unfold okTrue at h
  split at h
  · exact ⟨_, rfl⟩
  · cases h
end Ev

/-! ## Ev16 -/
namespace Ev
open PySem PySem.Spec PyProof.Rows L2
/-- slots 2 and 3 as they are left, and the tape -/
noncomputable def outG (len : Nat) (o : Option Out) : Bool × Sl × Sl × Tp := match o with
  | some (.nx (.un :: .tp :: a :: b :: r) τ) => (Nat.beq r.length len, a, b, τ)
  | _ => (false, .un, .un, τ0)
theorem outG_of {a b : Sl} {len : Nat} {o : Option Out} {τ : Tp} (h : outG len o = (true, a, b, τ)) : ∃ r : Rho, r.length = len ∧ o = some (.nx (.un :: .tp :: a :: b :: r) τ) := by
  unfold outG at h
  split at h
  · rename_i a' b' r τ'
    have h1 : Nat.beq r.length len = true := congrArg Prod.fst h
    have h2 : a' = a := congrArg (fun x => x.2.1) h
    have h3 : b' = b := congrArg (fun x => x.2.2.1) h
    have h4 : τ' = τ := congrArg (fun x => x.2.2.2) h
    subst h2 h3 h4
    exact ⟨r, Nat.eq_of_beq_eq_true h1, rfl⟩
  · have := congrArg Prod.fst h
    cases this
theorem len14 {r : Rho} (h : r.length = 14) : ∃ s4 s5 s6 s7 s8 s9 s10 s11 s12 s13 s14 s15 s16 s17, r = [s4, s5, s6, s7, s8, s9, s10, s11, s12, s13, s14, s15, s16, s17] := by
  match r, h with
  | [s4, s5, s6, s7, s8, s9, s10, s11, s12, s13, s14, s15, s16, s17], _ => exact ⟨_, _, _, _, _, _, _, _, _, _, _, _, _, _, rfl⟩
theorem evSs_app {Φ : Nat → List D → Option R} {Ψ : Nat → List D → Tp → Option (R × Tp)} {M : Nat} : ∀ {xs ys : List S} {ρ ρ1 : Rho} {τ τ1 : Tp}, evSs Φ Ψ M ρ τ xs = some (.nx ρ1 τ1) → evSs Φ Ψ M ρ τ (xs ++ ys) = evSs Φ Ψ M ρ1 τ1 ys
  | [], ys, ρ, ρ1, τ, τ1, h => by
    rw [evSs] at h
    cases h
    rfl
  | s :: xs, ys, ρ, ρ1, τ, τ1, h => by
    rw [evSs] at h
    rw [List.cons_append, evSs]
    cases q : evS Φ Ψ M ρ τ s with
    | none => rw [q] at h; cases h
    | some o =>
      rw [q] at h
      cases o with
      | nx ρ2 τ2 => exact evSs_app h
      | ct _ _ => cases h
      | bk _ _ => cases h
      | rt _ _ => cases h
end Ev

/-! ## Nx1 -/
/-! native forms of codes: pieces that the kernel runs fast, with the rules that tie them to the evaluator -/
namespace Nx
open PySem PySem.Spec PyProof.Rows L2 Ev
/-! ### tests -/
noncomputable def andB (a b : Bool) : Bool := @Bool.rec (fun _ => Bool) false b a
noncomputable def notB (a : Bool) : Bool := @Bool.rec (fun _ => Bool) true false a
theorem andB_l {a b : Bool} (h : andB a b = true) : a = true := by cases a <;> first | rfl | cases h
theorem andB_r {a b : Bool} (h : andB a b = true) : b = true := by cases a <;> first | exact h | cases h
theorem andB_eq (a b : Bool) : andB a b = (a && b) := by cases a <;> rfl
theorem notB_eq (a : Bool) : notB a = !a := by cases a <;> rfl
theorem selT {t a b : Bool} (h : iteB t a b = true) (ht : t = true) : a = true := by subst ht; exact h
theorem selF {t a b : Bool} (h : iteB t a b = true) (ht : t = false) : b = true := by subst ht; exact h
noncomputable def isSomeB {α : Type} (o : Option α) : Bool := @Option.rec α (fun _ => Bool) false (fun _ => true) o
noncomputable def getO {α : Type} (z : α) (o : Option α) : α := @Option.rec α (fun _ => α) z (fun x => x) o
theorem isSome_eq {α : Type} {o : Option α} {z : α} (h : isSomeB o = true) : o = some (getO z o) := by cases o <;> first | rfl | cases h
noncomputable def bndO {α β : Type} (o : Option α) (f : α → Option β) : Option β := @Option.rec α (fun _ => Option β) none f o
/-- factors that fit; log2 is slow in the kernel -/
noncomputable def mulQ (i j : Int) : Bool := iteB (Nat.ble (absZ i) 1000000000000000000000000000000) (iteB (Nat.ble (absZ j) 1000000000000000000000000000000) true (mulB i j)) (mulB i j)
theorem mulB_small {i j : Int} (h1 : i.natAbs ≤ 1000000000000000000000000000000) (h2 : j.natAbs ≤ 1000000000000000000000000000000) : mulB i j = true := by
  rw [mulB_eq]
  unfold mulFits
  have l : ∀ n : Nat, n ≤ 1000000000000000000000000000000 → n.log2 < 200 := fun n hn => by
    by_cases h : n = 0
    · subst h; decide
    · exact (Nat.log2_lt h).mpr (Nat.lt_of_le_of_lt hn (by decide))
  have a1 := l _ h1
  have a2 := l _ h2
  exact decide_eq_true (by omega)
theorem mulQ_eq {i j : Int} (h : mulQ i j = true) : mulB i j = true := by
  unfold mulQ at h
  cases h1 : Nat.ble (absZ i) 1000000000000000000000000000000 with
  | false => rw [h1] at h; exact h
  | true =>
    rw [h1] at h
    cases h2 : Nat.ble (absZ j) 1000000000000000000000000000000 with
    | false => rw [h2] at h; exact h
    | true =>
      have a1 := Nat.le_of_ble_eq_true h1
      have a2 := Nat.le_of_ble_eq_true h2
      rw [absZ_eq] at a1 a2
      exact mulB_small a1 a2
noncomputable def divQ (j : Int) : Bool := iteB (eqZ j 0) false (iteB (Nat.ble (absZ j) 1000000000000000000000000000000) true (divB j))
theorem divQ_eq {j : Int} (h : divQ j = true) : divB j = true := by
  unfold divQ at h
  rw [eqZ_eq] at h
  by_cases h0 : j = 0
  · rw [decide_eq_true h0] at h; cases h
  · rw [decide_eq_false h0] at h
    cases h1 : Nat.ble (absZ j) 1000000000000000000000000000000 with
    | false =>
      have h' : iteB (Nat.ble (absZ j) 1000000000000000000000000000000) true (divB j) = true := h
      rw [h1] at h'; exact h'
    | true =>
      have a1 := Nat.le_of_ble_eq_true h1
      rw [absZ_eq] at a1
      rw [divB_eq]
      unfold divFits
      have : j.natAbs.log2 < 9000 := by
        have := (Nat.log2_lt (n := j.natAbs) (k := 200) (by omega)).mpr (Nat.lt_of_le_of_lt a1 (by decide))
        omega
      rw [decide_eq_true this, decide_eq_true (show j ≠ 0 from h0)]; rfl
/-! ### data -/
noncomputable def isI (d : D) : Bool := dInt d false fun _ => true
noncomputable def asI (d : D) : Int := dInt d 0 fun i => i
theorem isI_eq {d : D} (h : isI d = true) : d = .int (asI d) := by cases d <;> first | rfl | cases h
noncomputable def isB (d : D) : Bool := dBool d false fun _ => true
noncomputable def asB (d : D) : Bool := dBool d false fun i => i
theorem isB_eq {d : D} (h : isB d = true) : d = .bool (asB d) := by cases d <;> first | rfl | cases h
noncomputable def dTup {β : Type} (d : D) (g : β) (f : List D → β) : β := @PyData.rec (fun _ => β) (fun _ => PUnit) (fun _ => PUnit) (fun _ => PUnit) g (fun _ => g) (fun _ => g) (fun _ => g) (fun _ _ => g) (fun l _ => f l) (fun _ _ => g) ⟨⟩ (fun _ _ _ _ => ⟨⟩) ⟨⟩ (fun _ _ _ _ => ⟨⟩) (fun _ _ _ _ => ⟨⟩) d
noncomputable def dLst {β : Type} (d : D) (g : β) (f : List D → β) : β := @PyData.rec (fun _ => β) (fun _ => PUnit) (fun _ => PUnit) (fun _ => PUnit) g (fun _ => g) (fun _ => g) (fun _ => g) (fun l _ => f l) (fun _ _ => g) (fun _ _ => g) ⟨⟩ (fun _ _ _ _ => ⟨⟩) ⟨⟩ (fun _ _ _ _ => ⟨⟩) (fun _ _ _ _ => ⟨⟩) d
noncomputable def isT (d : D) : Bool := dTup d false fun _ => true
noncomputable def asT (d : D) : List D := dTup d [] fun l => l
theorem isT_eq {d : D} (h : isT d = true) : d = .tuple (asT d) := by cases d <;> first | rfl | cases h
noncomputable def isL (d : D) : Bool := dLst d false fun _ => true
noncomputable def asL (d : D) : List D := dLst d [] fun l => l
theorem isL_eq {d : D} (h : isL d = true) : d = .list (asL d) := by cases d <;> first | rfl | cases h
noncomputable def isNn (d : D) : Bool := @PyData.rec (fun _ => Bool) (fun _ => PUnit) (fun _ => PUnit) (fun _ => PUnit) true (fun _ => false) (fun _ => false) (fun _ => false) (fun _ _ => false) (fun _ _ => false) (fun _ _ => false) ⟨⟩ (fun _ _ _ _ => ⟨⟩) ⟨⟩ (fun _ _ _ _ => ⟨⟩) (fun _ _ _ _ => ⟨⟩) d
theorem isNn_eq (d : D) : isNn d = nonD d := by cases d <;> rfl
/-- a datum, forced through and through -/
noncomputable def frcDD {β : Type} (d : D) : (D → β) → β := @PyData.rec (fun _ => (D → β) → β) (fun _ => (List D → β) → β) (fun _ => PUnit) (fun _ => PUnit) (fun f => f .none) (fun b f => @Bool.rec (fun _ => β) (f (.bool false)) (f (.bool true)) b) (fun i f => frcI i fun i => f (.int i)) (fun x f => f (.str x)) (fun _ ih f => ih fun l => f (.list l)) (fun _ ih f => ih fun l => f (.tuple l)) (fun l _ f => f (.dict l)) (fun f => f []) (fun _ _ ih1 ih2 f => ih1 fun d => ih2 fun l => f (d :: l)) ⟨⟩ (fun _ _ _ _ => ⟨⟩) (fun _ _ _ _ => ⟨⟩) d
noncomputable def frcLL {β : Type} (l : List D) : (List D → β) → β := @List.rec D (fun _ => (List D → β) → β) (fun f => f []) (fun a _ ih f => frcDD a fun a => ih fun r => f (a :: r)) l
mutual
theorem frcDD_eq {β : Type} : ∀ (d : D) (f : D → β), frcDD d f = f d
  | .none, f => rfl
  | .bool b, f => by cases b <;> rfl
  | .int i, f => frcI_eq i fun i => f (.int i)
  | .str x, f => rfl
  | .list l, f => frcLL_eq' l fun l => f (.list l)
  | .tuple l, f => frcLL_eq' l fun l => f (.tuple l)
  | .dict l, f => rfl
theorem frcLL_eq' {β : Type} : ∀ (l : List D) (f : List D → β), @PyData.rec_1 (fun _ => (D → β) → β) (fun _ => (List D → β) → β) (fun _ => PUnit) (fun _ => PUnit) (fun f => f .none) (fun b f => @Bool.rec (fun _ => β) (f (.bool false)) (f (.bool true)) b) (fun i f => frcI i fun i => f (.int i)) (fun x f => f (.str x)) (fun _ ih f => ih fun l => f (.list l)) (fun _ ih f => ih fun l => f (.tuple l)) (fun l _ f => f (.dict l)) (fun f => f []) (fun _ _ ih1 ih2 f => ih1 fun d => ih2 fun l => f (d :: l)) ⟨⟩ (fun _ _ _ _ => ⟨⟩) (fun _ _ _ _ => ⟨⟩) l f = f l
  | [], f => rfl
  | d :: l, f => by
    show frcDD d _ = _
    rw [frcDD_eq d]
    exact frcLL_eq' l fun l => f (d :: l)
end
theorem frcLL_eq {β : Type} : ∀ (l : List D) (f : List D → β), frcLL l f = f l
  | [], f => rfl
  | d :: l, f => by
    show frcDD d _ = _
    rw [frcDD_eq d]
    exact frcLL_eq l fun l => f (d :: l)
/-- no list within, fast -/
noncomputable def nlK (d : D) : Bool := @PyData.rec (fun _ => Bool) (fun _ => Bool) (fun _ => PUnit) (fun _ => PUnit) true (fun _ => true) (fun _ => true) (fun _ => true) (fun _ _ => false) (fun _ ih => ih) (fun _ _ => false) true (fun _ _ a b => @Bool.rec (fun _ => Bool) false b a) ⟨⟩ (fun _ _ _ _ => ⟨⟩) (fun _ _ _ _ => ⟨⟩) d
noncomputable def nlL (l : List D) : Bool := @List.rec D (fun _ => Bool) true (fun a _ ih => @Bool.rec (fun _ => Bool) false ih (nlK a)) l
mutual
theorem nlK_of : ∀ d : D, nlK d = true → noList d = true
  | .none, _ => rfl
  | .bool _, _ => rfl
  | .int _, _ => rfl
  | .str _, _ => rfl
  | .list _, h => by cases h
  | .tuple l, h => nlK_of' l h
  | .dict _, h => by cases h
theorem nlK_of' : ∀ l : List D, @PyData.rec_1 (fun _ => Bool) (fun _ => Bool) (fun _ => PUnit) (fun _ => PUnit) true (fun _ => true) (fun _ => true) (fun _ => true) (fun _ _ => false) (fun _ ih => ih) (fun _ _ => false) true (fun _ _ a b => @Bool.rec (fun _ => Bool) false b a) ⟨⟩ (fun _ _ _ _ => ⟨⟩) (fun _ _ _ _ => ⟨⟩) l = true → noListAll l = true
  | [], _ => rfl
  | d :: l, h => by
    have h' : @Bool.rec (fun _ => Bool) false _ (nlK d) = true := h
    cases hd : nlK d with
    | false => rw [hd] at h'; cases h'
    | true =>
      rw [hd] at h'
      show (noList d && noListAll l) = true
      rw [nlK_of d hd, nlK_of' l h']
      rfl
end
theorem nlL_of : ∀ l : List D, nlL l = true → noListAll l = true
  | [], _ => rfl
  | d :: l, h => by
    have h' : @Bool.rec (fun _ => Bool) false (nlL l) (nlK d) = true := h
    cases hd : nlK d with
    | false => rw [hd] at h'; cases h'
    | true =>
      rw [hd] at h'
      show (noList d && noListAll l) = true
      rw [nlK_of d hd, nlL_of l h']
      rfl
/-- shaped, by depth -/
noncomputable def shK (d : D) : Nat → Bool := @PyData.rec (fun _ => Nat → Bool) (fun _ => Nat → Bool) (fun _ => PUnit) (fun _ => PUnit) (fun _ => true) (fun _ _ => true) (fun _ _ => true) (fun x _ => PyData.canLay0 (.str x)) (fun _ ih n => @Nat.rec (fun _ => Bool) false (fun n _ => ih n) n) (fun _ ih n => @Nat.rec (fun _ => Bool) false (fun n _ => ih n) n) (fun _ _ _ => false) (fun _ => true) (fun _ _ a b n => @Bool.rec (fun _ => Bool) false (b n) (a n)) ⟨⟩ (fun _ _ _ _ => ⟨⟩) (fun _ _ _ _ => ⟨⟩) d
mutual
theorem shK_of : ∀ (d : D) (n : Nat), shK d n = true → PyData.canLay0 d = true ∧ PyData.depth d ≤ n
  | .none, _, _ => by simp [PyData.canLay0, PyData.depth]
  | .bool _, _, _ => by simp [PyData.canLay0, PyData.depth]
  | .int _, _, _ => by simp [PyData.canLay0, PyData.depth]
  | .str x, n, h => ⟨h, by simp [PyData.depth]⟩
  | .list l, 0, h => by cases h
  | .list l, n + 1, h => by
    have := shK_of' l n h
    simp only [PyData.canLay0, PyData.depth]
    exact ⟨this.1, by omega⟩
  | .tuple l, 0, h => by cases h
  | .tuple l, n + 1, h => by
    have := shK_of' l n h
    simp only [PyData.canLay0, PyData.depth]
    exact ⟨this.1, by omega⟩
  | .dict _, _, h => by cases h
theorem shK_of' : ∀ (l : List D) (n : Nat), @PyData.rec_1 (fun _ => Nat → Bool) (fun _ => Nat → Bool) (fun _ => PUnit) (fun _ => PUnit) (fun _ => true) (fun _ _ => true) (fun _ _ => true) (fun x _ => PyData.canLay0 (.str x)) (fun _ ih n => @Nat.rec (fun _ => Bool) false (fun n _ => ih n) n) (fun _ ih n => @Nat.rec (fun _ => Bool) false (fun n _ => ih n) n) (fun _ _ _ => false) (fun _ => true) (fun _ _ a b n => @Bool.rec (fun _ => Bool) false (b n) (a n)) ⟨⟩ (fun _ _ _ _ => ⟨⟩) (fun _ _ _ _ => ⟨⟩) l n = true → PyData.canLayAll0 l = true ∧ PyData.depthAll l ≤ n
  | [], _, _ => by simp [PyData.canLayAll0, PyData.depthAll]
  | d :: l, n, h => by
    have h' : @Bool.rec (fun _ => Bool) false _ (shK d n) = true := h
    cases hd : shK d n with
    | false => rw [hd] at h'; cases h'
    | true =>
      rw [hd] at h'
      have h1 := shK_of d n hd
      have h2 := shK_of' l n h'
      simp only [PyData.canLayAll0, PyData.depthAll]
      exact ⟨by rw [h1.1, h2.1]; rfl, by omega⟩
end
theorem shaped_of {d : D} (h : shK d 8 = true) : SeqAt.shaped d = true := by
  have := shK_of d 8 h
  unfold SeqAt.shaped
  rw [this.1, decide_eq_true (by omega : d.depth ≤ 64)]
  rfl
/-- equality of data, fast -/
noncomputable def eqK (d : D) : D → Bool := @PyData.rec (fun _ => D → Bool) (fun _ => List D → Bool) (fun _ => PUnit) (fun _ => PUnit) (fun e => isNn e) (fun b e => PyData.eqv (.bool b) e) (fun i e => dInt e (PyData.eqv (.int i) e) fun j => eqZ i j) (fun x e => PyData.eqv (.str x) e) (fun _ ih e => dLst e false ih) (fun _ ih e => dTup e false ih) (fun _ _ _ => false) (fun l => @List.rec D (fun _ => Bool) true (fun _ _ _ => false) l) (fun _ _ a b l => @List.rec D (fun _ => Bool) false (fun x r _ => @Bool.rec (fun _ => Bool) false (b r) (a x)) l) ⟨⟩ (fun _ _ _ _ => ⟨⟩) (fun _ _ _ _ => ⟨⟩) d
mutual
theorem eqK_eq : ∀ (d e : D), eqK d e = PyData.eqv d e
  | .none, e => by cases e <;> simp only [PyData.eqv] <;> rfl
  | .bool _, e => rfl
  | .int i, e => by
    cases e with
    | int j =>
      show eqZ i j = _
      rw [eqZ_eq]; simp only [PyData.eqv]
      exact (Bool.beq_eq_decide_eq i j).symm
    | _ => rfl
  | .str _, e => rfl
  | .list l, e => by
    cases e with
    | list r => simp only [PyData.eqv]; exact eqK_eq' l r
    | _ => simp only [PyData.eqv]; rfl
  | .tuple l, e => by
    cases e with
    | tuple r => simp only [PyData.eqv]; exact eqK_eq' l r
    | _ => simp only [PyData.eqv]; rfl
  | .dict _, e => by cases e <;> simp only [PyData.eqv] <;> rfl
theorem eqK_eq' : ∀ (l r : List D), @PyData.rec_1 (fun _ => D → Bool) (fun _ => List D → Bool) (fun _ => PUnit) (fun _ => PUnit) (fun e => isNn e) (fun b e => PyData.eqv (.bool b) e) (fun i e => dInt e (PyData.eqv (.int i) e) fun j => eqZ i j) (fun x e => PyData.eqv (.str x) e) (fun _ ih e => dLst e false ih) (fun _ ih e => dTup e false ih) (fun _ _ _ => false) (fun l => @List.rec D (fun _ => Bool) true (fun _ _ _ => false) l) (fun _ _ a b l => @List.rec D (fun _ => Bool) false (fun x r _ => @Bool.rec (fun _ => Bool) false (b r) (a x)) l) ⟨⟩ (fun _ _ _ _ => ⟨⟩) (fun _ _ _ _ => ⟨⟩) l r = PyData.eqvAll l r
  | [], [] => by simp only [PyData.eqvAll]
  | [], _ :: _ => by simp only [PyData.eqvAll]
  | _ :: _, [] => by simp only [PyData.eqvAll]
  | d :: l, e :: r => by
    show @Bool.rec (fun _ => Bool) false _ (eqK d e) = _
    rw [eqK_eq d e]
    simp only [PyData.eqvAll]
    cases PyData.eqv d e with
    | false => rfl
    | true => simp only [Bool.true_and]; exact eqK_eq' l r
end
/-! ### lists -/
noncomputable def lenK {α : Type} (l : List α) : Nat → Nat := @List.rec α (fun _ => Nat → Nat) (fun n => n) (fun _ _ ih n => frcN (.succ n) ih) l
theorem lenK_eq {α : Type} : ∀ (l : List α) (n : Nat), lenK l n = l.length + n
  | [], n => by simp [lenK]
  | a :: l, n => by
    show frcN (n + 1) (lenK l) = _
    rw [frcN_eq, lenK_eq l, List.length_cons]; omega
noncomputable def lenZ {α : Type} (l : List α) : Int := .ofNat (lenK l 0)
theorem lenZ_eq {α : Type} (l : List α) : lenZ l = (l.length : Int) := by unfold lenZ; rw [lenK_eq]; rfl
noncomputable def appK {α : Type} (l r : List α) : List α := @List.rec α (fun _ => List α) r (fun a _ ih => a :: ih) l
theorem appK_eq {α : Type} : ∀ (l r : List α), appK l r = l ++ r
  | [], _ => rfl
  | a :: l, r => by show a :: appK l r = _; rw [appK_eq l r]; rfl
noncomputable def shB (l : List D) : Bool := Nat.ble (lenK l 0) 16777215
theorem shB_eq {l : List D} (h : shB l = true) : shortL l = true := by
  unfold shB at h
  rw [lenK_eq] at h
  have := Nat.le_of_ble_eq_true h
  unfold shortL
  exact decide_eq_true (by omega)
noncomputable def repK {α : Type} (l : List α) (n : Nat) : List α := @Nat.rec (fun _ => List α) [] (fun _ ih => appK l ih) n
theorem repK_eq {α : Type} (l : List α) : ∀ n, repK l n = (List.replicate n l).flatten
  | 0 => rfl
  | n + 1 => by show appK l (repK l n) = _; rw [appK_eq, repK_eq l n, List.replicate_succ, List.flatten_cons]
/-- a whole number, at least 0 -/
noncomputable def natZ (i : Int) : Nat := @Int.rec (fun _ => Nat) (fun n => n) (fun _ => 0) i
theorem natZ_eq (i : Int) : natZ i = i.toNat := by cases i <;> rfl
noncomputable def negZ (i : Int) : Int := subZ 0 i
theorem negZ_eq (i : Int) : negZ i = -i := by unfold negZ; rw [subZ_eq]; omega
noncomputable def absI (i : Int) : Int := .ofNat (absZ i)
theorem absI_eq (i : Int) : absI i = if i < 0 then -i else i := by
  unfold absI; rw [absZ_eq]
  show ((i.natAbs : Nat) : Int) = _
  split <;> omega
/-- ints of a list -/
noncomputable def intsB (l : List D) : Bool := @List.rec D (fun _ => Bool) true (fun a _ ih => dInt a false fun _ => ih) l
noncomputable def intsK (l : List D) : List Int := @List.rec D (fun _ => List Int) [] (fun a _ ih => asI a :: ih) l
theorem intsK_eq : ∀ {l : List D}, intsB l = true → intsOf l = some (intsK l)
  | [], _ => rfl
  | a :: l, h => by
    cases a with
    | int i =>
      have : intsB l = true := h
      simp only [intsOf, intsK_eq this, Option.map_some]
      rfl
    | _ => cases h
noncomputable def boosB (l : List D) : Bool := @List.rec D (fun _ => Bool) true (fun a _ ih => dBool a false fun _ => ih) l
noncomputable def anyK (l : List D) : Bool := @List.rec D (fun _ => Bool) false (fun a _ ih => dBool a false fun b => iteB b true ih) l
noncomputable def allK (l : List D) : Bool := @List.rec D (fun _ => Bool) true (fun a _ ih => dBool a false fun b => iteB b ih false) l
theorem anyK_eq : ∀ {l : List D}, boosB l = true → ∃ bs, boolsOf l = some bs ∧ bs.any id = anyK l ∧ bs.all id = allK l
  | [], _ => ⟨[], rfl, rfl, rfl⟩
  | a :: l, h => by
    cases a with
    | bool b =>
      obtain ⟨bs, h1, h2, h3⟩ := anyK_eq (l := l) h
      refine ⟨b :: bs, by simp only [boolsOf, h1, Option.map_some], ?_, ?_⟩
      · show (b || bs.any id) = iteB b true (anyK l)
        rw [h2]; cases b <;> rfl
      · show (b && bs.all id) = iteB b (allK l) false
        rw [h3]; cases b <;> rfl
    | _ => cases h
noncomputable def sumK (l : List D) : Int → Int := @List.rec D (fun _ => Int → Int) (fun z => z) (fun a _ ih z => frcI (addZ z (asI a)) ih) l
theorem sumK_eq : ∀ (l : List D) (z : Int), sumK l z = z + (intsK l).sum
  | [], z => by show z = z + 0; omega
  | a :: l, z => by
    show frcI (addZ z (asI a)) (sumK l) = z + (asI a + (intsK l).sum)
    rw [frcI_eq, sumK_eq l, addZ_eq]; omega
noncomputable def anyZ (l : List D) (i : Int) : Bool := @List.rec D (fun _ => Bool) false (fun a _ ih => iteB (eqZ (asI a) i) true ih) l
theorem anyZ_eq (i : Int) : ∀ l : List D, anyZ l i = (intsK l).any fun n => decide (n = i)
  | [] => rfl
  | a :: l => by
    show iteB (eqZ (asI a) i) true (anyZ l i) = (decide (asI a = i) || (intsK l).any fun n => decide (n = i))
    rw [eqZ_eq, anyZ_eq i l]
    cases decide (asI a = i) <;> rfl
noncomputable def anyE (l : List D) (d : D) : Bool := @List.rec D (fun _ => Bool) false (fun a _ ih => iteB (eqK a d) true ih) l
theorem anyE_eq (d : D) : ∀ l : List D, anyE l d = l.any fun z => PyData.eqv z d
  | [] => rfl
  | a :: l => by
    show iteB (eqK a d) true (anyE l d) = (PyData.eqv a d || l.any fun z => PyData.eqv z d)
    rw [eqK_eq, anyE_eq d l]
    cases PyData.eqv a d <;> rfl
/-- the greatest, the least -/
noncomputable def maxK (l : List Int) (z : Int) : Int := @List.rec Int (fun _ => Int → Int) (fun z => z) (fun a _ ih z => iteB (leZ z a) (ih a) (ih z)) l z
noncomputable def minK (l : List Int) (z : Int) : Int := @List.rec Int (fun _ => Int → Int) (fun z => z) (fun a _ ih z => iteB (leZ z a) (ih z) (ih a)) l z
theorem maxK_eq : ∀ (l : List Int) (z : Int), maxK l z = l.foldl max z
  | [], z => rfl
  | a :: l, z => by
    show iteB (leZ z a) (maxK l a) (maxK l z) = l.foldl max (max z a)
    rw [leZ_eq]
    by_cases h : z ≤ a
    · rw [decide_eq_true h, Int.max_eq_right h]; exact maxK_eq l a
    · rw [decide_eq_false h, Int.max_eq_left (by omega)]; exact maxK_eq l z
theorem minK_eq : ∀ (l : List Int) (z : Int), minK l z = l.foldl min z
  | [], z => rfl
  | a :: l, z => by
    show iteB (leZ z a) (minK l z) (minK l a) = l.foldl min (min z a)
    rw [leZ_eq]
    by_cases h : z ≤ a
    · rw [decide_eq_true h, Int.min_eq_left h]; exact minK_eq l z
    · rw [decide_eq_false h, Int.min_eq_right (by omega)]; exact minK_eq l a
/-- cut -/
noncomputable def dropK {α : Type} (l : List α) : Nat → List α := @List.rec α (fun _ => Nat → List α) (fun _ => []) (fun a r ih n => @Nat.rec (fun _ => List α) (a :: r) (fun n _ => ih n) n) l
noncomputable def takeK {α : Type} (l : List α) : Nat → List α := @List.rec α (fun _ => Nat → List α) (fun _ => []) (fun a r ih n => @Nat.rec (fun _ => List α) [] (fun n _ => a :: ih n) n) l
theorem dropK_eq {α : Type} : ∀ (l : List α) (n : Nat), dropK l n = l.drop n
  | [], n => by simp [dropK]
  | a :: l, 0 => rfl
  | a :: l, n + 1 => by show dropK l n = _; rw [dropK_eq l n]; rfl
theorem takeK_eq {α : Type} : ∀ (l : List α) (n : Nat), takeK l n = l.take n
  | [], n => by simp [takeK]
  | a :: l, 0 => rfl
  | a :: l, n + 1 => by show a :: takeK l n = _; rw [takeK_eq l n]; rfl
/-- a bound of a slice over a list of n -/
noncomputable def bdK (n : Nat) (i : Int) : Nat := @Int.rec (fun _ => Nat) (fun k => iteB (Nat.ble k n) k n) (fun m => Nat.sub n (.succ m)) i
theorem bdK_eq (n d : Nat) (i : Int) : HT.sIx n d (some i) = bdK n i := by
  cases i with
  | ofNat k =>
    show HT.sIx n d (some (k : Int)) = iteB (Nat.ble k n) k n
    rw [HT.sIx_nat, ble_dec, iteB_eq]
    by_cases h : k ≤ n
    · rw [if_pos (decide_eq_true h)]; omega
    · rw [if_neg (by rw [decide_eq_false h]; decide)]; omega
  | negSucc m =>
    show (if Int.negSucc m < 0 then (Int.negSucc m + (n : Int)).toNat else min (Int.negSucc m).toNat n) = n - (m + 1)
    rw [if_pos (by omega)]; omega
noncomputable def cutK (l : List D) (lo hi : Int) : List D := takeK (dropK l (bdK (lenK l 0) lo)) (Nat.sub (bdK (lenK l 0) hi) (bdK (lenK l 0) lo))
noncomputable def cutLo (l : List D) (lo : Int) : List D := dropK l (bdK (lenK l 0) lo)
noncomputable def cutHi (l : List D) (hi : Int) : List D := takeK l (bdK (lenK l 0) hi)
theorem cutK_eq (l : List D) (lo hi : Int) : cutK l lo hi = Ev.cutD l (some lo) (some hi) := by
  unfold cutK Ev.cutD
  rw [takeK_eq, dropK_eq, lenK_eq, bdK_eq, bdK_eq]; rfl
theorem cutLo_eq (l : List D) (lo : Int) : cutLo l lo = Ev.cutD l (some lo) none := by
  unfold cutLo Ev.cutD
  rw [dropK_eq, lenK_eq, bdK_eq, HT.sIx_none]
  rw [Nat.add_zero, List.take_of_length_le (by rw [List.length_drop]; omega)]
theorem cutHi_eq (l : List D) (hi : Int) : cutHi l hi = Ev.cutD l none (some hi) := by
  unfold cutHi Ev.cutD
  rw [takeK_eq, lenK_eq, bdK_eq, HT.sIx_none, List.drop_zero, Nat.sub_zero]; rfl
noncomputable def revK {α : Type} (l : List α) : List α := @List.rec α (fun _ => List α → List α) (fun r => r) (fun a _ ih r => ih (a :: r)) l []
theorem revK_eq {α : Type} (l : List α) : revK l = l.reverse := by
  have : ∀ (l r : List α), @List.rec α (fun _ => List α → List α) (fun r => r) (fun a _ ih r => ih (a :: r)) l r = l.reverse ++ r := by
    intro l
    induction l with
    | nil => intro r; rfl
    | cons a l ih => intro r; show _ = _; rw [List.reverse_cons, List.append_assoc]; exact ih (a :: r)
  unfold revK
  rw [this, List.append_nil]
noncomputable def insK (x : Int) (l : List Int) : List Int := @List.rec Int (fun _ => List Int) [x] (fun y r ih => iteB (leZ x y) (x :: y :: r) (y :: ih)) l
noncomputable def srtK (l : List Int) : List Int := @List.rec Int (fun _ => List Int) [] (fun y _ ih => insK y ih) l
theorem insK_eq (x : Int) : ∀ l, insK x l = insI x l
  | [] => rfl
  | y :: r => by
    show iteB (leZ x y) (x :: y :: r) (y :: insK x r) = if x ≤ y then x :: y :: r else y :: insI x r
    rw [leZ_eq, insK_eq x r, iteB_eq]
    by_cases h : x ≤ y <;> simp [h]
theorem srtK_eq : ∀ l, srtK l = sortI l
  | [] => rfl
  | y :: r => by show insK y (srtK r) = insI y (sortI r); rw [srtK_eq r, insK_eq]
noncomputable def boxK (l : List Int) : List D := @List.rec Int (fun _ => List D) [] (fun y _ ih => frcI y fun y => PyData.int y :: ih) l
theorem boxK_eq : ∀ l : List Int, boxK l = l.map PyData.int
  | [] => rfl
  | y :: r => by show frcI y (fun y => PyData.int y :: boxK r) = _; rw [frcI_eq, boxK_eq r]; rfl
end Nx

/-! ## Nx2 -/
namespace Nx
open PySem PySem.Spec PyProof.Rows L2 Ev
/-! ### expressions -/
def EvD (Φ : Nat → List D → Option R) (Ψ : Nat → List D → Tp → Option (R × Tp)) (τ : Tp) (ρ : Rho) (e : E) (k : Kd) (d : D) : Prop := ev Φ Ψ ρ τ e = some (⟨k, d⟩, τ)
def EvA (Φ : Nat → List D → Option R) (Ψ : Nat → List D → Tp → Option (R × Tp)) (τ : Tp) (ρ : Rho) (es : List E) (rs : List R) : Prop := evs Φ Ψ ρ τ es = some (rs, τ)
def EvC (Φ : Nat → List D → Option R) (Ψ : Nat → List D → Tp → Option (R × Tp)) (τ : Tp) (ρ : Rho) (es : List E) (b : Bool) : Prop := evAll Φ Ψ ρ τ es = some (b, τ)
section
variable {Φ : Nat → List D → Option R} {Ψ : Nat → List D → Tp → Option (R × Tp)} {N : Nat} {τ : Tp} {ρ : Rho}
theorem ev_to {e : E} {k : Kd} {d d' : D} (h : d = d') (p : EvD Φ Ψ τ ρ e k d) : EvD Φ Ψ τ ρ e k d' := h ▸ p
theorem ev_cst {d : D} : EvD Φ Ψ τ ρ (.cst d) .S d := by unfold EvD; rw [ev]
theorem ev_var {i : Nat} {d : D} (h : ρ[i]? = some (.im d)) : EvD Φ Ψ τ ρ (.var i) .S d := by unfold EvD; rw [ev, h]
theorem ev_varL {i : Nat} {l : List D} (h : ρ[i]? = some (.ow l)) : EvD Φ Ψ τ ρ (.var i) .B (.list l) := by unfold EvD; rw [ev, h]
theorem ev_bin {op : Bo} {a b : E} {k l : Kd} {x y : D} {r : R} (p : EvD Φ Ψ τ ρ a k x) (q : EvD Φ Ψ τ ρ b l y) (h : binD op x y = some r) : EvD Φ Ψ τ ρ (.bin op a b) r.k r.d := by
  unfold EvD at *
  rw [ev, p, Option.bind_some, q, Option.bind_some, h, Option.map_some]
theorem ev_cmp {op : Co} {a b : E} {k l : Kd} {x y : D} {r : Bool} (p : EvD Φ Ψ τ ρ a k x) (q : EvD Φ Ψ τ ρ b l y) (h : cmpD op x y = some r) : EvD Φ Ψ τ ρ (.cmp op a b) .S (.bool r) := by
  unfold EvD at *
  rw [ev, p, Option.bind_some, q, Option.bind_some, h, Option.map_some]
section
variable {a b : E} {k l : Kd} {x y : Int}
theorem ev_add (p : EvD Φ Ψ τ ρ a k (.int x)) (q : EvD Φ Ψ τ ρ b l (.int y)) : EvD Φ Ψ τ ρ (.bin .add a b) .S (.int (addZ x y)) := ev_bin (r := ⟨.S, .int (addZ x y)⟩) p q (by rw [addZ_eq]; rfl)
theorem ev_sub (p : EvD Φ Ψ τ ρ a k (.int x)) (q : EvD Φ Ψ τ ρ b l (.int y)) : EvD Φ Ψ τ ρ (.bin .sub a b) .S (.int (subZ x y)) := ev_bin (r := ⟨.S, .int (subZ x y)⟩) p q (by rw [subZ_eq]; rfl)
theorem ev_mul (h : mulB x y = true) (p : EvD Φ Ψ τ ρ a k (.int x)) (q : EvD Φ Ψ τ ρ b l (.int y)) : EvD Φ Ψ τ ρ (.bin .mul a b) .S (.int (mulZ x y)) := ev_bin (r := ⟨.S, .int (mulZ x y)⟩) p q (by rw [mulZ_eq]; rw [mulB_eq] at h; simp only [binD, h, if_true])
theorem ev_fdiv (h : divB y = true) (p : EvD Φ Ψ τ ρ a k (.int x)) (q : EvD Φ Ψ τ ρ b l (.int y)) : EvD Φ Ψ τ ρ (.bin .fdiv a b) .S (.int (fdivZ x y)) := ev_bin (r := ⟨.S, .int (fdivZ x y)⟩) p q (by rw [fdivZ_eq]; rw [divB_eq] at h; simp only [binD, h, if_true])
theorem ev_mod (h : eqZ y 0 = false) (p : EvD Φ Ψ τ ρ a k (.int x)) (q : EvD Φ Ψ τ ρ b l (.int y)) : EvD Φ Ψ τ ρ (.bin .mod a b) .S (.int (fmodZ x y)) := ev_bin (r := ⟨.S, .int (fmodZ x y)⟩) p q (by
  rw [fmodZ_eq]; rw [eqZ_eq] at h; have := of_decide_eq_false h
  simp only [binD]
  rw [if_pos this])
theorem ev_lt (p : EvD Φ Ψ τ ρ a k (.int x)) (q : EvD Φ Ψ τ ρ b l (.int y)) : EvD Φ Ψ τ ρ (.cmp .lt a b) .S (.bool (ltZ x y)) := ev_cmp p q (by rw [ltZ_eq]; rfl)
theorem ev_le (p : EvD Φ Ψ τ ρ a k (.int x)) (q : EvD Φ Ψ τ ρ b l (.int y)) : EvD Φ Ψ τ ρ (.cmp .le a b) .S (.bool (leZ x y)) := ev_cmp p q (by rw [leZ_eq]; rfl)
theorem ev_gt (p : EvD Φ Ψ τ ρ a k (.int x)) (q : EvD Φ Ψ τ ρ b l (.int y)) : EvD Φ Ψ τ ρ (.cmp .gt a b) .S (.bool (ltZ y x)) := ev_cmp p q (by rw [ltZ_eq]; rfl)
theorem ev_ge (p : EvD Φ Ψ τ ρ a k (.int x)) (q : EvD Φ Ψ τ ρ b l (.int y)) : EvD Φ Ψ τ ρ (.cmp .ge a b) .S (.bool (leZ y x)) := ev_cmp p q (by rw [leZ_eq]; rfl)
theorem ev_eq (p : EvD Φ Ψ τ ρ a k (.int x)) (q : EvD Φ Ψ τ ρ b l (.int y)) : EvD Φ Ψ τ ρ (.cmp .eq a b) .S (.bool (eqZ x y)) := ev_cmp p q (by rw [eqZ_eq]; rfl)
theorem ev_ne (p : EvD Φ Ψ τ ρ a k (.int x)) (q : EvD Φ Ψ τ ρ b l (.int y)) : EvD Φ Ψ τ ρ (.cmp .ne a b) .S (.bool (notB (eqZ x y))) := ev_cmp p q (by rw [notB_eq, eqZ_eq]; rfl)
end
theorem cmp_iff {op : Co} {i j : Int} {r : Bool} (h : cmpD op (.int i) (.int j) = some r) : cmpD op (.int i) (.int j) = some r := h
/-- comparisons of ints, by name -/
noncomputable def cmpZ : Co → Int → Int → Bool
  | .lt, x, y => ltZ x y
  | .le, x, y => leZ x y
  | .gt, x, y => ltZ y x
  | .ge, x, y => leZ y x
  | .eq, x, y => eqZ x y
  | .ne, x, y => notB (eqZ x y)
  | _, _, _ => false
theorem cm_lt {x y : Int} : cmpD .lt (.int x) (.int y) = some (ltZ x y) := by rw [ltZ_eq]; rfl
theorem cm_le {x y : Int} : cmpD .le (.int x) (.int y) = some (leZ x y) := by rw [leZ_eq]; rfl
theorem cm_gt {x y : Int} : cmpD .gt (.int x) (.int y) = some (ltZ y x) := by rw [ltZ_eq]; rfl
theorem cm_ge {x y : Int} : cmpD .ge (.int x) (.int y) = some (leZ y x) := by rw [leZ_eq]; rfl
theorem cm_eq {x y : Int} : cmpD .eq (.int x) (.int y) = some (eqZ x y) := by rw [eqZ_eq]; rfl
theorem cm_ne {x y : Int} : cmpD .ne (.int x) (.int y) = some (notB (eqZ x y)) := by rw [notB_eq, eqZ_eq]; rfl
theorem ev_chn {o1 o2 : Co} {a b c : E} {k l m : Kd} {x y z : D} {r s : Bool} (p : EvD Φ Ψ τ ρ a k x) (q : EvD Φ Ψ τ ρ b l y) (h1 : cmpD o1 x y = some r) (t : r = true → EvD Φ Ψ τ ρ c m z) (h2 : r = true → cmpD o2 y z = some s) : EvD Φ Ψ τ ρ (.chn o1 o2 a b c) .S (.bool (iteB r s false)) := by
  unfold EvD at *
  rw [ev, p, Option.bind_some, q, Option.bind_some, h1, Option.bind_some]
  cases r with
  | false => rfl
  | true =>
    show (ev Φ Ψ ρ τ c).bind _ = _
    rw [t rfl, Option.bind_some, h2 rfl]; rfl
theorem ev_ch3 {o1 o2 o3 : Co} {a b c d : E} {k l m q : Kd} {x y z w : D} {r s v : Bool} (p : EvD Φ Ψ τ ρ a k x) (p2 : EvD Φ Ψ τ ρ b l y) (h1 : cmpD o1 x y = some r) (t : r = true → EvD Φ Ψ τ ρ c m z) (h2 : r = true → cmpD o2 y z = some s) (u : r = true → s = true → EvD Φ Ψ τ ρ d q w) (h3 : r = true → s = true → cmpD o3 z w = some v) : EvD Φ Ψ τ ρ (.ch3 o1 o2 o3 a b c d) .S (.bool (iteB r (iteB s v false) false)) := by
  unfold EvD at *
  rw [ev, p, Option.bind_some, p2, Option.bind_some, h1, Option.bind_some]
  cases r with
  | false => rfl
  | true =>
    show (ev Φ Ψ ρ τ c).bind _ = _
    rw [t rfl, Option.bind_some]
    show (cmpD o2 y z).bind _ = _
    rw [h2 rfl, Option.bind_some]
    cases s with
    | false => rfl
    | true =>
      show (ev Φ Ψ ρ τ d).bind _ = _
      rw [u rfl rfl, Option.bind_some]
      show (cmpD o3 z w).map _ = _
      rw [h3 rfl rfl]; rfl
theorem cmpD_eq {x y : D} (h1 : shK x 8 = true) (h2 : shK y 8 = true) : cmpD .eq x y = some (eqK x y) := by
  rw [eqK_eq]
  have e1 := shaped_of h1
  have e2 := shaped_of h2
  unfold cmpD
  split <;> first | (rename_i heq; cases heq; done) | skip
  all_goals first | (simp only [PyData.eqv]; rename_i i j; exact congrArg some (Bool.beq_eq_decide_eq _ _).symm) | (simp only [PyData.eqv]; done) | (rw [e1, e2]; rfl) | skip
  all_goals first | rfl | contradiction
theorem cmpD_ne {x y : D} (h1 : shK x 8 = true) (h2 : shK y 8 = true) : cmpD .ne x y = some (notB (eqK x y)) := by
  rw [eqK_eq, notB_eq]
  have e1 := shaped_of h1
  have e2 := shaped_of h2
  unfold cmpD
  split <;> first | (rename_i heq; cases heq; done) | skip
  all_goals first | (simp only [PyData.eqv]; rename_i i j; exact congrArg some (congrArg _ (Bool.beq_eq_decide_eq _ _).symm)) | (simp only [PyData.eqv]; done) | (rw [e1, e2]; rfl) | skip
  all_goals first | rfl | contradiction
theorem inT {i : Int} {l : List D} (h : intsB l = true) : cmpD .isin (.int i) (.tuple l) = some (anyZ l i) := by
  rw [anyZ_eq]; simp only [cmpD, intsK_eq h, Option.map_some]
theorem ninT {i : Int} {l : List D} (h : intsB l = true) : cmpD .notin (.int i) (.tuple l) = some (notB (anyZ l i)) := by
  rw [anyZ_eq, notB_eq]; simp only [cmpD, intsK_eq h, Option.map_some]
theorem inL {d : D} {l : List D} (h1 : shK d 8 = true) (h2 : shK (.list l) 8 = true) : cmpD .isin d (.list l) = some (anyE l d) := by
  rw [anyE_eq]
  have e1 := shaped_of h1
  have e2 := shaped_of h2
  cases d <;> simp only [cmpD] <;> rw [e1, e2] <;> rfl
theorem ninL {d : D} {l : List D} (h1 : shK d 8 = true) (h2 : shK (.list l) 8 = true) : cmpD .notin d (.list l) = some (notB (anyE l d)) := by
  rw [anyE_eq, notB_eq]
  have e1 := shaped_of h1
  have e2 := shaped_of h2
  cases d <;> simp only [cmpD] <;> rw [e1, e2] <;> rfl
theorem ev_neg {a : E} {k : Kd} {x : Int} (p : EvD Φ Ψ τ ρ a k (.int x)) : EvD Φ Ψ τ ρ (.neg a) .S (.int (negZ x)) := by
  unfold EvD at *
  rw [ev, p, negZ_eq]; rfl
theorem ev_isN {a : E} {k : Kd} {d : D} (p : EvD Φ Ψ τ ρ a k d) : EvD Φ Ψ τ ρ (.isN a) .S (.bool (isNn d)) := by
  unfold EvD at *
  rw [ev, p, isNn_eq]; rfl
theorem ev_notN {a : E} {k : Kd} {d : D} (p : EvD Φ Ψ τ ρ a k d) : EvD Φ Ψ τ ρ (.notN a) .S (.bool (notB (isNn d))) := by
  unfold EvD at *
  rw [ev, p, notB_eq, isNn_eq]; rfl
noncomputable def eqB (a b : Bool) : Bool := iteB a b (notB b)
theorem eqB_eq (a b : Bool) : eqB a b = (a == b) := by cases a <;> cases b <;> rfl
theorem ev_isB {a b : E} {k l : Kd} {x y : Bool} (p : EvD Φ Ψ τ ρ a k (.bool x)) (q : EvD Φ Ψ τ ρ b l (.bool y)) : EvD Φ Ψ τ ρ (.isB a b) .S (.bool (eqB x y)) := by
  unfold EvD at *
  rw [ev, p, Option.bind_some, q, Option.bind_some, eqB_eq]
theorem ev_notB {a b : E} {k l : Kd} {x y : Bool} (p : EvD Φ Ψ τ ρ a k (.bool x)) (q : EvD Φ Ψ τ ρ b l (.bool y)) : EvD Φ Ψ τ ρ (.notB a b) .S (.bool (notB (eqB x y))) := by
  unfold EvD at *
  rw [ev, p, Option.bind_some, q, Option.bind_some, notB_eq, eqB_eq]
theorem ev_eqb {a b : E} {k l : Kd} {x y : Bool} (p : EvD Φ Ψ τ ρ a k (.bool x)) (q : EvD Φ Ψ τ ρ b l (.bool y)) : EvD Φ Ψ τ ρ (.cmp .eq a b) .S (.bool (eqB x y)) := ev_cmp p q (by rw [eqB_eq]; rfl)
theorem ev_neb {a b : E} {k l : Kd} {x y : Bool} (p : EvD Φ Ψ τ ρ a k (.bool x)) (q : EvD Φ Ψ τ ρ b l (.bool y)) : EvD Φ Ψ τ ρ (.cmp .ne a b) .S (.bool (notB (eqB x y))) := ev_cmp p q (by rw [notB_eq, eqB_eq]; rfl)
theorem ev_con {a b : E} {k l : Kd} {x y : Bool} (p : EvD Φ Ψ τ ρ a k (.bool x)) (q : x = true → EvD Φ Ψ τ ρ b l (.bool y)) : EvD Φ Ψ τ ρ (.con a b) .S (.bool (iteB x y false)) := by
  unfold EvD at *
  rw [ev, p, Option.bind_some]
  cases x with
  | false => rfl
  | true => rw [q rfl]; rfl
theorem ev_dis {a b : E} {k l : Kd} {x y : Bool} (p : EvD Φ Ψ τ ρ a k (.bool x)) (q : x = false → EvD Φ Ψ τ ρ b l (.bool y)) : EvD Φ Ψ τ ρ (.dis a b) .S (.bool (iteB x true y)) := by
  unfold EvD at *
  rw [ev, p, Option.bind_some]
  cases x with
  | true => rfl
  | false => rw [q rfl]; rfl
theorem ev_inv {a : E} {k : Kd} {x : Bool} (p : EvD Φ Ψ τ ρ a k (.bool x)) : EvD Φ Ψ τ ρ (.inv a) .S (.bool (notB x)) := by
  unfold EvD at *
  rw [ev, p, Option.bind_some, notB_eq]
theorem ev_tru {a : E} {k : Kd} {d : D} {b : Bool} (p : EvD Φ Ψ τ ρ a k d) (h : truD d = some b) : EvD Φ Ψ τ ρ (.tru a) .S (.bool b) := by
  unfold EvD at *
  rw [ev, p, Option.bind_some, h, Option.map_some]
noncomputable def neB {α : Type} (l : List α) : Bool := @List.rec α (fun _ => Bool) false (fun _ _ _ => true) l
theorem tr_I {i : Int} : truD (.int i) = some (notB (eqZ i 0)) := by rw [notB_eq, eqZ_eq]; rfl
theorem tr_B {i : Bool} : truD (.bool i) = some i := rfl
theorem tr_T {l : List D} : truD (.tuple l) = some (neB l) := by cases l <;> rfl
theorem tr_L {l : List D} : truD (.list l) = some (neB l) := by cases l <;> rfl
/-- truth of any datum -/
noncomputable def truOk (d : D) : Bool := @PyData.rec (fun _ => Bool) (fun _ => PUnit) (fun _ => PUnit) (fun _ => PUnit) true (fun _ => true) (fun _ => true) (fun _ => false) (fun _ _ => true) (fun _ _ => true) (fun _ _ => false) ⟨⟩ (fun _ _ _ _ => ⟨⟩) ⟨⟩ (fun _ _ _ _ => ⟨⟩) (fun _ _ _ _ => ⟨⟩) d
noncomputable def truK (d : D) : Bool := @PyData.rec (fun _ => Bool) (fun _ => PUnit) (fun _ => PUnit) (fun _ => PUnit) false (fun b => b) (fun i => notB (eqZ i 0)) (fun _ => false) (fun l _ => neB l) (fun l _ => neB l) (fun _ _ => false) ⟨⟩ (fun _ _ _ _ => ⟨⟩) ⟨⟩ (fun _ _ _ _ => ⟨⟩) (fun _ _ _ _ => ⟨⟩) d
theorem tr_D {d : D} (h : truOk d = true) : truD d = some (truK d) := by
  cases d <;> first | rfl | exact tr_I | exact tr_T | exact tr_L | cases h
theorem ev_ite {c a b : E} {k m : Kd} {t : Bool} {x y z : D} (p : EvD Φ Ψ τ ρ c k (.bool t)) (q : t = true → EvD Φ Ψ τ ρ a m x) (r : t = false → EvD Φ Ψ τ ρ b m y) (h : z = iteB t x y) : EvD Φ Ψ τ ρ (.ite c a b) m z := by
  unfold EvD at *
  rw [ev, p, Option.bind_some]
  subst h
  cases t with
  | true => exact q rfl
  | false => exact r rfl
theorem it_I {t : Bool} {x y : Int} : PyData.int (iteB t x y) = iteB t (.int x) (.int y) := by cases t <;> rfl
theorem it_B {t : Bool} {x y : Bool} : PyData.bool (iteB t x y) = iteB t (.bool x) (.bool y) := by cases t <;> rfl
theorem it_T {t : Bool} {x y : List D} : PyData.tuple (iteB t x y) = iteB t (.tuple x) (.tuple y) := by cases t <;> rfl
theorem it_L {t : Bool} {x y : List D} : PyData.list (iteB t x y) = iteB t (.list x) (.list y) := by cases t <;> rfl
theorem ea_nil : EvA Φ Ψ τ ρ [] [] := by unfold EvA; rw [evs]
theorem ea_cons {e : E} {es : List E} {k : Kd} {d : D} {rs : List R} (p : EvD Φ Ψ τ ρ e k d) (q : EvA Φ Ψ τ ρ es rs) : EvA Φ Ψ τ ρ (e :: es) (⟨k, d⟩ :: rs) := by
  unfold EvD at p
  unfold EvA at *
  rw [evs, p, Option.bind_some, q, Option.map_some]
theorem ec_nil : EvC Φ Ψ τ ρ [] true := by unfold EvC; rw [evAll]
theorem ec_cons {e : E} {es : List E} {k : Kd} {a b : Bool} (p : EvD Φ Ψ τ ρ e k (.bool a)) (q : a = true → EvC Φ Ψ τ ρ es b) : EvC Φ Ψ τ ρ (e :: es) (iteB a b false) := by
  unfold EvD at p
  unfold EvC at *
  rw [evAll, p, Option.bind_some]
  cases a with
  | false => rfl
  | true => exact q rfl
theorem ec_one {e : E} {k : Kd} {a : Bool} (p : EvD Φ Ψ τ ρ e k (.bool a)) : EvC Φ Ψ τ ρ [e] a := by
  have := ec_cons p (b := true) fun _ => ec_nil
  cases a <;> exact this
theorem ev_tup {es : List E} {rs : List R} {ds : List D} (p : EvA Φ Ψ τ ρ es rs) (h : rs.mapM stb = some ds) (hs : shortL ds = true) : EvD Φ Ψ τ ρ (.tup es) .S (.tuple ds) := by
  unfold EvA at p
  unfold EvD
  rw [ev, p, Option.bind_some, h, Option.bind_some, if_pos hs]
theorem ev_lst {es : List E} {rs : List R} {ds : List D} (p : EvA Φ Ψ τ ρ es rs) (h : rs.mapM stb = some ds) (hs : shortL ds = true) : EvD Φ Ψ τ ρ (.lst es) .F (.list ds) := by
  unfold EvA at p
  unfold EvD
  rw [ev, p, Option.bind_some, h, Option.bind_some, if_pos hs]
theorem ev_idx {a b : E} {k l : Kd} {x : D} {i : Int} {d : D} (p : EvD Φ Ψ τ ρ a k x) (q : EvD Φ Ψ τ ρ b l (.int i)) (h : idxD x (.int i) = some ⟨.S, d⟩) : EvD Φ Ψ τ ρ (.idx a b) .S d := by
  unfold EvD at *
  rw [ev, p, Option.bind_some, q, Option.bind_some, h, Option.map_some]
theorem ix_T {l : List D} {i : Int} {d : D} (h : ixK l i = some d) : idxD (.tuple l) (.int i) = some ⟨.S, d⟩ := by
  rw [ixK_eq] at h; simp only [idxD, h, Option.map_some]
theorem ix_L {l : List D} {i : Int} {d : D} (h : ixK l i = some d) : idxD (.list l) (.int i) = some ⟨.S, d⟩ := by
  rw [ixK_eq] at h; simp only [idxD, h, Option.map_some]
/-- items of a tuple or a list -/
noncomputable def dSeq {β : Type} (d : D) (g : β) (f : List D → β) : β := @PyData.rec (fun _ => β) (fun _ => PUnit) (fun _ => PUnit) (fun _ => PUnit) g (fun _ => g) (fun _ => g) (fun _ => g) (fun l _ => f l) (fun l _ => f l) (fun _ _ => g) ⟨⟩ (fun _ _ _ _ => ⟨⟩) ⟨⟩ (fun _ _ _ _ => ⟨⟩) (fun _ _ _ _ => ⟨⟩) d
noncomputable def isQ (d : D) : Bool := dSeq d false fun _ => true
noncomputable def asQ (d : D) : List D := dSeq d [] fun l => l
theorem isQ_eq {d : D} (h : isQ d = true) : d = .tuple (asQ d) ∨ d = .list (asQ d) := by cases d <;> first | exact .inl rfl | exact .inr rfl | cases h
noncomputable def ixD (d : D) (i : Int) : Option D := dSeq d none fun l => ixK l i
theorem ix_D {x : D} {i : Int} {d : D} (h : ixD x i = some d) : idxD x (.int i) = some ⟨.S, d⟩ := by
  cases x <;> first | exact ix_T h | exact ix_L h | cases h
theorem ev_slc {a b c : E} {k l m : Kd} {x : D} {i j : Int} {r : R} (p : EvD Φ Ψ τ ρ a k x) (q : EvD Φ Ψ τ ρ b l (.int i)) (t : EvD Φ Ψ τ ρ c m (.int j)) (h : slcD x (some i) (some j) = some r) : EvD Φ Ψ τ ρ (.slc a b c) r.k r.d := by
  unfold EvD at *
  rw [ev, p, Option.bind_some, q, Option.bind_some, t, Option.bind_some]
  simp only [intOf, Option.bind_some, h, Option.map_some]
theorem ev_slcL {a b : E} {k l : Kd} {x : D} {i : Int} {r : R} (p : EvD Φ Ψ τ ρ a k x) (q : EvD Φ Ψ τ ρ b l (.int i)) (h : slcD x (some i) none = some r) : EvD Φ Ψ τ ρ (.slcL a b) r.k r.d := by
  unfold EvD at *
  rw [ev, p, Option.bind_some, q, Option.bind_some]
  simp only [intOf, Option.bind_some, h, Option.map_some]
theorem ev_slcH {a b : E} {k l : Kd} {x : D} {i : Int} {r : R} (p : EvD Φ Ψ τ ρ a k x) (q : EvD Φ Ψ τ ρ b l (.int i)) (h : slcD x none (some i) = some r) : EvD Φ Ψ τ ρ (.slcH a b) r.k r.d := by
  unfold EvD at *
  rw [ev, p, Option.bind_some, q, Option.bind_some]
  simp only [intOf, Option.bind_some, h, Option.map_some]
theorem ev_slcA {a : E} {k : Kd} {x : D} {r : R} (p : EvD Φ Ψ τ ρ a k x) (h : slcD x none none = some r) : EvD Φ Ψ τ ρ (.slcA a) r.k r.d := by
  unfold EvD at *
  rw [ev, p, Option.bind_some, h, Option.map_some]
theorem ev_rev {a : E} {k : Kd} {x : D} {r : R} (p : EvD Φ Ψ τ ρ a k x) (h : revD x = some r) : EvD Φ Ψ τ ρ (.rev a) r.k r.d := by
  unfold EvD at *
  rw [ev, p, Option.bind_some, h, Option.map_some]
theorem sl_T {l : List D} {i j : Int} : slcD (.tuple l) (some i) (some j) = some ⟨.S, .tuple (cutK l i j)⟩ := by rw [cutK_eq]; rfl
theorem sl_L {l : List D} {i j : Int} : slcD (.list l) (some i) (some j) = some ⟨.F, .list (cutK l i j)⟩ := by rw [cutK_eq]; rfl
theorem slL_T {l : List D} {i : Int} : slcD (.tuple l) (some i) none = some ⟨.S, .tuple (cutLo l i)⟩ := by rw [cutLo_eq]; rfl
theorem slL_L {l : List D} {i : Int} : slcD (.list l) (some i) none = some ⟨.F, .list (cutLo l i)⟩ := by rw [cutLo_eq]; rfl
theorem slH_T {l : List D} {i : Int} : slcD (.tuple l) none (some i) = some ⟨.S, .tuple (cutHi l i)⟩ := by rw [cutHi_eq]; rfl
theorem slH_L {l : List D} {i : Int} : slcD (.list l) none (some i) = some ⟨.F, .list (cutHi l i)⟩ := by rw [cutHi_eq]; rfl
theorem cutA_eq (l : List D) : Ev.cutD l none none = l := by
  unfold Ev.cutD
  rw [HT.sIx_none, HT.sIx_none, List.drop_zero, Nat.sub_zero, List.take_length]
theorem slA_T {l : List D} : slcD (.tuple l) none none = some ⟨.S, .tuple l⟩ := by show some (⟨.S, .tuple (Ev.cutD l none none)⟩ : R) = _; rw [cutA_eq]
theorem slA_L {l : List D} : slcD (.list l) none none = some ⟨.F, .list l⟩ := by show some (⟨.F, .list (Ev.cutD l none none)⟩ : R) = _; rw [cutA_eq]
theorem rv_T {l : List D} : revD (.tuple l) = some ⟨.S, .tuple (revK l)⟩ := by rw [revK_eq]; rfl
theorem rv_L {l : List D} : revD (.list l) = some ⟨.F, .list (revK l)⟩ := by rw [revK_eq]; rfl
theorem bi_catT {l r : List D} (h : shB (appK l r) = true) : binD .add (.tuple l) (.tuple r) = some ⟨.S, .tuple (appK l r)⟩ := by
  have := shB_eq h
  rw [appK_eq] at *
  simp only [binD, this, if_true]
theorem bi_catL {l r : List D} (h : shB (appK l r) = true) : binD .add (.list l) (.list r) = some ⟨.F, .list (appK l r)⟩ := by
  have := shB_eq h
  rw [appK_eq] at *
  simp only [binD, this, if_true]
noncomputable def repB (l : List D) (k : Int) : Bool := andB (Nat.ble (absZ k) 1000) (Nat.ble (lenK l 0) 1000)
theorem repB_eq {l : List D} {k : Int} (h : repB l k = true) : k.natAbs ≤ 1000 ∧ l.length ≤ 1000 := by
  unfold repB at h
  have h1 := Nat.le_of_ble_eq_true (andB_l h)
  have h2 := Nat.le_of_ble_eq_true (andB_r h)
  rw [absZ_eq] at h1
  rw [lenK_eq] at h2
  omega
theorem bi_repT {l : List D} {k : Int} (h : repB l k = true) : binD .mul (.tuple l) (.int k) = some ⟨.S, .tuple (repK l (natZ k))⟩ := by
  have := repB_eq h
  rw [repK_eq, natZ_eq]
  have e : (decide ((-4611686018427387904 : Int) ≤ k) && decide (k ≤ 1000) && decide (l.length ≤ 1000)) = true := by
    simp only [Bool.and_eq_true, decide_eq_true_eq]; omega
  simp only [binD, e, if_true]
theorem p63 : (2 : Int) ^ 63 = 9223372036854775808 := by
  rw [show (2 : Int) = ((2 : Nat) : Int) from rfl, ← Int.natCast_pow]; rfl
theorem bi_repL {l : List D} {k : Int} (h : repB l k = true) : binD .mul (.list l) (.int k) = some ⟨.F, .list (repK l (natZ k))⟩ := by
  have := repB_eq h
  rw [repK_eq, natZ_eq]
  have hm : l.length * k.toNat ≤ 1000 * 1000 := Nat.mul_le_mul (by omega) (by omega)
  have e : (decide (-(2 ^ 63) ≤ k) && decide (k < 2 ^ 63) && decide (l.length * k.toNat < 16777216)) = true := by
    rw [p63]
    simp only [Bool.and_eq_true, decide_eq_true_eq]; omega
  simp only [binD, e, if_true]
theorem ev_call {n : Nat} {es : List E} {rs : List R} {r : R} (p : EvA Φ Ψ τ ρ es rs) (h : Φ n (rs.map (·.d)) = some r) (hc : clean r = true) : EvD Φ Ψ τ ρ (.call n es) r.k r.d := by
  unfold EvA at p
  unfold EvD
  rw [ev, p, Option.bind_some, h, Option.bind_some, if_pos hc]
theorem cl_D {d : D} (h : nlK d = true) : clean ⟨.S, d⟩ = true := nlK_of d h
theorem cl_L {l : List D} (h : nlL l = true) : clean ⟨.F, .list l⟩ = true := nlL_of l h
theorem ev_blt {b : Bl} {es : List E} {rs : List R} {r : R} (p : EvA Φ Ψ τ ρ es rs) (h : bltD b (rs.map (·.d)) = some r) : EvD Φ Ψ τ ρ (.blt b es) r.k r.d := by
  unfold EvA at p
  unfold EvD
  rw [ev, p, Option.bind_some, h, Option.map_some]
theorem bl_lenT {l : List D} : bltD .len [.tuple l] = some ⟨.S, .int (lenZ l)⟩ := by rw [lenZ_eq]; rfl
theorem bl_lenL {l : List D} : bltD .len [.list l] = some ⟨.S, .int (lenZ l)⟩ := by rw [lenZ_eq]; rfl
theorem bl_lenD {d : D} (h : isQ d = true) : bltD .len [d] = some ⟨.S, .int (lenZ (asQ d))⟩ := by
  rcases isQ_eq h with e | e
  · rw [e]; exact bl_lenT
  · rw [e]; exact bl_lenL
theorem bl_abs {i : Int} : bltD .abs [.int i] = some ⟨.S, .int (absI i)⟩ := by rw [absI_eq]; rfl
noncomputable def min2 (i j : Int) : Int := iteB (ltZ j i) j i
noncomputable def max2 (i j : Int) : Int := iteB (ltZ i j) j i
theorem bl_min {i j : Int} : bltD .min [.int i, .int j] = some ⟨.S, .int (min2 i j)⟩ := by unfold min2; rw [iteB_eq, ltZ_eq]; simp only [bltD, decide_eq_true_eq]
theorem bl_max {i j : Int} : bltD .max [.int i, .int j] = some ⟨.S, .int (max2 i j)⟩ := by unfold max2; rw [iteB_eq, ltZ_eq]; simp only [bltD, decide_eq_true_eq, gt_iff_lt]
theorem bl_intI {i : Int} : bltD .int [.int i] = some ⟨.S, .int i⟩ := rfl
theorem bl_intB {i : Bool} : bltD .int [.bool i] = some ⟨.S, .int (iteB i 1 0)⟩ := by cases i <;> rfl
theorem bl_tupL {l : List D} : bltD .tuple [.list l] = some ⟨.S, .tuple l⟩ := rfl
theorem bl_tupT {l : List D} : bltD .tuple [.tuple l] = some ⟨.S, .tuple l⟩ := rfl
theorem bl_lstL {l : List D} : bltD .list [.list l] = some ⟨.F, .list l⟩ := rfl
theorem bl_lstT {l : List D} : bltD .list [.tuple l] = some ⟨.F, .list l⟩ := rfl
theorem bl_tupD {d : D} (h : isQ d = true) : bltD .tuple [d] = some ⟨.S, .tuple (asQ d)⟩ := by
  rcases isQ_eq h with e | e <;> (rw [e]; rfl)
theorem bl_lstD {d : D} (h : isQ d = true) : bltD .list [d] = some ⟨.F, .list (asQ d)⟩ := by
  rcases isQ_eq h with e | e <;> (rw [e]; rfl)
theorem bl_sum {l : List D} (h : intsB l = true) : bltD .sum [.list l] = some ⟨.S, .int (sumK l 0)⟩ := by
  rw [sumK_eq, Int.zero_add]; simp only [bltD, intsK_eq h, Option.map_some]
theorem bl_any {l : List D} (h : boosB l = true) : bltD .any [.list l] = some ⟨.S, .bool (anyK l)⟩ := by
  obtain ⟨bs, h1, h2, h3⟩ := anyK_eq h
  simp only [bltD, h1, Option.map_some, h2]
theorem bl_all {l : List D} (h : boosB l = true) : bltD .all [.list l] = some ⟨.S, .bool (allK l)⟩ := by
  obtain ⟨bs, h1, h2, h3⟩ := anyK_eq h
  simp only [bltD, h1, Option.map_some, h3]
theorem bl_srt {l : List D} (h : intsB l = true) : bltD .sorted [.list l] = some ⟨.F, .list (boxK (srtK (intsK l)))⟩ := by
  rw [boxK_eq, srtK_eq]; simp only [bltD, intsK_eq h]
noncomputable def topK (l : List D) : Int := @List.rec D (fun _ => Int) 0 (fun a r _ => maxK (intsK r) (asI a)) l
noncomputable def lowK (l : List D) : Int := @List.rec D (fun _ => Int) 0 (fun a r _ => minK (intsK r) (asI a)) l
theorem maxL_eq {l : List D} (h : andB (neB l) (intsB l) = true) : (intsOf l).bind maxL = some (topK l) ∧ (intsOf l).bind minL = some (lowK l) := by
  rw [intsK_eq (andB_r h), Option.bind_some, Option.bind_some]
  cases l with
  | nil => cases h
  | cons a r =>
    show some ((intsK r).foldl max (asI a)) = some (maxK (intsK r) (asI a)) ∧ some ((intsK r).foldl min (asI a)) = some (minK (intsK r) (asI a))
    rw [maxK_eq, minK_eq]
    exact ⟨rfl, rfl⟩
theorem bl_topL {l : List D} (h : andB (neB l) (intsB l) = true) : bltD .max [.list l] = some ⟨.S, .int (topK l)⟩ := by
  have := (maxL_eq h).1
  simp only [bltD]
  cases e : intsOf l with
  | none => rw [e] at this; cases this
  | some ns => rw [e] at this; simp only [Option.bind_some] at this ⊢; rw [this, Option.map_some]
theorem bl_topT {l : List D} (h : andB (neB l) (intsB l) = true) : bltD .max [.tuple l] = some ⟨.S, .int (topK l)⟩ := bl_topL h
theorem bl_lowL {l : List D} (h : andB (neB l) (intsB l) = true) : bltD .min [.list l] = some ⟨.S, .int (lowK l)⟩ := by
  have := (maxL_eq h).2
  have e := intsK_eq (andB_r h)
  rw [e] at this
  simp only [Option.bind_some] at this
  simp only [bltD, e, this, Option.map_some]
theorem bl_lowT {l : List D} (h : andB (neB l) (intsB l) = true) : bltD .min [.tuple l] = some ⟨.S, .int (lowK l)⟩ := by
  have := (maxL_eq h).2
  have e := intsK_eq (andB_r h)
  rw [e] at this
  simp only [Option.bind_some] at this
  simp only [bltD, e, Option.bind_some, this, Option.map_some]
noncomputable def bitsK (i : Int) : Int := iteB (Nat.beq (absZ i) 0) 0 (.ofNat (.succ (Nat.log2 (absZ i))))
theorem bl_bits {i : Int} : bltD .bitlen [.int i] = some ⟨.S, .int (bitsK i)⟩ := by
  unfold bitsK
  rw [iteB_eq, absZ_eq, beq_dec]
  simp only [bltD]
  congr 2
  unfold Builtin.Int.intBits
  by_cases h : i = 0
  · subst h; rfl
  · simp only [h, if_false, show ¬ i.natAbs = 0 by omega, decide_false, Bool.false_eq_true]
    first | rfl | simp [h]
noncomputable def nubK (l : List Int) : List Int := RZ.nubI l
theorem bl_set {l : List D} (h : andB (intsB l) (Nat.ble (lenK l 0) 4000) = true) : bltD .setlen [.tuple l] = some ⟨.S, .int (.ofNat (nubK (intsK l)).length)⟩ := by
  have h1 := intsK_eq (andB_l h)
  have h2 := Nat.le_of_ble_eq_true (andB_r h)
  rw [lenK_eq] at h2
  have h3 : (intsK l).length = l.length := by
    clear h h1 h2
    induction l with
    | nil => rfl
    | cons a l ih => show (intsK l).length + 1 = _; rw [ih]; rfl
  simp only [bltD, h1, Option.bind_some]
  rw [if_pos (decide_eq_true (by omega))]
  rfl
end
end Nx

/-! ## Nx3 -/
namespace Nx
open PySem PySem.Spec PyProof.Rows L2 Ev
/-! ### what a for walks -/
noncomputable def rfB (i j : Int) : Bool := andB (Nat.ble (absZ i) 4611686018427387903) (Nat.ble (absZ j) 4611686018427387903)
theorem p62 : (2 : Int) ^ 62 = 4611686018427387904 := by
  rw [show (2 : Int) = ((2 : Nat) : Int) from rfl, ← Int.natCast_pow]; rfl
theorem rfB_eq {i j : Int} (h : rfB i j = true) : rngFits i j = true := by
  unfold rfB at h
  have h1 := Nat.le_of_ble_eq_true (andB_l h)
  have h2 := Nat.le_of_ble_eq_true (andB_r h)
  rw [absZ_eq] at h1 h2
  unfold rngFits
  rw [p62]
  simp only [Bool.and_eq_true, decide_eq_true_eq]
  omega
theorem it_1 {j : Int} (h : rfB 0 j = true) : itD 1 [.int j] = some (rngD 0 (natZ j)) := by
  have := rfB_eq h
  rw [natZ_eq]; simp only [itD, this, if_true]
theorem it_2 {i j : Int} (h : rfB i j = true) : itD 2 [.int i, .int j] = some (rngD i (natZ (subZ j i))) := by
  have := rfB_eq h
  rw [natZ_eq, subZ_eq]; simp only [itD, this, if_true]
theorem it_4 {i j : Int} (h : rfB i j = true) : itD 4 [.int i, .int j, .int (-1)] = some (rngC i (-1) (natZ (subZ i j))) := by
  have := rfB_eq h
  rw [natZ_eq, subZ_eq]; simp only [itD, this, decide_true, Bool.and_self, if_true]
noncomputable def cntS (i j c : Int) : Nat := iteB (leZ j i) 0 (.succ (natZ (fdivZ (subZ (subZ j i) 1) c)))
noncomputable def stpB (c : Int) : Bool := iteB (leZ c 0) false (Nat.ble (absZ c) 1073741823)
theorem it_5 {i j c : Int} (h : andB (rfB i j) (stpB c) = true) : itD 4 [.int i, .int j, .int c] = some (rngC i c (cntS i j c)) := by
  have h1 := rfB_eq (andB_l h)
  have h2 := andB_r h
  unfold stpB at h2
  have hc : 0 < c ∧ c < 1073741824 := by
    cases e : leZ c 0 with
    | true => rw [e] at h2; cases h2
    | false =>
      rw [e] at h2
      have h3 := Nat.le_of_ble_eq_true h2
      rw [leZ_eq] at e
      rw [absZ_eq] at h3
      have := of_decide_eq_false e
      omega
  have e1 : ¬ c = -1 := by omega
  have e2 : cntS i j c = rngN i j c := by
    unfold cntS rngN
    rw [leZ_eq]
    by_cases hij : i < j
    · rw [if_pos hij, show decide (j ≤ i) = false from decide_eq_false (by omega)]
      show Nat.succ (natZ _) = _
      rw [natZ_eq, fdivZ_eq, subZ_eq, subZ_eq]
      have := Int.ediv_nonneg (a := j - i - 1) (b := c) (by omega) (by omega)
      rw [Int.fdiv_eq_ediv_of_nonneg _ (by omega)]
      omega
    · rw [if_neg hij, show decide (j ≤ i) = true from decide_eq_true (by omega)]
      rfl
  simp only [itD, h1, e1, hc, e2, decide_true, decide_false, Bool.and_self, Bool.and_false, if_true, Bool.false_eq_true, if_false]
theorem it_0T {l : List D} : itD 0 [.tuple l] = some l := rfl
theorem it_0L {l : List D} : itD 0 [.list l] = some l := rfl
theorem it_0D {d : D} (h : isQ d = true) : itD 0 [d] = some (asQ d) := by
  rcases isQ_eq h with e | e <;> (rw [e]; rfl)
theorem it_3T {l : List D} : itD 3 [.tuple l] = some (enumD 0 l) := rfl
theorem it_3L {l : List D} : itD 3 [.list l] = some (enumD 0 l) := rfl
theorem it_3D {d : D} (h : isQ d = true) : itD 3 [d] = some (enumD 0 (asQ d)) := by
  rcases isQ_eq h with e | e <;> (rw [e]; rfl)
/-! ### pairs -/
noncomputable def dT2 {β : Type} (d : D) (g : β) (f : D → D → β) : β := dTup d g fun l => @List.rec D (fun _ => β) g (fun a l _ => @List.rec D (fun _ => β) g (fun b l _ => @List.rec D (fun _ => β) (f a b) (fun _ _ _ => g) l) l) l
noncomputable def dT3 {β : Type} (d : D) (g : β) (f : D → D → D → β) : β := dTup d g fun l => @List.rec D (fun _ => β) g (fun a l _ => @List.rec D (fun _ => β) g (fun b l _ => @List.rec D (fun _ => β) g (fun c l _ => @List.rec D (fun _ => β) (f a b c) (fun _ _ _ => g) l) l) l) l
noncomputable def dT4 {β : Type} (d : D) (g : β) (f : D → D → D → D → β) : β := dTup d g fun l => @List.rec D (fun _ => β) g (fun a l _ => @List.rec D (fun _ => β) g (fun b l _ => @List.rec D (fun _ => β) g (fun c l _ => @List.rec D (fun _ => β) g (fun e l _ => @List.rec D (fun _ => β) (f a b c e) (fun _ _ _ => g) l) l) l) l) l
noncomputable def is2 (d : D) : Bool := dT2 d false fun _ _ => true
noncomputable def x20 (d : D) : D := dT2 d .none fun a _ => a
noncomputable def x21 (d : D) : D := dT2 d .none fun _ b => b
noncomputable def is3 (d : D) : Bool := dT3 d false fun _ _ _ => true
noncomputable def x30 (d : D) : D := dT3 d .none fun a _ _ => a
noncomputable def x31 (d : D) : D := dT3 d .none fun _ b _ => b
noncomputable def x32 (d : D) : D := dT3 d .none fun _ _ c => c
theorem is2_eq {d : D} (h : is2 d = true) : d = .tuple [x20 d, x21 d] := by
  cases d with
  | tuple l => match l, h with
    | [a, b], _ => rfl
  | _ => cases h
theorem is3_eq {d : D} (h : is3 d = true) : d = .tuple [x30 d, x31 d, x32 d] := by
  cases d with
  | tuple l => match l, h with
    | [a, b, c], _ => rfl
  | _ => cases h
theorem tg_1 {ρ ρ' : Rho} {i : Nat} {d : D} (e : ρ.set i (.im d) = ρ') : tgD ρ (.nm i) d = some ρ' := by rw [← e]; rfl
theorem tg_2 {ρ ρ' : Rho} {i j : Nat} {d : D} (h : is2 d = true) (e : (ρ.set i (.im (x20 d))).set j (.im (x21 d)) = ρ') : tgD ρ (.tu [i, j]) d = some ρ' := by rw [← e, is2_eq h]; rfl
theorem tg_3 {ρ ρ' : Rho} {i j k : Nat} {d : D} (h : is3 d = true) (e : ((ρ.set i (.im (x30 d))).set j (.im (x31 d))).set k (.im (x32 d)) = ρ') : tgD ρ (.tu [i, j, k]) d = some ρ' := by rw [← e, is3_eq h]; rfl
/-! ### comprehensions -/
noncomputable def mapR (T : Int → D) (n : Nat) : Int → List D := @Nat.rec (fun _ => Int → List D) (fun _ => []) (fun _ ih i => frcI i fun i => T i :: ih (addZ i 1)) n
noncomputable def fltR (C : Int → Bool) (T : Int → D) (n : Nat) : Int → List D := @Nat.rec (fun _ => Int → List D) (fun _ => []) (fun _ ih i => frcI i fun i => iteB (C i) (T i :: ih (addZ i 1)) (ih (addZ i 1))) n
noncomputable def allR (G : Int → Bool) (n : Nat) : Int → Bool := @Nat.rec (fun _ => Int → Bool) (fun _ => true) (fun _ ih i => frcI i fun i => iteB (G i) (ih (addZ i 1)) false) n
noncomputable def mapQ (T : D → D) (l : List D) : List D := @List.rec D (fun _ => List D) [] (fun d _ ih => T d :: ih) l
noncomputable def fltQ (C : D → Bool) (T : D → D) (l : List D) : List D := @List.rec D (fun _ => List D) [] (fun d _ ih => iteB (C d) (T d :: ih) ih) l
noncomputable def allQ (G : D → Bool) (l : List D) : Bool := @List.rec D (fun _ => Bool) true (fun d _ ih => iteB (G d) ih false) l
theorem allR_s {G : Int → Bool} {n : Nat} {i : Int} (h : allR G (n + 1) i = true) : G i = true ∧ allR G n (addZ i 1) = true := by
  have h' : frcI i (fun i => iteB (G i) (allR G n (addZ i 1)) false) = true := h
  rw [frcI_eq] at h'
  cases hg : G i with
  | false => rw [hg] at h'; cases h'
  | true => rw [hg] at h'; exact ⟨rfl, h'⟩
theorem allQ_s {G : D → Bool} {d : D} {l : List D} (h : allQ G (d :: l) = true) : G d = true ∧ allQ G l = true := by
  have h' : iteB (G d) (allQ G l) false = true := h
  cases hg : G d with
  | false => rw [hg] at h'; cases h'
  | true => rw [hg] at h'; exact ⟨rfl, h'⟩
section
variable {Φ : Nat → List D → Option R} {Ψ : Nat → List D → Tp → Option (R × Tp)} {N : Nat} {τ : Tp} {ρ : Rho}
theorem cl_R {elt : E} {cond : List E} {v : Nat} {C G : Int → Bool} {T : Int → D} {k : Kd} {ρ0 : Rho} (hk : ∀ d, stb ⟨k, d⟩ = some d)
    (hc : ∀ i, G i = true → EvC Φ Ψ τ (ρ0.set v (.im (.int i))) cond (C i)) (he : ∀ i, G i = true → C i = true → EvD Φ Ψ τ (ρ0.set v (.im (.int i))) elt k (T i)) :
    ∀ (n : Nat) (i : Int), allR G n i = true → compL (fun ρ τ => ev Φ Ψ ρ τ elt) (fun ρ τ => evAll Φ Ψ ρ τ cond) ρ0 (.nm v) (rngD i n) τ = some (fltR C T n i, τ)
  | 0, i, _ => rfl
  | n + 1, i, h => by
    obtain ⟨h1, h2⟩ := allR_s h
    have ih := cl_R hk hc he n (addZ i 1) h2
    have e : fltR C T (n + 1) i = frcI i fun i => iteB (C i) (T i :: fltR C T n (addZ i 1)) (fltR C T n (addZ i 1)) := rfl
    rw [e, frcI_eq]
    rw [addZ_eq] at ih ⊢
    have hci := hc i h1
    unfold EvC at hci
    simp only [rngD, compL, tgD, Option.bind_some, hci]
    cases hC : C i with
    | false =>
      simp only [Bool.false_eq_true, if_false]
      rw [ih]; rfl
    | true =>
      have hei := he i h1 hC
      unfold EvD at hei
      simp only [if_true, hei, Option.bind_some, hk, ih, Option.map_some]
      rfl
theorem len_fltR (C : Int → Bool) (T : Int → D) : ∀ (n : Nat) (i : Int), (fltR C T n i).length ≤ n
  | 0, _ => Nat.le_refl _
  | n + 1, i => by
    have e : fltR C T (n + 1) i = frcI i fun i => iteB (C i) (T i :: fltR C T n (addZ i 1)) (fltR C T n (addZ i 1)) := rfl
    rw [e, frcI_eq]
    have := len_fltR C T n (addZ i 1)
    cases C i
    · show (fltR C T n (addZ i 1)).length ≤ n + 1
      omega
    · show (fltR C T n (addZ i 1)).length + 1 ≤ n + 1
      omega
theorem mapR_eq (T : Int → D) : ∀ (n : Nat) (i : Int), mapR T n i = fltR (fun _ => true) T n i
  | 0, _ => rfl
  | n + 1, i => by
    show frcI i (fun i => T i :: mapR T n (addZ i 1)) = frcI i (fun i => T i :: fltR (fun _ => true) T n (addZ i 1))
    rw [frcI_eq, frcI_eq, mapR_eq T n]
theorem ev_compR {elt : E} {cond its : List E} {v kk : Nat} {C G : Int → Bool} {T : Int → D} {k : Kd} {rs : List R} {n : Nat} {i : Int} {ρ0 : Rho} {ρ' : Int → Rho} (ha : EvA Φ Ψ τ ρ its rs) (hi : itD kk (rs.map (·.d)) = some (rngD i n)) (hn : Nat.ble n 16777215 = true) (hG : allR G n i = true) (hw : wipeR ρ [v] = ρ0) (hr : ∀ i, ρ0.set v (.im (.int i)) = ρ' i) (hk : ∀ d, stb ⟨k, d⟩ = some d)
    (hc : ∀ i, G i = true → EvC Φ Ψ τ (ρ' i) cond (C i)) (he : ∀ i, G i = true → C i = true → EvD Φ Ψ τ (ρ' i) elt k (T i)) : EvD Φ Ψ τ ρ (.comp elt (.nm v) kk its cond) .F (.list (fltR C T n i)) := by
  unfold EvA at ha
  unfold EvD
  have h := cl_R (Φ := Φ) (Ψ := Ψ) (τ := τ) (elt := elt) (cond := cond) (v := v) (ρ0 := ρ0) hk (fun i h => by rw [hr]; exact hc i h) (fun i h h' => by rw [hr]; exact he i h h') n i hG
  rw [ev, ha, Option.bind_some, hi, Option.bind_some]
  simp only [tgVs]
  rw [hw, h, Option.bind_some, if_pos]
  have := len_fltR C T n i
  have := Nat.le_of_ble_eq_true hn
  unfold shortL
  exact decide_eq_true (by show (fltR C T n i).length < 16777216; omega)
theorem ev_compR0 {elt : E} {its : List E} {v kk : Nat} {G : Int → Bool} {T : Int → D} {k : Kd} {rs : List R} {n : Nat} {i : Int} {ρ0 : Rho} {ρ' : Int → Rho} (ha : EvA Φ Ψ τ ρ its rs) (hi : itD kk (rs.map (·.d)) = some (rngD i n)) (hn : Nat.ble n 16777215 = true) (hG : allR G n i = true) (hw : wipeR ρ [v] = ρ0) (hr : ∀ i, ρ0.set v (.im (.int i)) = ρ' i) (hk : ∀ d, stb ⟨k, d⟩ = some d)
    (he : ∀ i, G i = true → EvD Φ Ψ τ (ρ' i) elt k (T i)) : EvD Φ Ψ τ ρ (.comp elt (.nm v) kk its []) .F (.list (mapR T n i)) := by
  rw [mapR_eq]
  exact ev_compR ha hi hn hG hw hr hk (fun _ _ => ec_nil) fun i h _ => he i h
theorem cl_Q {elt : E} {cond : List E} {tg : Tg} {C G : D → Bool} {T : D → D} {k : Kd} {ρ0 : Rho} {ρ' : D → Rho} (hk : ∀ d, stb ⟨k, d⟩ = some d) (hr : ∀ d, G d = true → tgD ρ0 tg d = some (ρ' d))
    (hc : ∀ d, G d = true → EvC Φ Ψ τ (ρ' d) cond (C d)) (he : ∀ d, G d = true → C d = true → EvD Φ Ψ τ (ρ' d) elt k (T d)) :
    ∀ (l : List D), allQ G l = true → compL (fun ρ τ => ev Φ Ψ ρ τ elt) (fun ρ τ => evAll Φ Ψ ρ τ cond) ρ0 tg l τ = some (fltQ C T l, τ)
  | [], _ => rfl
  | d :: l, h => by
    obtain ⟨h1, h2⟩ := allQ_s h
    have ih := cl_Q hk hr hc he l h2
    have e : fltQ C T (d :: l) = iteB (C d) (T d :: fltQ C T l) (fltQ C T l) := rfl
    rw [e]
    have hci := hc d h1
    unfold EvC at hci
    simp only [compL, hr d h1, Option.bind_some, hci]
    cases hC : C d with
    | false =>
      simp only [Bool.false_eq_true, if_false]
      rw [ih]; rfl
    | true =>
      have hei := he d h1 hC
      unfold EvD at hei
      simp only [if_true, hei, Option.bind_some, hk, ih, Option.map_some]
      rfl
theorem mapQ_eq (T : D → D) : ∀ l : List D, mapQ T l = fltQ (fun _ => true) T l
  | [] => rfl
  | d :: l => by show T d :: mapQ T l = T d :: fltQ (fun _ => true) T l; rw [mapQ_eq T l]
theorem ev_compQ {elt : E} {cond its : List E} {tg : Tg} {kk : Nat} {C G : D → Bool} {T : D → D} {k : Kd} {rs : List R} {l : List D} {ρ0 : Rho} {ρ' : D → Rho} (ha : EvA Φ Ψ τ ρ its rs) (hi : itD kk (rs.map (·.d)) = some l) (hn : shB (fltQ C T l) = true) (hG : allQ G l = true) (hw : wipeR ρ (tgVs tg) = ρ0) (hr : ∀ d, G d = true → tgD ρ0 tg d = some (ρ' d)) (hk : ∀ d, stb ⟨k, d⟩ = some d)
    (hc : ∀ d, G d = true → EvC Φ Ψ τ (ρ' d) cond (C d)) (he : ∀ d, G d = true → C d = true → EvD Φ Ψ τ (ρ' d) elt k (T d)) : EvD Φ Ψ τ ρ (.comp elt tg kk its cond) .F (.list (fltQ C T l)) := by
  unfold EvA at ha
  unfold EvD
  have h := cl_Q (Φ := Φ) (Ψ := Ψ) (τ := τ) (elt := elt) (cond := cond) (tg := tg) (ρ0 := ρ0) hk hr hc he l hG
  rw [ev, ha, Option.bind_some, hi, Option.bind_some, hw, h, Option.bind_some, if_pos (shB_eq hn)]
theorem ev_compQ0 {elt : E} {its : List E} {tg : Tg} {kk : Nat} {G : D → Bool} {T : D → D} {k : Kd} {rs : List R} {l : List D} {ρ0 : Rho} {ρ' : D → Rho} (ha : EvA Φ Ψ τ ρ its rs) (hi : itD kk (rs.map (·.d)) = some l) (hn : shB l = true) (hG : allQ G l = true) (hw : wipeR ρ (tgVs tg) = ρ0) (hr : ∀ d, G d = true → tgD ρ0 tg d = some (ρ' d)) (hk : ∀ d, stb ⟨k, d⟩ = some d)
    (he : ∀ d, G d = true → EvD Φ Ψ τ (ρ' d) elt k (T d)) : EvD Φ Ψ τ ρ (.comp elt tg kk its []) .F (.list (mapQ T l)) := by
  have hl : ∀ l : List D, (mapQ T l).length = l.length := by
    intro l
    induction l with
    | nil => rfl
    | cons d l ih => show (mapQ T l).length + 1 = _; rw [ih]; rfl
  have hn' : shB (mapQ T l) = true := by
    unfold shB at *
    rw [lenK_eq] at *
    rw [hl]; exact hn
  rw [mapQ_eq] at *
  exact ev_compQ ha hi hn' hG hw hr hk (fun _ _ => ec_nil) fun d h _ => he d h
/-! ### statements -/
section
variable {α γ : Type} {enc : α → γ}
def OkO (enc : α → γ) (o : Option Out) (K : Out → Option γ) (n : Option α) : Prop := ∀ v, n = some v → o.bind K = some (enc v)
def sq (Φ : Nat → List D → Option R) (Ψ : Nat → List D → Tp → Option (R × Tp)) (N : Nat) (rest : List S) (K : Out → Option γ) : Out → Option γ
  | .nx ρ τ => (evSs Φ Ψ N ρ τ rest).bind K
  | .bk ρ τ => K (.bk ρ τ)
  | .ct ρ τ => K (.ct ρ τ)
  | .rt r τ => K (.rt r τ)
def wh (Φ : Nat → List D → Option R) (Ψ : Nat → List D → Tp → Option (R × Tp)) (N : Nat) (c : E) (b : List S) (m : Nat) (ρ : Rho) (τ : Tp) : Option Out := whL (fun ρ τ => ev Φ Ψ ρ τ c) (fun ρ τ => evSs Φ Ψ N ρ τ b) m ρ τ
def fo (Φ : Nat → List D → Option R) (Ψ : Nat → List D → Tp → Option (R × Tp)) (N : Nat) (tg : Tg) (b : List S) (l : List D) (ρ : Rho) (τ : Tp) : Option Out := forL (fun ρ τ => evSs Φ Ψ N ρ τ b) tg l ρ τ
def lp (Φ : Nat → List D → Option R) (Ψ : Nat → List D → Tp → Option (R × Tp)) (N : Nat) (c : E) (b : List S) (m : Nat) (K : Out → Option γ) : Out → Option γ
  | .nx ρ τ => (wh Φ Ψ N c b m ρ τ).bind K
  | .ct ρ τ => (wh Φ Ψ N c b m ρ τ).bind K
  | .bk ρ τ => K (.nx ρ τ)
  | .rt r τ => K (.rt r τ)
def fp (Φ : Nat → List D → Option R) (Ψ : Nat → List D → Tp → Option (R × Tp)) (N : Nat) (tg : Tg) (b : List S) (l : List D) (K : Out → Option γ) : Out → Option γ
  | .nx ρ τ => (fo Φ Ψ N tg b l ρ τ).bind K
  | .ct ρ τ => (fo Φ Ψ N tg b l ρ τ).bind K
  | .bk ρ τ => K (.nx ρ τ)
  | .rt r τ => K (.rt r τ)
variable {K : Out → Option γ} {n : Option α} {rest : List S} {o : Option Out}
theorem ok_none : OkO enc o K none := fun _ h => by cases h
theorem ok_g {g : Bool} (h : g = true → OkO enc o K n) : OkO enc o K (iteB g n none) := fun v e => by
  cases g with
  | false => cases e
  | true => exact h rfl v e
theorem ok_bnd {β : Type} {t : Option β} {F : β → Option α} (h : ∀ x, t = some x → OkO enc o K (F x)) : OkO enc o K (bndO t F) := fun v e => by
  cases t with
  | none => cases e
  | some x => exact h x rfl v e
theorem ok_frcI {t : Int} {F : Int → Option α} (h : ∀ x, t = x → OkO enc o K (F x)) : OkO enc o K (frcI t F) := by rw [frcI_eq]; exact h t rfl
theorem ok_frcB {t : Bool} {F : Bool → Option α} (h : ∀ x, t = x → OkO enc o K (F x)) : OkO enc o K (frcB t F) := by rw [frcB_eq]; exact h t rfl
theorem ok_frcD {t : D} {F : D → Option α} (h : ∀ x, t = x → OkO enc o K (F x)) : OkO enc o K (frcDD t F) := by rw [frcDD_eq]; exact h t rfl
theorem ok_frcL {t : List D} {F : List D → Option α} (h : ∀ x, t = x → OkO enc o K (F x)) : OkO enc o K (frcLL t F) := by rw [frcLL_eq]; exact h t rfl
theorem ok_frcN {t : Nat} {F : Nat → Option α} (h : ∀ x, t = x → OkO enc o K (F x)) : OkO enc o K (frcN t F) := by rw [frcN_eq]; exact h t rfl
theorem ok_dInt {t : D} {F : Int → Option α} (h : ∀ x, t = .int x → OkO enc o K (F x)) : OkO enc o K (dInt t none F) := fun v e => by
  cases t <;> first | (exact h _ rfl v e) | cases e
theorem ok_dBool {t : D} {F : Bool → Option α} (h : ∀ x, t = .bool x → OkO enc o K (F x)) : OkO enc o K (dBool t none F) := fun v e => by
  cases t <;> first | (exact h _ rfl v e) | cases e
theorem ok_dTup {t : D} {F : List D → Option α} (h : ∀ x, t = .tuple x → OkO enc o K (F x)) : OkO enc o K (dTup t none F) := fun v e => by
  cases t <;> first | (exact h _ rfl v e) | cases e
theorem ok_dLst {t : D} {F : List D → Option α} (h : ∀ x, t = .list x → OkO enc o K (F x)) : OkO enc o K (dLst t none F) := fun v e => by
  cases t <;> first | (exact h _ rfl v e) | cases e
theorem ok_dT2 {t : D} {F : D → D → Option α} (h : ∀ a b, t = .tuple [a, b] → OkO enc o K (F a b)) : OkO enc o K (dT2 t none F) := fun v e => by
  cases t with
  | tuple l => match l, e with
    | [a, b], e => exact h a b rfl v e
  | _ => cases e
theorem ok_dT3 {t : D} {F : D → D → D → Option α} (h : ∀ a b c, t = .tuple [a, b, c] → OkO enc o K (F a b c)) : OkO enc o K (dT3 t none F) := fun v e => by
  cases t with
  | tuple l => match l, e with
    | [a, b, c], e => exact h a b c rfl v e
  | _ => cases e
theorem ok_dT4 {t : D} {F : D → D → D → D → Option α} (h : ∀ a b c e, t = .tuple [a, b, c, e] → OkO enc o K (F a b c e)) : OkO enc o K (dT4 t none F) := fun v e => by
  cases t with
  | tuple l => match l, e with
    | [a, b, c, f], e => exact h a b c f rfl v e
  | _ => cases e
theorem ok_nil (h : OkO enc (some (.nx ρ τ)) K n) : OkO enc (evSs Φ Ψ N ρ τ []) K n := by rw [evSs]; exact h
theorem ok_seq {s : S} (h : OkO enc (evS Φ Ψ N ρ τ s) (sq Φ Ψ N rest K) n) : OkO enc (evSs Φ Ψ N ρ τ (s :: rest)) K n := fun v e => by
  have := h v e
  rw [evSs]
  cases q : evS Φ Ψ N ρ τ s with
  | none => rw [q] at this; cases this
  | some o => rw [q] at this; cases o <;> exact this
theorem nx_sq (h : OkO enc (evSs Φ Ψ N ρ τ rest) K n) : OkO enc (some (.nx ρ τ)) (sq Φ Ψ N rest K) n := h
theorem bk_sq (h : OkO enc (some (.bk ρ τ)) K n) : OkO enc (some (.bk ρ τ)) (sq Φ Ψ N rest K) n := h
theorem ct_sq (h : OkO enc (some (.ct ρ τ)) K n) : OkO enc (some (.ct ρ τ)) (sq Φ Ψ N rest K) n := h
theorem rt_sq {r : R} (h : OkO enc (some (.rt r τ)) K n) : OkO enc (some (.rt r τ)) (sq Φ Ψ N rest K) n := h
section
variable {c : E} {b : List S} {m : Nat} {tg : Tg} {l : List D}
theorem nx_lp (h : OkO enc (wh Φ Ψ N c b m ρ τ) K n) : OkO enc (some (.nx ρ τ)) (lp Φ Ψ N c b m K) n := h
theorem ct_lp (h : OkO enc (wh Φ Ψ N c b m ρ τ) K n) : OkO enc (some (.ct ρ τ)) (lp Φ Ψ N c b m K) n := h
theorem bk_lp (h : OkO enc (some (.nx ρ τ)) K n) : OkO enc (some (.bk ρ τ)) (lp Φ Ψ N c b m K) n := h
theorem rt_lp {r : R} (h : OkO enc (some (.rt r τ)) K n) : OkO enc (some (.rt r τ)) (lp Φ Ψ N c b m K) n := h
theorem nx_fp (h : OkO enc (fo Φ Ψ N tg b l ρ τ) K n) : OkO enc (some (.nx ρ τ)) (fp Φ Ψ N tg b l K) n := h
theorem ct_fp (h : OkO enc (fo Φ Ψ N tg b l ρ τ) K n) : OkO enc (some (.ct ρ τ)) (fp Φ Ψ N tg b l K) n := h
theorem bk_fp (h : OkO enc (some (.nx ρ τ)) K n) : OkO enc (some (.bk ρ τ)) (fp Φ Ψ N tg b l K) n := h
theorem rt_fp {r : R} (h : OkO enc (some (.rt r τ)) K n) : OkO enc (some (.rt r τ)) (fp Φ Ψ N tg b l K) n := h
theorem wh_step {k : Kd} {t : Bool} {Y Z : Option α} (p : EvD Φ Ψ τ ρ c k (.bool t)) (hb : OkO enc (evSs Φ Ψ N ρ τ b) (lp Φ Ψ N c b m K) Y) (ha : OkO enc (some (.nx ρ τ)) K Z) : OkO enc (wh Φ Ψ N c b (m + 1) ρ τ) K (iteB t Y Z) := fun v e => by
  unfold EvD at p
  unfold wh
  rw [whL, p, Option.bind_some]
  cases t with
  | false => exact ha v e
  | true =>
    have := hb v e
    show ((evSs Φ Ψ N ρ τ b).bind _).bind K = _
    cases q : evSs Φ Ψ N ρ τ b with
    | none => rw [q] at this; cases this
    | some o => rw [q] at this; cases o <;> exact this
theorem fo_nil (h : OkO enc (some (.nx ρ τ)) K n) : OkO enc (fo Φ Ψ N tg b [] ρ τ) K n := h
theorem fo_cons {d : D} {ρ1 : Rho} (ht : tgD ρ tg d = some ρ1) (hb : OkO enc (evSs Φ Ψ N ρ1 τ b) (fp Φ Ψ N tg b l K) n) : OkO enc (fo Φ Ψ N tg b (d :: l) ρ τ) K n := fun v e => by
  have := hb v e
  unfold fo
  rw [forL, ht, Option.bind_some]
  cases q : evSs Φ Ψ N ρ1 τ b with
  | none => rw [q] at this; cases this
  | some o => rw [q] at this; cases o <;> exact this
end
theorem st_set {e : E} {i : Nat} {d : D} {ρ' : Rho} (p : EvD Φ Ψ τ ρ e .S d) (hr : ρ.set i (.im d) = ρ') (h : OkO enc (evSs Φ Ψ N ρ' τ rest) K n) : OkO enc (evSs Φ Ψ N ρ τ (.set (.nm i) e :: rest)) K n := ok_seq (by
  unfold EvD at p
  rw [evS, p, Option.bind_some]
  subst hr
  exact h)
theorem st_setL {e : E} {i : Nat} {l : List D} {ρ' : Rho} (p : EvD Φ Ψ τ ρ e .F (.list l)) (hr : ρ.set i (.ow l) = ρ') (h : OkO enc (evSs Φ Ψ N ρ' τ rest) K n) : OkO enc (evSs Φ Ψ N ρ τ (.set (.nm i) e :: rest)) K n := ok_seq (by
  unfold EvD at p
  rw [evS, p, Option.bind_some]
  subst hr
  exact h)
theorem st_setT {e : E} {is : List Nat} {k : Kd} {ds : List D} {ρ' : Rho} (p : EvD Φ Ψ τ ρ e k (.tuple ds)) (hr : setsD ρ is ds = some ρ') (h : OkO enc (evSs Φ Ψ N ρ' τ rest) K n) : OkO enc (evSs Φ Ψ N ρ τ (.set (.tu is) e :: rest)) K n := ok_seq (by
  unfold EvD at p
  rw [evS, p, Option.bind_some]
  show OkO enc ((setsD ρ is ds).map _) _ _
  rw [hr]
  exact h)
theorem st_par2 {a b : E} {i j : Nat} {k l : Kd} {x y : D} {ρ' : Rho} (p : EvD Φ Ψ τ ρ a k x) (q : EvD Φ Ψ τ ρ b l y) (hk : stb ⟨k, x⟩ = some x) (hl : stb ⟨l, y⟩ = some y) (hr : (ρ.set i (.im x)).set j (.im y) = ρ') (h : OkO enc (evSs Φ Ψ N ρ' τ rest) K n) : OkO enc (evSs Φ Ψ N ρ τ (.par2 i j a b :: rest)) K n := ok_seq (by
  unfold EvD at p q
  rw [evS, p, Option.bind_some, q, Option.bind_some, hk, Option.bind_some, hl]
  subst hr
  exact h)
theorem st_par3 {a b c : E} {i j m : Nat} {k l o : Kd} {x y z : D} {ρ' : Rho} (p : EvD Φ Ψ τ ρ a k x) (q : EvD Φ Ψ τ ρ b l y) (r : EvD Φ Ψ τ ρ c o z) (hk : stb ⟨k, x⟩ = some x) (hl : stb ⟨l, y⟩ = some y) (ho : stb ⟨o, z⟩ = some z) (hr : ((ρ.set i (.im x)).set j (.im y)).set m (.im z) = ρ') (h : OkO enc (evSs Φ Ψ N ρ' τ rest) K n) : OkO enc (evSs Φ Ψ N ρ τ (.par3 i j m a b c :: rest)) K n := ok_seq (by
  unfold EvD at p q r
  rw [evS, p, Option.bind_some, q, Option.bind_some, r, Option.bind_some, hk, Option.bind_some, hl, Option.bind_some, ho]
  subst hr
  exact h)
theorem st_aug {e : E} {op : Bo} {i : Nat} {k : Kd} {d g r : D} {ρ' : Rho} (hi : ρ[i]? = some (.im d)) (p : EvD Φ Ψ τ ρ e k g) (ha : augD op d g = some r) (hr : ρ.set i (.im r) = ρ') (h : OkO enc (evSs Φ Ψ N ρ' τ rest) K n) : OkO enc (evSs Φ Ψ N ρ τ (.aug i op e :: rest)) K n := ok_seq (by
  unfold EvD at p
  rw [evS, hi]
  simp only []
  rw [p, Option.bind_some, ha]
  subst hr
  exact h)
theorem ag_add {x y : Int} : augD .add (.int x) (.int y) = some (.int (addZ x y)) := by rw [addZ_eq]; rfl
theorem ag_sub {x y : Int} : augD .sub (.int x) (.int y) = some (.int (subZ x y)) := by rw [subZ_eq]; rfl
theorem ag_mul {x y : Int} (h : mulB x y = true) : augD .mul (.int x) (.int y) = some (.int (mulZ x y)) := by rw [mulZ_eq]; rw [mulB_eq] at h; simp only [augD, h, if_true]
theorem ag_fdiv {x y : Int} (h : divB y = true) (h0 : ltZ 0 y = true) : augD .fdiv (.int x) (.int y) = some (.int (fdivZ x y)) := by
  rw [fdivZ_eq]; rw [divB_eq] at h; rw [ltZ_eq] at h0
  simp only [augD, h, h0, Bool.and_self, if_true]
theorem ag_mod {x y : Int} (h0 : ltZ 0 y = true) : augD .mod (.int x) (.int y) = some (.int (fmodZ x y)) := by
  rw [fmodZ_eq]; rw [ltZ_eq] at h0
  simp only [augD, h0, if_true]
theorem st_app {e : E} {i : Nat} {k : Kd} {d : D} {l : List D} {ρ' : Rho} (hi : ρ[i]? = some (.ow l)) (p : EvD Φ Ψ τ ρ e k d) (hk : stb ⟨k, d⟩ = some d) (hs : shB l = true) (hr : ρ.set i (.ow (appK l [d])) = ρ') (h : OkO enc (evSs Φ Ψ N ρ' τ rest) K n) : OkO enc (evSs Φ Ψ N ρ τ (.app i e :: rest)) K n := ok_seq (by
  unfold EvD at p
  rw [appK_eq] at hr
  rw [evS, hi]
  simp only []
  rw [p, Option.bind_some, hk, Option.bind_some, if_pos (shB_eq hs)]
  subst hr
  exact h)
theorem st_ext {e : E} {i : Nat} {k : Kd} {l m : List D} {ρ' : Rho} (hi : ρ[i]? = some (.ow l)) (p : EvD Φ Ψ τ ρ e k (.list m)) (hs : shB (appK l m) = true) (hr : ρ.set i (.ow (appK l m)) = ρ') (h : OkO enc (evSs Φ Ψ N ρ' τ rest) K n) : OkO enc (evSs Φ Ψ N ρ τ (.ext i e :: rest)) K n := ok_seq (by
  unfold EvD at p
  have hs' := shB_eq hs
  rw [appK_eq] at hr hs'
  rw [evS, hi]
  simp only []
  rw [p, Option.bind_some]
  show OkO enc (if shortL (l ++ m) then _ else _) _ _
  rw [if_pos hs']
  subst hr
  exact h)
noncomputable def iniK {α : Type} (l : List α) : List α := @List.rec α (fun _ => List α) [] (fun a r ih => @List.rec α (fun _ => List α) [] (fun _ _ _ => a :: ih) r) l
noncomputable def lasK {α : Type} (l : List α) : Option α := @List.rec α (fun _ => Option α) none (fun a r ih => @List.rec α (fun _ => Option α) (some a) (fun _ _ _ => ih) r) l
theorem iniK_eq {α : Type} : ∀ l : List α, iniK l = l.dropLast
  | [] => rfl
  | [a] => rfl
  | a :: b :: r => by show a :: iniK (b :: r) = _; rw [iniK_eq (b :: r)]; rfl
theorem lasK_eq {α : Type} : ∀ l : List α, lasK l = l.getLast?
  | [] => rfl
  | [a] => rfl
  | a :: b :: r => by show lasK (b :: r) = _; rw [lasK_eq (b :: r)]; simp
theorem st_pop {i : Nat} {l : List D} {ρ' : Rho} (hi : ρ[i]? = some (.ow l)) (hs : neB l = true) (hr : ρ.set i (.ow (iniK l)) = ρ') (h : OkO enc (evSs Φ Ψ N ρ' τ rest) K n) : OkO enc (evSs Φ Ψ N ρ τ (.pop i :: rest)) K n := ok_seq (by
  rw [iniK_eq] at hr
  rw [evS, hi]
  simp only []
  rw [if_neg (by cases l with | nil => cases hs | cons a r => (intro z; cases z))]
  subst hr
  exact h)
theorem st_popt {tg : Tg} {i : Nat} {l : List D} {d : D} {ρ' : Rho} (hi : ρ[i]? = some (.ow l)) (hs : lasK l = some d) (hr : tgD (ρ.set i (.ow (iniK l))) tg d = some ρ') (h : OkO enc (evSs Φ Ψ N ρ' τ rest) K n) : OkO enc (evSs Φ Ψ N ρ τ (.popt tg i :: rest)) K n := ok_seq (by
  rw [iniK_eq] at hr
  rw [lasK_eq] at hs
  rw [evS, hi]
  simp only [hs]
  rw [hr]
  exact h)
theorem st_mov {i j : Nat} {d : D} {ρ' : Rho} (hi : ρ[j]? = some (.im d)) (hr : ρ.set i (.im d) = ρ') (h : OkO enc (evSs Φ Ψ N ρ' τ rest) K n) : OkO enc (evSs Φ Ψ N ρ τ (.mov i j :: rest)) K n := ok_seq (by
  rw [evS, hi]
  subst hr
  exact h)
theorem st_movL {i j : Nat} {l : List D} {ρ' : Rho} (hi : ρ[j]? = some (.ow l)) (hr : (ρ.set j .un).set i (.ow l) = ρ') (h : OkO enc (evSs Φ Ψ N ρ' τ rest) K n) : OkO enc (evSs Φ Ψ N ρ τ (.mov i j :: rest)) K n := ok_seq (by
  rw [evS, hi]
  subst hr
  exact h)
noncomputable def stK {α : Type} (d : α) (l : List α) : Nat → Option (List α) := @List.rec α (fun _ => Nat → Option (List α)) (fun _ => none) (fun a r ih j => @Nat.rec (fun _ => Option (List α)) (some (d :: r)) (fun j _ => bndO (ih j) fun r => some (a :: r)) j) l
noncomputable def sxK (l : List D) (i : Int) (d : D) : Option (List D) := @Int.rec (fun _ => Option (List D)) (fun j => stK d l j) (fun m => iteB (Nat.ble (.succ m) (lenK l 0)) (stK d l (Nat.sub (lenK l 0) (.succ m))) none) i
theorem stK_eq {α : Type} (d : α) : ∀ (l : List α) (j : Nat) (l' : List α), stK d l j = some l' → j < l.length ∧ l.set j d = l'
  | [], _, _, h => by cases h
  | a :: r, 0, l', h => by
    have h' : some (d :: r) = some l' := h
    cases h'
    exact ⟨Nat.succ_pos _, rfl⟩
  | a :: r, j + 1, l', h => by
    have h' : bndO (stK d r j) (fun r => some (a :: r)) = some l' := h
    cases q : stK d r j with
    | none => rw [q] at h'; cases h'
    | some r' =>
      rw [q] at h'
      have e : some (a :: r') = some l' := h'
      cases e
      have := stK_eq d r j r' q
      exact ⟨Nat.succ_lt_succ this.1, by rw [List.set_cons_succ, this.2]⟩
theorem sxK_eq {l l' : List D} {i : Int} {d : D} (h : sxK l i d = some l') : ∃ j, ixN l.length i = some j ∧ l.set j d = l' := by
  cases i with
  | ofNat j =>
    have := stK_eq d l j l' h
    refine ⟨j, ?_, this.2⟩
    unfold ixN
    rw [if_pos (by show (0 : Int) ≤ (j : Int); omega), if_pos (by show (j : Int) < _; omega)]; rfl
  | negSucc m =>
    have e0 : lenK l 0 = l.length := by rw [lenK_eq]; rfl
    have h' : iteB (Nat.ble (m + 1) (lenK l 0)) (stK d l (lenK l 0 - (m + 1))) none = some l' := h
    rw [e0] at h'
    cases q : Nat.ble (m + 1) l.length with
    | false => rw [q] at h'; cases h'
    | true =>
      rw [q] at h'
      have hm := Nat.le_of_ble_eq_true q
      have := stK_eq d l _ l' h'
      refine ⟨l.length - (m + 1), ?_, this.2⟩
      unfold ixN
      rw [if_neg (by omega), if_pos (by omega)]
      congr 1
      omega
theorem st_sti {ix e : E} {i : Nat} {k kx : Kd} {x : Int} {d : D} {l l' : List D} {ρ' : Rho} (p : EvD Φ Ψ τ ρ e k d) (hk : stb ⟨k, d⟩ = some d) (hi : ρ[i]? = some (.ow l)) (q : EvD Φ Ψ τ ρ ix kx (.int x)) (hs : sxK l x d = some l') (hr : ρ.set i (.ow l') = ρ') (h : OkO enc (evSs Φ Ψ N ρ' τ rest) K n) : OkO enc (evSs Φ Ψ N ρ τ (.sti i ix e :: rest)) K n := ok_seq (by
  unfold EvD at p q
  obtain ⟨j, e1, e2⟩ := sxK_eq hs
  rw [evS, p, Option.bind_some, hk, Option.bind_some, hi]
  simp only []
  rw [q, Option.bind_some]
  simp only [intOf, Option.bind_some]
  rw [e1, Option.map_some, e2]
  subst hr
  exact h)
theorem st_ret {e : E} {k : Kd} {d : D} (p : EvD Φ Ψ τ ρ e k d) (hk : stb ⟨k, d⟩ = some d) (h : OkO enc (some (.rt ⟨k, d⟩ τ)) K n) : OkO enc (evSs Φ Ψ N ρ τ (.ret e :: rest)) K n := ok_seq (by
  unfold EvD at p
  rw [evS, p, Option.bind_some]
  cases k with
  | B => cases hk
  | S => exact h
  | F => exact h)
theorem st_retv {i : Nat} {d : D} (hi : ρ[i]? = some (.im d)) (h : OkO enc (some (.rt ⟨.S, d⟩ τ)) K n) : OkO enc (evSs Φ Ψ N ρ τ (.retv i :: rest)) K n := ok_seq (by
  rw [evS, hi]; exact h)
theorem st_retvL {i : Nat} {l : List D} (hi : ρ[i]? = some (.ow l)) (h : OkO enc (some (.rt ⟨.F, .list l⟩ τ)) K n) : OkO enc (evSs Φ Ψ N ρ τ (.retv i :: rest)) K n := ok_seq (by
  rw [evS, hi]; exact h)
theorem st_retn (h : OkO enc (some (.rt ⟨.S, .none⟩ τ)) K n) : OkO enc (evSs Φ Ψ N ρ τ (.retn :: rest)) K n := ok_seq (by
  rw [evS]; exact h)
theorem st_ite {c : E} {a b : List S} {k : Kd} {t : Bool} {Y Z : Option α} (p : EvD Φ Ψ τ ρ c k (.bool t)) (ha : OkO enc (evSs Φ Ψ N ρ τ a) (sq Φ Ψ N rest K) Y) (hb : OkO enc (evSs Φ Ψ N ρ τ b) (sq Φ Ψ N rest K) Z) : OkO enc (evSs Φ Ψ N ρ τ (.ite c a b :: rest)) K (iteB t Y Z) := ok_seq (by
  unfold EvD at p
  rw [evS, p, Option.bind_some]
  cases t with
  | false => exact hb
  | true => exact ha)
/-- with a place where both ways meet -/
theorem st_iteJ (P : Rho → Option α → Prop) {c : E} {a b : List S} {k : Kd} {t : Bool} {Y Z : Option α} (hJ : ∀ ρ n, P ρ n → OkO enc (evSs Φ Ψ N ρ τ rest) K n) (p : EvD Φ Ψ τ ρ c k (.bool t)) (ha : (∀ ρ n, P ρ n → OkO enc (some (.nx ρ τ)) (sq Φ Ψ N rest K) n) → OkO enc (evSs Φ Ψ N ρ τ a) (sq Φ Ψ N rest K) Y) (hb : (∀ ρ n, P ρ n → OkO enc (some (.nx ρ τ)) (sq Φ Ψ N rest K) n) → OkO enc (evSs Φ Ψ N ρ τ b) (sq Φ Ψ N rest K) Z) : OkO enc (evSs Φ Ψ N ρ τ (.ite c a b :: rest)) K (iteB t Y Z) := st_ite p (ha hJ) (hb hJ)
theorem st_exp {e : E} {k : Kd} {d : D} (p : EvD Φ Ψ τ ρ e k d) (h : OkO enc (evSs Φ Ψ N ρ τ rest) K n) : OkO enc (evSs Φ Ψ N ρ τ (.exp e :: rest)) K n := ok_seq (by
  unfold EvD at p
  rw [evS, p]; exact h)
theorem st_pas (h : OkO enc (evSs Φ Ψ N ρ τ rest) K n) : OkO enc (evSs Φ Ψ N ρ τ (.pas :: rest)) K n := ok_seq (by rw [evS]; exact h)
theorem st_brk (h : OkO enc (some (.bk ρ τ)) K n) : OkO enc (evSs Φ Ψ N ρ τ (.brk :: rest)) K n := ok_seq (by rw [evS]; exact h)
theorem st_cnt (h : OkO enc (some (.ct ρ τ)) K n) : OkO enc (evSs Φ Ψ N ρ τ (.cnt :: rest)) K n := ok_seq (by rw [evS]; exact h)
theorem st_whl (PK : Rho → Option α → Prop) (P : Nat → Rho → Option α → Prop) {c : E} {b : List S} (hK : ∀ ρ n, PK ρ n → OkO enc (evSs Φ Ψ N ρ τ rest) K n) (h0 : P N ρ n) (hz : ∀ ρ n, P 0 ρ n → n = none)
    (hs : (∀ ρ n, PK ρ n → OkO enc (some (.nx ρ τ)) (sq Φ Ψ N rest K) n) → ∀ m, (∀ ρ n, P m ρ n → OkO enc (wh Φ Ψ N c b m ρ τ) (sq Φ Ψ N rest K) n) → ∀ ρ n, P (m + 1) ρ n → OkO enc (wh Φ Ψ N c b (m + 1) ρ τ) (sq Φ Ψ N rest K) n) : OkO enc (evSs Φ Ψ N ρ τ (.whl c b :: rest)) K n := ok_seq (by
  rw [evS]
  have : ∀ m ρ n, P m ρ n → OkO enc (wh Φ Ψ N c b m ρ τ) (sq Φ Ψ N rest K) n := by
    intro m
    induction m with
    | zero => intro ρ n h; rw [hz ρ n h]; exact ok_none
    | succ m ih => exact hs hK m ih
  exact this N ρ n h0)
theorem st_for {tg : Tg} {k : Nat} {its : List E} {b : List S} {rs : List R} {l : List D} (ha : EvA Φ Ψ τ ρ its rs) (nb : (rs.any fun r => r.k == .B) = false) (hi : itD k (rs.map (·.d)) = some l) (h : OkO enc (fo Φ Ψ N tg b l ρ τ) (sq Φ Ψ N rest K) n) : OkO enc (evSs Φ Ψ N ρ τ (.for_ tg k its b :: rest)) K n := ok_seq (by
  unfold EvA at ha
  rw [evS, ha, Option.bind_some, hi, Option.bind_some, if_neg (by rw [nb]; decide)]
  exact h)
theorem st_forv {tg : Tg} {i : Nat} {b : List S} {d : D} {l : List D} (hd : ρ[i]? = some (.im d)) (hi : itD 0 [d] = some l) (h : OkO enc (fo Φ Ψ N tg b l ρ τ) (sq Φ Ψ N rest K) n) : OkO enc (evSs Φ Ψ N ρ τ (.forv tg i b :: rest)) K n := ok_seq (by
  rw [evS, hd]
  simp only []
  rw [hi]
  exact h)
theorem st_forvL {tg : Tg} {i : Nat} {b : List S} {l : List D} {ρ' : Rho} (hd : ρ[i]? = some (.ow l)) (hr : ρ.set i (.im (.list l)) = ρ') (h : OkO enc (fo Φ Ψ N tg b l ρ' τ) (sq Φ Ψ N rest K) n) : OkO enc (evSs Φ Ψ N ρ τ (.forv tg i b :: rest)) K n := ok_seq (by
  rw [evS, hd]
  subst hr
  exact h)
/-- loops over items: the same shape for ranges, items, pairs of enumerate -/
theorem fo_R (PK : Rho → Option α → Prop) (P : Nat → Int → Rho → Option α → Prop) {tg : Tg} {b : List S} {m : Nat} {i : Int} (hK : ∀ ρ n, PK ρ n → OkO enc (evSs Φ Ψ N ρ τ rest) K n) (h0 : P m i ρ n)
    (hz : (∀ ρ n, PK ρ n → OkO enc (some (.nx ρ τ)) (sq Φ Ψ N rest K) n) → ∀ i ρ n, P 0 i ρ n → OkO enc (some (.nx ρ τ)) (sq Φ Ψ N rest K) n)
    (hs : (∀ ρ n, PK ρ n → OkO enc (some (.nx ρ τ)) (sq Φ Ψ N rest K) n) → ∀ m i, (∀ ρ n, P m (addZ i 1) ρ n → OkO enc (fo Φ Ψ N tg b (rngD (addZ i 1) m) ρ τ) (sq Φ Ψ N rest K) n) → ∀ ρ n, P (m + 1) i ρ n → OkO enc (fo Φ Ψ N tg b (.int i :: rngD (addZ i 1) m) ρ τ) (sq Φ Ψ N rest K) n) :
    OkO enc (fo Φ Ψ N tg b (rngD i m) ρ τ) (sq Φ Ψ N rest K) n := by
  have : ∀ m i ρ n, P m i ρ n → OkO enc (fo Φ Ψ N tg b (rngD i m) ρ τ) (sq Φ Ψ N rest K) n := by
    intro m
    induction m with
    | zero => intro i ρ n h; exact hz hK i ρ n h
    | succ m ih =>
      intro i ρ n h
      have := hs hK m i (fun ρ n h => ih _ ρ n h) ρ n h
      rw [addZ_eq] at this
      exact this
  exact this m i ρ n h0
theorem fo_C (PK : Rho → Option α → Prop) (P : Nat → Int → Rho → Option α → Prop) {tg : Tg} {b : List S} {m : Nat} {i : Int} (hK : ∀ ρ n, PK ρ n → OkO enc (evSs Φ Ψ N ρ τ rest) K n) (h0 : P m i ρ n)
    (hz : (∀ ρ n, PK ρ n → OkO enc (some (.nx ρ τ)) (sq Φ Ψ N rest K) n) → ∀ i ρ n, P 0 i ρ n → OkO enc (some (.nx ρ τ)) (sq Φ Ψ N rest K) n)
    (hs : (∀ ρ n, PK ρ n → OkO enc (some (.nx ρ τ)) (sq Φ Ψ N rest K) n) → ∀ m i, (∀ ρ n, P m (subZ i 1) ρ n → OkO enc (fo Φ Ψ N tg b (rngC (subZ i 1) (-1) m) ρ τ) (sq Φ Ψ N rest K) n) → ∀ ρ n, P (m + 1) i ρ n → OkO enc (fo Φ Ψ N tg b (.int i :: rngC (subZ i 1) (-1) m) ρ τ) (sq Φ Ψ N rest K) n) :
    OkO enc (fo Φ Ψ N tg b (rngC i (-1) m) ρ τ) (sq Φ Ψ N rest K) n := by
  have : ∀ m i ρ n, P m i ρ n → OkO enc (fo Φ Ψ N tg b (rngC i (-1) m) ρ τ) (sq Φ Ψ N rest K) n := by
    intro m
    induction m with
    | zero => intro i ρ n h; exact hz hK i ρ n h
    | succ m ih =>
      intro i ρ n h
      have := hs hK m i (fun ρ n h => ih _ ρ n h) ρ n h
      rw [subZ_eq] at this
      exact this
  exact this m i ρ n h0
theorem fo_S (c : Int) (PK : Rho → Option α → Prop) (P : Nat → Int → Rho → Option α → Prop) {tg : Tg} {b : List S} {m : Nat} {i : Int} (hK : ∀ ρ n, PK ρ n → OkO enc (evSs Φ Ψ N ρ τ rest) K n) (h0 : P m i ρ n)
    (hz : (∀ ρ n, PK ρ n → OkO enc (some (.nx ρ τ)) (sq Φ Ψ N rest K) n) → ∀ i ρ n, P 0 i ρ n → OkO enc (some (.nx ρ τ)) (sq Φ Ψ N rest K) n)
    (hs : (∀ ρ n, PK ρ n → OkO enc (some (.nx ρ τ)) (sq Φ Ψ N rest K) n) → ∀ m i, (∀ ρ n, P m (addZ i c) ρ n → OkO enc (fo Φ Ψ N tg b (rngC (addZ i c) c m) ρ τ) (sq Φ Ψ N rest K) n) → ∀ ρ n, P (m + 1) i ρ n → OkO enc (fo Φ Ψ N tg b (.int i :: rngC (addZ i c) c m) ρ τ) (sq Φ Ψ N rest K) n) :
    OkO enc (fo Φ Ψ N tg b (rngC i c m) ρ τ) (sq Φ Ψ N rest K) n := by
  have : ∀ m i ρ n, P m i ρ n → OkO enc (fo Φ Ψ N tg b (rngC i c m) ρ τ) (sq Φ Ψ N rest K) n := by
    intro m
    induction m with
    | zero => intro i ρ n h; exact hz hK i ρ n h
    | succ m ih =>
      intro i ρ n h
      have := hs hK m i (fun ρ n h => ih _ ρ n h) ρ n h
      rw [addZ_eq] at this
      exact this
  exact this m i ρ n h0
theorem fo_L (PK : Rho → Option α → Prop) (P : List D → Rho → Option α → Prop) {tg : Tg} {b : List S} {l : List D} (hK : ∀ ρ n, PK ρ n → OkO enc (evSs Φ Ψ N ρ τ rest) K n) (h0 : P l ρ n)
    (hz : (∀ ρ n, PK ρ n → OkO enc (some (.nx ρ τ)) (sq Φ Ψ N rest K) n) → ∀ ρ n, P [] ρ n → OkO enc (some (.nx ρ τ)) (sq Φ Ψ N rest K) n)
    (hs : (∀ ρ n, PK ρ n → OkO enc (some (.nx ρ τ)) (sq Φ Ψ N rest K) n) → ∀ d l, (∀ ρ n, P l ρ n → OkO enc (fo Φ Ψ N tg b l ρ τ) (sq Φ Ψ N rest K) n) → ∀ ρ n, P (d :: l) ρ n → OkO enc (fo Φ Ψ N tg b (d :: l) ρ τ) (sq Φ Ψ N rest K) n) :
    OkO enc (fo Φ Ψ N tg b l ρ τ) (sq Φ Ψ N rest K) n := by
  have : ∀ l ρ n, P l ρ n → OkO enc (fo Φ Ψ N tg b l ρ τ) (sq Φ Ψ N rest K) n := by
    intro l
    induction l with
    | nil => intro ρ n h; exact hz hK ρ n h
    | cons d l ih => exact hs hK d l ih
  exact this l ρ n h0
theorem fo_E (PK : Rho → Option α → Prop) (P : Nat → List D → Rho → Option α → Prop) {tg : Tg} {b : List S} {l : List D} {i : Nat} (hK : ∀ ρ n, PK ρ n → OkO enc (evSs Φ Ψ N ρ τ rest) K n) (h0 : P i l ρ n)
    (hz : (∀ ρ n, PK ρ n → OkO enc (some (.nx ρ τ)) (sq Φ Ψ N rest K) n) → ∀ i ρ n, P i [] ρ n → OkO enc (some (.nx ρ τ)) (sq Φ Ψ N rest K) n)
    (hs : (∀ ρ n, PK ρ n → OkO enc (some (.nx ρ τ)) (sq Φ Ψ N rest K) n) → ∀ i d l, (∀ ρ n, P (.succ i) l ρ n → OkO enc (fo Φ Ψ N tg b (enumD (.succ i) l) ρ τ) (sq Φ Ψ N rest K) n) → ∀ ρ n, P i (d :: l) ρ n → OkO enc (fo Φ Ψ N tg b (.tuple [.int (.ofNat i), d] :: enumD (.succ i) l) ρ τ) (sq Φ Ψ N rest K) n) :
    OkO enc (fo Φ Ψ N tg b (enumD i l) ρ τ) (sq Φ Ψ N rest K) n := by
  have : ∀ l i ρ n, P i l ρ n → OkO enc (fo Φ Ψ N tg b (enumD i l) ρ τ) (sq Φ Ψ N rest K) n := by
    intro l
    induction l with
    | nil => intro i ρ n h; exact hz hK i ρ n h
    | cons d l ih => intro i ρ n h; exact hs hK i d l (fun ρ n h => ih _ ρ n h) ρ n h
  exact this l i ρ n h0
end
/-! ### defs -/
def rI (i : Int) : R := ⟨.S, .int i⟩
def rB (b : Bool) : R := ⟨.S, .bool b⟩
def rD (d : D) : R := ⟨.S, d⟩
def rL (l : List D) : R := ⟨.F, .list l⟩
def rT (l : List D) : R := ⟨.S, .tuple l⟩
theorem cl_T {l : List D} (h : nlL l = true) : clean ⟨.S, .tuple l⟩ = true := nlL_of l h
theorem call_eq {Φ : Nat → List D → Option R} {n : Nat} {φ : List D → Option R} {ds : List D} {r : R} (h : Φ n = φ) (h2 : φ ds = some r) : Φ n ds = some r := by rw [h]; exact h2
theorem nz_of {i : Int} (h : notB (eqZ i 0) = true) : eqZ i 0 = false := by cases e : eqZ i 0 with | false => rfl | true => rw [e] at h; cases h
theorem allR_t : ∀ {n : Nat} {i : Int}, allR (fun _ => true) n i = true
  | 0, _ => rfl
  | n + 1, i => by
    show frcI i (fun i => iteB true (allR (fun _ => true) n (addZ i 1)) false) = true
    rw [frcI_eq]; exact allR_t
theorem allQ_t : ∀ {l : List D}, allQ (fun _ => true) l = true
  | [] => rfl
  | d :: l => allQ_t (l := l)
noncomputable def enuK (i : Nat) (l : List D) : List D := @List.rec D (fun _ => Nat → List D) (fun _ => []) (fun d _ ih i => frcN i fun i => PyData.tuple [.int (.ofNat i), d] :: ih (.succ i)) l i
theorem enuK_eq : ∀ (l : List D) (i : Nat), enuK i l = enumD i l
  | [], _ => rfl
  | d :: l, i => by
    show frcN i (fun i => PyData.tuple [.int (.ofNat i), d] :: enuK (.succ i) l) = _
    rw [frcN_eq, enuK_eq l]; rfl
theorem it_3T' {l : List D} : itD 3 [.tuple l] = some (enuK 0 l) := by rw [enuK_eq]; rfl
theorem it_3L' {l : List D} : itD 3 [.list l] = some (enuK 0 l) := by rw [enuK_eq]; rfl
theorem it_3D' {d : D} (h : isQ d = true) : itD 3 [d] = some (enuK 0 (asQ d)) := by rw [enuK_eq]; exact it_3D h
theorem rt_end {α : Type} {enc : α → R} {v : α} {r : R} (h : enc v = r) : OkO enc (some (.rt r τ)) retOf (some v) := fun w e => by cases e; rw [← h]; rfl
theorem nx_end {α : Type} {enc : α → R} {v : α} (h : enc v = ⟨.S, .none⟩) : OkO enc (some (.nx ρ τ)) retOf (some v) := fun w e => by cases e; rw [h]; rfl
/-- a native form as a def's own function -/
theorem own_of {α : Type} {enc : α → R} {Φ : Nat → List D → Option R} {code : List S} {m : Nat} {ds : List D} {x : Option α} {r : R} {M : Nat} (h : OkO enc (evSs Φ (Ψof []) M (start0 m ds) τ0 code) retOf x) (e : x.map enc = some r) : ∃ M o, evSs Φ (Ψof []) M (start0 m ds) τ0 code = some o ∧ retOf o = some r := by
  cases x with
  | none => cases e
  | some v =>
    have h1 := h v rfl
    have h2 : some (enc v) = some r := e
    cases q : evSs Φ (Ψof []) M (start0 m ds) τ0 code with
    | none => rw [q] at h1; cases h1
    | some o => rw [q] at h1; exact ⟨M, o, q, h1.trans h2⟩
end
end Nx

/-! ## Nx4 -/
/-! laws in pieces -/
namespace Nx
open PySem PySem.Spec PyProof.Rows L2 Ev
def slD (ρ : Rho) (i : Nat) : Option D := match ρ[i]? with
  | some (.im d) => some d
  | _ => none
def Kend (sel : List Nat) (L : Nat) : Out → Option (List D)
  | .nx (a :: .tp :: r) _ => if r.length = L then sel.mapM (slD (a :: .tp :: r)) else none
  | _ => none
/-- from these slots the code ends in True, whatever the tape -/
def LK (Φ : Nat → List D → Option R) (N : Nat) (ρ : Rho) (code : List S) : Prop := ∀ τ, ∃ τ', evSs Φ (Ψof [takeF]) N ρ τ code = some (.rt ⟨.S, .bool true⟩ τ')
section
variable {Φ : Nat → List D → Option R} {N : Nat} {ρ : Rho} {rest : List S}
theorem seg_end {Ψ : Nat → List D → Tp → Option (R × Tp)} {τ : Tp} {K : Out → Option (List D)} {ds : List D} (h : K (.nx ρ τ) = some ds) : OkO id (some (.nx ρ τ)) K (some ds) := fun v e => by cases e; exact h
theorem lk_seg {pre : List S} {sel : List Nat} {L : Nat} {n : Option (List D)} {ds : List D} (h : ∀ τ, OkO id (evSs Φ (Ψof [takeF]) N ρ τ pre) (Kend sel L) n) (hv : n = some ds)
    (hr : ∀ (a : Sl) (r : Rho), r.length = L → sel.mapM (slD (a :: .tp :: r)) = some ds → LK Φ N (a :: .tp :: r) rest) : LK Φ N ρ (pre ++ rest) := fun τ => by
  have := h τ ds hv
  cases q : evSs Φ (Ψof [takeF]) N ρ τ pre with
  | none => rw [q] at this; cases this
  | some o =>
    rw [q] at this
    have h2 : Kend sel L o = some ds := this
    unfold Kend at h2
    split at h2
    · rename_i a r τ1
      split at h2
      · rename_i hl
        obtain ⟨τ', e⟩ := hr a r hl h2 τ1
        exact ⟨τ', (evSs_app q).trans e⟩
      · cases h2
    · cases h2
theorem lk_set {P : D → Prop} {e : E} {j : Nat} (h : ∀ τ, ∃ d τ', P d ∧ ev Φ (Ψof [takeF]) ρ τ e = some (⟨.S, d⟩, τ')) (hr : ∀ d, P d → LK Φ N (ρ.set j (.im d)) rest) : LK Φ N ρ (.set (.nm j) e :: rest) := fun τ => by
  obtain ⟨d, τ1, h1, h2⟩ := h τ
  obtain ⟨τ', h3⟩ := hr d h1 τ1
  refine ⟨τ', ?_⟩
  rw [evSs, evS, h2]
  exact h3
theorem lk_ret {e : E} (h : ∀ τ, ∃ τ', ev Φ (Ψof [takeF]) ρ τ e = some (⟨.S, .bool true⟩, τ')) : LK Φ N ρ (.ret e :: rest) := fun τ => by
  obtain ⟨τ1, h2⟩ := h τ
  refine ⟨τ1, ?_⟩
  rw [evSs, evS, h2]; rfl
theorem lk_fin {code : List S} {n : Option Bool} (h : ∀ τ, OkO rB (evSs Φ (Ψof [takeF]) N ρ τ code) retOf n) (hv : n = some true) : LK Φ N ρ code := fun τ => by
  have := h τ true hv
  cases q : evSs Φ (Ψof [takeF]) N ρ τ code with
  | none => rw [q] at this; cases this
  | some o =>
    rw [q] at this
    have h2 : retOf o = some ⟨.S, .bool true⟩ := this
    cases o with
    | nx ρ' τ' => cases h2
    | bk ρ' τ' => cases h2
    | ct ρ' τ' => cases h2
    | rt r τ' => cases h2; exact ⟨τ', rfl⟩
theorem slD_im {i : Nat} {d : D} (h : slD ρ i = some d) : ρ[i]? = some (.im d) := by
  unfold slD at h
  split at h
  · rename_i e; cases h; exact e
  · cases h
/-- a number drawn -/
theorem ev_take {τ : Tp} {e : E} {m : Int} {τ1 : Tp} (hp : ρ[1]? = some .tp) (he : ev Φ (Ψof [takeF]) ρ τ e = some (⟨.S, .int m⟩, τ1)) (h0 : 0 < m) (h1 : m < 1073741824) : ∃ n : Nat, (n : Int) < m ∧ ∃ τ', ev Φ (Ψof [takeF]) ρ τ (.callT 0 1 [e]) = some (⟨.S, .int (.ofNat n)⟩, τ') := by
  have hr := takeM_range τ1 h0
  obtain ⟨n, hn⟩ := Int.eq_ofNat_of_zero_le hr.1
  refine ⟨n, by omega, (takeM τ1 m).2, ?_⟩
  have e1 : evs Φ (Ψof [takeF]) ρ τ [e] = some ([⟨.S, .int m⟩], τ1) := by rw [evs, he, Option.bind_some, evs, Option.map_some]
  rw [ev, hp]
  simp only [e1, Option.bind_some, List.map_cons, List.map_nil]
  have e2 : Ψof [takeF] 0 [.int m] τ1 = some (⟨.S, .int (takeM τ1 m).1⟩, (takeM τ1 m).2) := by
    simp [Ψof, takeF, h0, h1]
  rw [e2, Option.bind_some, hn]
  rfl
end
end Nx

/-! ## Nx5 -/
/-! min and sorted of lists of tuples of ints -/
namespace Nx
open PySem PySem.Spec PyProof.Rows L2 Ev
/-- lexicographic order -/
noncomputable def lexZ (l : List Int) : List Int → Bool := @List.rec Int (fun _ => List Int → Bool) (fun r => neB r) (fun x _ ih r => @List.rec Int (fun _ => Bool) false (fun y t _ => iteB (ltZ x y) true (iteB (ltZ y x) false (ih t))) r) l
noncomputable def lexD (a b : D) : Bool := lexZ (intsK (asT a)) (intsK (asT b))
/-- a tuple of ints, one at least -/
noncomputable def flt1 (d : D) : Bool := dTup d false fun l => andB (neB l) (intsB l)
noncomputable def fltB (l : List D) : Bool := allQ flt1 l
theorem flt1_eq {d : D} (h : flt1 d = true) : ∃ x r, d = .tuple (.int x :: r) ∧ intsB r = true := by
  cases d with
  | tuple l =>
    have h' : andB (neB l) (intsB l) = true := h
    cases l with
    | nil => cases h'
    | cons a r =>
      have h2 := andB_r h'
      cases a with
      | int x => exact ⟨x, r, rfl, h2⟩
      | _ => cases h2
  | _ => cases h
theorem intsB_mem : ∀ {l : List D}, intsB l = true → ∀ d ∈ l, ∃ x, d = .int x
  | [], _, d, h => by cases h
  | a :: l, h, d, hd => by
    cases a with
    | int x =>
      rcases List.mem_cons.mp hd with e | e
      · exact ⟨x, e⟩
      · exact intsB_mem (l := l) h d e
    | _ => cases h
theorem ints_map : ∀ {l : List D}, intsB l = true → l = (intsK l).map PyData.int
  | [], _ => rfl
  | a :: l, h => by
    cases a with
    | int x =>
      have h' : intsB l = true := h
      show PyData.int x :: l = PyData.int x :: (intsK l).map PyData.int
      rw [← ints_map h']
    | _ => cases h
theorem fltB_mem : ∀ {l : List D}, fltB l = true → ∀ d ∈ l, flt1 d = true
  | [], _, d, h => by cases h
  | a :: l, h, d, hd => by
    obtain ⟨h1, h2⟩ := allQ_s (G := flt1) h
    rcases List.mem_cons.mp hd with e | e
    · rw [e]; exact h1
    · exact fltB_mem (l := l) h2 d e
theorem alikeAll_ints : ∀ a b : List Int, PySem.W.alikeAll (a.map PyData.int) (b.map PyData.int) = true
  | [], _ => by simp [PySem.W.alikeAll]
  | _ :: _, [] => by simp [PySem.W.alikeAll]
  | x :: a, y :: b => by simp [PySem.W.alikeAll, PySem.W.alike, alikeAll_ints a b]
theorem flt_tup {d : D} (h : flt1 d = true) : d = .tuple ((intsK (asT d)).map PyData.int) := by
  obtain ⟨x, r, rfl, h2⟩ := flt1_eq h
  show PyData.tuple (.int x :: r) = .tuple (.int x :: (intsK r).map PyData.int)
  rw [← ints_map h2]
theorem okS_of {l : List D} (h : fltB l = true) : okS l = true := by
  have hm := fltB_mem h
  unfold okS
  rw [Bool.and_eq_true]
  refine ⟨List.all_eq_true.mpr fun x hx => List.all_eq_true.mpr fun y hy => ?_, List.all_eq_true.mpr fun x hx => ?_⟩
  · rw [flt_tup (hm x hx), flt_tup (hm y hy)]
    simp only [PySem.W.alike]
    exact alikeAll_ints _ _
  · obtain ⟨y, r, rfl, h2⟩ := flt1_eq (hm x hx)
    refine decide_eq_true ?_
    have : ∀ l : List Int, PyData.depthAll (l.map PyData.int) = 0 := depth_int
    rw [ints_map h2]
    have e := this (y :: intsK r)
    simp only [PyData.depth]
    have e' : PyData.depthAll (PyData.int y :: List.map PyData.int (intsK r)) = 0 := e
    rw [e']; decide
theorem toks_ints : ∀ l : List Int, PySem.W.keyToksAll (l.map PyData.int) = (l.map fun x => [Sum.inl 1, Sum.inl x]).flatten ++ [Sum.inl 0]
  | [] => by simp [PySem.W.keyToksAll]
  | x :: l => by simp [PySem.W.keyToksAll, PySem.W.keyToks, toks_ints l]
theorem lex_toks : ∀ a b : List Int, PyProof.Rows.lexLt PyProof.Rows.itemOrd (PySem.W.keyToksAll (a.map PyData.int)) (PySem.W.keyToksAll (b.map PyData.int)) = lexZ a b
  | [], [] => by simp [PySem.W.keyToksAll]; rfl
  | [], y :: b => by simp [PySem.W.keyToksAll, PySem.W.keyToks]; rfl
  | x :: a, [] => by simp [PySem.W.keyToksAll, PySem.W.keyToks]; rfl
  | x :: a, y :: b => by
    have ih := lex_toks a b
    have e : ∀ (z : Int) (c : List Int), PySem.W.keyToksAll ((z :: c).map PyData.int) = Sum.inl 1 :: Sum.inl z :: PySem.W.keyToksAll (c.map PyData.int) := fun z c => by
      simp [PySem.W.keyToksAll, PySem.W.keyToks]
    rw [e, e]
    show (decide ((1 : Int) < 1) || (!decide ((1 : Int) < 1) && (decide (x < y) || (!decide (y < x) && PyProof.Rows.lexLt PyProof.Rows.itemOrd _ _)))) = iteB (ltZ x y) true (iteB (ltZ y x) false (lexZ a b))
    rw [ih, ltZ_eq, ltZ_eq]
    cases decide (x < y) <;> cases decide (y < x) <;> rfl
theorem lexD_eq {a b : D} (ha : flt1 a = true) (hb : flt1 b = true) : PySem.W.dataLt a b = lexD a b := by
  unfold lexD PySem.W.dataLt
  rw [flt_tup ha, flt_tup hb]
  simp only [PySem.W.keyToks]
  rw [lex_toks]
  show lexZ (intsK (asT a)) (intsK (asT b)) = lexZ (intsK ((intsK (asT a)).map PyData.int)) (intsK ((intsK (asT b)).map PyData.int))
  have : ∀ l : List Int, intsK (l.map PyData.int) = l := by
    intro l
    induction l with
    | nil => rfl
    | cons x l ih => show x :: intsK (l.map PyData.int) = _; rw [ih]
  rw [this, this]
theorem lexZ_anti : ∀ a b : List Int, lexZ a b = false → lexZ b a = false → a = b
  | [], [], _, _ => rfl
  | [], y :: b, h, _ => by cases h
  | x :: a, [], _, h => by cases h
  | x :: a, y :: b, h1, h2 => by
    have h1' : iteB (ltZ x y) true (iteB (ltZ y x) false (lexZ a b)) = false := h1
    have h2' : iteB (ltZ y x) true (iteB (ltZ x y) false (lexZ b a)) = false := h2
    rw [ltZ_eq, ltZ_eq] at h1' h2'
    by_cases hx : x < y
    · rw [decide_eq_true hx] at h1'; cases h1'
    · by_cases hy : y < x
      · rw [decide_eq_true hy] at h2'; cases h2'
      · rw [decide_eq_false hx, decide_eq_false hy] at h1' h2'
        have e : x = y := by omega
        rw [e, lexZ_anti a b h1' h2']
noncomputable def minK2 (d : D) (l : List D) : D := @List.rec D (fun _ => D → D) (fun z => z) (fun a _ ih z => iteB (lexD a z) (ih a) (ih z)) l d
theorem minK2_eq : ∀ (l : List D) (d : D), fltB (d :: l) = true → minK2 d l = PySem.W.minD d l
  | [], d, _ => rfl
  | a :: l, d, h => by
    obtain ⟨h1, h2⟩ := allQ_s (G := flt1) h
    obtain ⟨h3, h4⟩ := allQ_s (G := flt1) h2
    show iteB (lexD a d) (minK2 a l) (minK2 d l) = _
    unfold PySem.W.minD
    rw [List.foldl_cons, lexD_eq h3 h1]
    cases lexD a d with
    | true => exact minK2_eq l a h2
    | false =>
      refine minK2_eq l d ?_
      show iteB (flt1 d) (allQ flt1 l) false = true
      rw [h1]; exact h4
noncomputable def insL (x : D) (l : List D) : List D := @List.rec D (fun _ => List D) [x] (fun y r ih => iteB (lexD y x) (y :: ih) (x :: y :: r)) l
noncomputable def srtL (l : List D) : List D := @List.rec D (fun _ => List D) [] (fun y _ ih => insL y ih) l
theorem insL_s (x y : D) (r : List D) : insL x (y :: r) = iteB (lexD y x) (y :: insL x r) (x :: y :: r) := rfl
theorem insL_perm (x : D) : ∀ l, (insL x l).Perm (x :: l)
  | [] => .refl _
  | y :: r => by
    rw [insL_s]
    cases lexD y x with
    | true => exact ((insL_perm x r).cons y).trans (.swap x y r)
    | false => exact .refl _
theorem srtL_perm : ∀ l, (srtL l).Perm l
  | [] => .refl _
  | x :: l => (insL_perm x (srtL l)).trans ((srtL_perm l).cons x)
abbrev leD (a b : D) : Bool := PySem.W.dataLe false id a b
theorem leD_eq {a b : D} (ha : flt1 a = true) (hb : flt1 b = true) : leD a b = !lexD b a := by
  rw [← lexD_eq hb ha]; rfl
theorem leD_total : PySem.W.TotalLe leD := PySem.W.sortLe_total _ _ _
theorem insL_pw (x : D) (hx : flt1 x = true) : ∀ l, (∀ y ∈ l, flt1 y = true) → l.Pairwise (fun a b => leD a b = true) → (insL x l).Pairwise (fun a b => leD a b = true)
  | [], _, _ => by show [x].Pairwise _; simp
  | y :: r, hf, h => by
    rw [insL_s]
    cases e : lexD y x with
    | false =>
      refine List.Pairwise.cons (fun z hz => ?_) h
      have hxy : leD x y = true := by rw [leD_eq hx (hf y List.mem_cons_self), e]; rfl
      rcases List.mem_cons.mp hz with rfl | hz
      · exact hxy
      · exact leD_total.trans x y z hxy (List.rel_of_pairwise_cons h hz)
    | true =>
      refine List.Pairwise.cons (fun z hz => ?_) (insL_pw x hx r (fun z hz => hf z (List.mem_cons_of_mem _ hz)) (List.Pairwise.of_cons h))
      rcases List.mem_cons.mp ((insL_perm x r).mem_iff.mp hz) with rfl | hz
      · have : leD z y = false := by rw [leD_eq hx (hf y List.mem_cons_self), e]; rfl
        rcases leD_total.total y z with t | t
        · exact t
        · rw [t] at this; cases this
      · exact List.rel_of_pairwise_cons h hz
theorem srtL_pw : ∀ l, (∀ y ∈ l, flt1 y = true) → (srtL l).Pairwise (fun a b => leD a b = true)
  | [], _ => by show ([] : List D).Pairwise _; simp
  | x :: l, h => insL_pw x (h x List.mem_cons_self) _ (fun y hy => h y (List.mem_cons_of_mem _ ((srtL_perm l).mem_iff.mp hy))) (srtL_pw l fun y hy => h y (List.mem_cons_of_mem _ hy))
theorem srtL_eq {l : List D} (h : fltB l = true) : l.mergeSort (PySem.W.dataLe false id) = srtL l := by
  have hm := fltB_mem h
  refine List.Perm.eq_of_pairwise (le := fun a b => leD a b = true) (fun a b ha hb h1 h2 => ?_) (List.pairwise_mergeSort leD_total.trans (fun a b => by rcases leD_total.total a b with t | t <;> (rw [t]; simp)) l) (srtL_pw l hm) ((List.mergeSort_perm l _).trans (srtL_perm l).symm)
  have fa := hm a ((List.mergeSort_perm l _).mem_iff.mp ha)
  have fb := hm b ((srtL_perm l).mem_iff.mp hb)
  rw [leD_eq fa fb] at h1
  rw [leD_eq fb fa] at h2
  have e := lexZ_anti (intsK (asT a)) (intsK (asT b)) (by simpa [lexD] using h2) (by simpa [lexD] using h1)
  rw [flt_tup fa, flt_tup fb, e]
theorem ints_none {l : List D} (h : fltB l = true) (hn : neB l = true) : intsOf l = none := by
  cases l with
  | nil => cases hn
  | cons a r =>
    obtain ⟨x, t, rfl, _⟩ := flt1_eq (fltB_mem h a List.mem_cons_self)
    rfl
/-- min of a list: ints, or tuples of ints -/
noncomputable def lowD (l : List D) : Option D := iteB (andB (neB l) (intsB l)) (some (.int (lowK l))) (@List.rec D (fun _ => Option D) none (fun a r _ => iteB (fltB (a :: r)) (some (minK2 a r)) none) l)
theorem bl_lowD {l : List D} {d : D} (h : lowD l = some d) : bltD .min [.list l] = some ⟨.S, d⟩ := by
  unfold lowD at h
  cases q : andB (neB l) (intsB l) with
  | true =>
    rw [q] at h
    have h' : some (PyData.int (lowK l)) = some d := h
    cases h'
    exact bl_lowL q
  | false =>
    rw [q] at h
    cases l with
    | nil => cases h
    | cons a r =>
      have h' : iteB (fltB (a :: r)) (some (minK2 a r)) none = some d := h
      cases f : fltB (a :: r) with
      | false => rw [f] at h'; cases h'
      | true =>
        rw [f] at h'
        have h2 : some (minK2 a r) = some d := h'
        cases h2
        have e := ints_none f rfl
        simp only [bltD, e, minT, okS_of f, if_true]
        rw [minK2_eq r a f]
/-- sorted of a list: ints, or tuples of ints -/
noncomputable def sortK (l : List D) : Option (List D) := iteB (intsB l) (some (boxK (srtK (intsK l)))) (iteB (fltB l) (some (srtL l)) none)
theorem bl_sort {l l' : List D} (h : sortK l = some l') : bltD .sorted [.list l] = some ⟨.F, .list l'⟩ := by
  unfold sortK at h
  cases q : intsB l with
  | true =>
    rw [q] at h
    have h' : some (boxK (srtK (intsK l))) = some l' := h
    cases h'
    exact bl_srt q
  | false =>
    rw [q] at h
    have h' : iteB (fltB l) (some (srtL l)) none = some l' := h
    cases f : fltB l with
    | false => rw [f] at h'; cases h'
    | true =>
      rw [f] at h'
      have h2 : some (srtL l) = some l' := h'
      cases h2
      have hn : neB l = true := by
        cases l with
        | nil => cases q
        | cons a r => rfl
      have e := ints_none f hn
      simp only [bltD, e, srtT, okS_of f, if_true]
      rw [srtL_eq f]
/-- the same datum, of None, ints and tuples -/
noncomputable def sameK (d : D) : D → Bool := @PyData.rec (fun _ => D → Bool) (fun _ => List D → Bool) (fun _ => PUnit) (fun _ => PUnit) (fun e => isNn e) (fun _ _ => false) (fun i e => dInt e false fun j => eqZ i j) (fun _ _ => false) (fun _ _ _ => false) (fun _ ih e => dTup e false ih) (fun _ _ _ => false) (fun l => @List.rec D (fun _ => Bool) true (fun _ _ _ => false) l) (fun _ _ a b l => @List.rec D (fun _ => Bool) false (fun x r _ => @Bool.rec (fun _ => Bool) false (b r) (a x)) l) ⟨⟩ (fun _ _ _ _ => ⟨⟩) (fun _ _ _ _ => ⟨⟩) d
mutual
theorem sameK_eq : ∀ (d e : D), sameK d e = true → d = e
  | .none, e, h => by cases e <;> first | rfl | cases h
  | .bool _, e, h => by cases h
  | .int i, e, h => by
    cases e with
    | int j =>
      have h' : eqZ i j = true := h
      rw [eqZ_eq] at h'
      rw [of_decide_eq_true h']
    | _ => cases h
  | .str _, e, h => by cases h
  | .list l, e, h => by cases h
  | .tuple l, e, h => by
    cases e with
    | tuple r => rw [sameK_eq' l r h]
    | _ => cases h
  | .dict _, e, h => by cases h
theorem sameK_eq' : ∀ (l r : List D), @PyData.rec_1 (fun _ => D → Bool) (fun _ => List D → Bool) (fun _ => PUnit) (fun _ => PUnit) (fun e => isNn e) (fun _ _ => false) (fun i e => dInt e false fun j => eqZ i j) (fun _ _ => false) (fun _ _ _ => false) (fun _ ih e => dTup e false ih) (fun _ _ _ => false) (fun l => @List.rec D (fun _ => Bool) true (fun _ _ _ => false) l) (fun _ _ a b l => @List.rec D (fun _ => Bool) false (fun x r _ => @Bool.rec (fun _ => Bool) false (b r) (a x)) l) ⟨⟩ (fun _ _ _ _ => ⟨⟩) (fun _ _ _ _ => ⟨⟩) l r = true → l = r
  | [], [], _ => rfl
  | [], _ :: _, h => by cases h
  | _ :: _, [], h => by cases h
  | d :: l, e :: r, h => by
    have h' : @Bool.rec (fun _ => Bool) false _ (sameK d e) = true := h
    cases q : sameK d e with
    | false => rw [q] at h'; cases h'
    | true => rw [q] at h'; rw [sameK_eq d e q, sameK_eq' l r h']
end
noncomputable def sameL (l r : List D) : Bool := sameK (.tuple l) (.tuple r)
theorem sameL_eq {l r : List D} (h : sameL l r = true) : l = r := PyData.tuple.inj (sameK_eq _ _ h)
noncomputable def bndB {α : Type} (o : Option α) (f : α → Bool) : Bool := @Option.rec α (fun _ => Bool) false f o
theorem bndB_eq {α : Type} {o : Option α} {f : α → Bool} (h : bndB o f = true) : ∃ x, o = some x ∧ f x = true := by
  cases o with
  | none => cases h
  | some x => exact ⟨x, rfl, h⟩
noncomputable def allZ (f : Int → Bool) (l : List Int) : Bool := @List.rec Int (fun _ => Bool) true (fun a _ ih => iteB (f a) ih false) l
theorem allZ_of {f : Int → Bool} : ∀ {l : List Int}, allZ f l = true → ∀ x ∈ l, f x = true
  | [], _, x, h => by cases h
  | a :: l, h, x, hx => by
    have h' : iteB (f a) (allZ f l) false = true := h
    cases q : f a with
    | false => rw [q] at h'; cases h'
    | true =>
      rw [q] at h'
      rcases List.mem_cons.mp hx with e | e
      · rw [e]; exact q
      · exact allZ_of (l := l) h' x e
theorem allQ_of {f : D → Bool} : ∀ {l : List D}, allQ f l = true → ∀ x ∈ l, f x = true
  | [], _, x, h => by cases h
  | a :: l, h, x, hx => by
    obtain ⟨h1, h2⟩ := allQ_s h
    rcases List.mem_cons.mp hx with e | e
    · rw [e]; exact h1
    · exact allQ_of h2 x e
noncomputable def allN (f : Nat → Bool) (n : Nat) : Bool := @Nat.rec (fun _ => Bool) true (fun m ih => iteB (f m) ih false) n
theorem allN_of {f : Nat → Bool} : ∀ {n : Nat}, allN f n = true → ∀ m, m < n → f m = true
  | 0, _, m, h => absurd h (by omega)
  | n + 1, h, m, hm => by
    have h' : iteB (f n) (allN f n) false = true := h
    cases e : f n with
    | false => rw [e] at h'; cases h'
    | true =>
      rw [e] at h'
      by_cases q : m = n
      · rw [q, e]
      · exact allN_of (n := n) h' m (by omega)
section
variable {Φ : Nat → List D → Option R} {Ψ : Nat → List D → Tp → Option (R × Tp)} {ρ : Rho} {τ τ1 τ2 : Tp}
theorem vt_cst {d : D} : ev Φ Ψ ρ τ (.cst d) = some (⟨.S, d⟩, τ) := by rw [ev]
theorem vt_bin {op : Bo} {a b : E} {r1 r2 r : R} (p : ev Φ Ψ ρ τ a = some (r1, τ1)) (q : ev Φ Ψ ρ τ1 b = some (r2, τ2)) (h : binD op r1.d r2.d = some r) : ev Φ Ψ ρ τ (.bin op a b) = some (r, τ2) := by
  rw [ev, p, Option.bind_some, q, Option.bind_some, h, Option.map_some]
theorem vt_nil : evs Φ Ψ ρ τ [] = some ([], τ) := by rw [evs]
theorem vt_cons {e : E} {es : List E} {r : R} {rs : List R} (p : ev Φ Ψ ρ τ e = some (r, τ1)) (q : evs Φ Ψ ρ τ1 es = some (rs, τ2)) : evs Φ Ψ ρ τ (e :: es) = some (r :: rs, τ2) := by
  rw [evs, p, Option.bind_some, q, Option.map_some]
theorem vt_lst {es : List E} {rs : List R} {ds : List D} (p : evs Φ Ψ ρ τ es = some (rs, τ1)) (h : rs.mapM stb = some ds) (hs : shortL ds = true) : ev Φ Ψ ρ τ (.lst es) = some (⟨.F, .list ds⟩, τ1) := by
  rw [ev, p, Option.bind_some, h, Option.bind_some, if_pos hs]
theorem vt_tup {es : List E} {rs : List R} {ds : List D} (p : evs Φ Ψ ρ τ es = some (rs, τ1)) (h : rs.mapM stb = some ds) (hs : shortL ds = true) : ev Φ Ψ ρ τ (.tup es) = some (⟨.S, .tuple ds⟩, τ1) := by
  rw [ev, p, Option.bind_some, h, Option.bind_some, if_pos hs]
theorem vt_idx {a b : E} {r1 r2 r : R} (p : ev Φ Ψ ρ τ a = some (r1, τ1)) (q : ev Φ Ψ ρ τ1 b = some (r2, τ2)) (h : idxD r1.d r2.d = some r) : ev Φ Ψ ρ τ (.idx a b) = some (r, τ2) := by
  rw [ev, p, Option.bind_some, q, Option.bind_some, h, Option.map_some]
theorem vt_call {n : Nat} {es : List E} {rs : List R} {r : R} (p : evs Φ Ψ ρ τ es = some (rs, τ1)) (h : Φ n (rs.map (·.d)) = some r) (hc : clean r = true) : ev Φ Ψ ρ τ (.call n es) = some (r, τ1) := by
  rw [ev, p, Option.bind_some, h, Option.bind_some, if_pos hc]
theorem vt_var {i : Nat} {d : D} (h : ρ[i]? = some (.im d)) : ev Φ Ψ ρ τ (.var i) = some (⟨.S, d⟩, τ) := by rw [ev, h]
theorem vt_blt {b : Bl} {es : List E} {rs : List R} {r : R} (p : evs Φ Ψ ρ τ es = some (rs, τ1)) (h : bltD b (rs.map (·.d)) = some r) : ev Φ Ψ ρ τ (.blt b es) = some (r, τ1) := by
  rw [ev, p, Option.bind_some, h, Option.map_some]
theorem mul_ok {i j : Int} (h1 : i.natAbs ≤ 1000000000) (h2 : j.natAbs ≤ 1000000000) : binD .mul (.int i) (.int j) = some ⟨.S, .int (i * j)⟩ := by
  have := mulB_small (i := i) (j := j) (by omega) (by omega)
  rw [mulB_eq] at this
  simp only [binD, this, if_true]
end
end Nx

/-! ## Nt1 -/
/-! primes and rows of factors, in plain Nat and Int -/
namespace Nt
def Pr (p : Nat) : Prop := 2 ≤ p ∧ ∀ d, d ∣ p → d = 1 ∨ d = p
theorem Pr.two {p : Nat} (h : Pr p) : 2 ≤ p := h.1
theorem Pr.cop {p n : Nat} (hp : Pr p) (h : ¬ p ∣ n) : Nat.Coprime p n := by
  rcases hp.2 _ (Nat.gcd_dvd_left p n) with e | e
  · exact e
  · exact absurd (e ▸ Nat.gcd_dvd_right p n) h
theorem Pr.dvd_mul {p a b : Nat} (hp : Pr p) (h : p ∣ a * b) : p ∣ a ∨ p ∣ b := by
  by_cases ha : p ∣ a
  · exact .inl ha
  · exact .inr ((hp.cop ha).dvd_of_dvd_mul_left h)
theorem Pr.dvd_pow {p a : Nat} (hp : Pr p) : ∀ {k : Nat}, p ∣ a ^ k → p ∣ a
  | 0, h => by
    have := Nat.le_of_dvd Nat.one_pos (by rw [Nat.pow_zero] at h; exact h)
    have := hp.1
    omega
  | k + 1, h => by
    rw [Nat.pow_succ] at h
    rcases hp.dvd_mul h with h | h
    · exact hp.dvd_pow h
    · exact h
theorem Pr.eq_of_dvd {p q : Nat} (hp : Pr p) (hq : Pr q) (h : p ∣ q) : p = q := by
  have := hp.1
  rcases hq.2 p h with e | e
  · omega
  · exact e
theorem Pr.not_one {p : Nat} (hp : Pr p) : ¬ p ∣ 1 := fun h => by
  have := Nat.le_of_dvd (by omega) h
  have := hp.1
  omega
theorem not_pr {n : Nat} (h : 2 ≤ n) (hn : ¬ Pr n) : ∃ a b, 2 ≤ a ∧ 2 ≤ b ∧ a * b = n := by
  have : ∃ d, d ∣ n ∧ ¬ (d = 1 ∨ d = n) := by
    refine Classical.byContradiction fun z => hn ⟨h, fun d hd => ?_⟩
    refine Classical.byContradiction fun y => z ⟨d, hd, y⟩
  obtain ⟨d, ⟨b, hb⟩, hd2⟩ := this
  have d0 : d ≠ 0 := fun z => by subst z; omega
  have b0 : b ≠ 0 := fun z => by subst z; omega
  have b1 : b ≠ 1 := fun z => by subst z; omega
  have d1 : d ≠ 1 := fun z => hd2 (.inl z)
  exact ⟨d, b, by omega, by omega, hb.symm⟩
theorem ex_prime : ∀ {n : Nat}, 2 ≤ n → ∃ p, Pr p ∧ p ∣ n := by
  intro n
  induction n using Nat.strongRecOn with
  | ind n ih =>
    intro h
    by_cases hn : Pr n
    · exact ⟨n, hn, Nat.dvd_refl n⟩
    · obtain ⟨a, b, ha, hb, e⟩ := not_pr h hn
      have : a < n := by
        have := Nat.mul_le_mul_left a hb
        omega
      obtain ⟨p, h1, h2⟩ := ih a this ha
      exact ⟨p, h1, e ▸ Nat.dvd_trans h2 (Nat.dvd_mul_right a b)⟩
/-! ### rows -/
abbrev Row := Nat × Nat
def prodR : List Row → Nat
  | [] => 1
  | r :: R => r.1 ^ r.2 * prodR R
structure IsF (N : Nat) (R : List Row) : Prop where
  nd : (R.map (·.1)).Nodup
  pr : ∀ r ∈ R, Pr r.1
  pos : ∀ r ∈ R, 1 ≤ r.2
  eq : prodR R = N
theorem key_of_dvd {p : Nat} (hp : Pr p) : ∀ {R : List Row}, (∀ r ∈ R, Pr r.1) → p ∣ prodR R → ∃ e, (p, e) ∈ R
  | [], _, h => absurd h hp.not_one
  | r :: R, hR, h => by
    rcases hp.dvd_mul (show p ∣ r.1 ^ r.2 * prodR R from h) with h | h
    · have := hp.eq_of_dvd (hR r List.mem_cons_self) (hp.dvd_pow h)
      subst this
      exact ⟨r.2, List.mem_cons_self⟩
    · obtain ⟨e, he⟩ := key_of_dvd hp (fun r h => hR r (List.mem_cons_of_mem _ h)) h
      exact ⟨e, List.mem_cons_of_mem _ he⟩
theorem prodR_pos : ∀ {R : List Row}, (∀ r ∈ R, Pr r.1) → 0 < prodR R
  | [], _ => Nat.one_pos
  | r :: R, h => Nat.mul_pos (Nat.pow_pos (by have := (h r List.mem_cons_self).1; omega)) (prodR_pos fun r hr => h r (List.mem_cons_of_mem _ hr))
/-- p to the e goes into N just so often -/
def X (N p e : Nat) : Prop := Pr p ∧ 1 ≤ e ∧ p ^ e ∣ N ∧ ¬ p ^ (e + 1) ∣ N
theorem X.uniq {N p e e' : Nat} (h : X N p e) (h' : X N p e') : e = e' := by
  rcases Nat.lt_trichotomy e e' with l | l | l
  · exact absurd (Nat.dvd_trans (Nat.pow_dvd_pow p l) h'.2.2.1) h.2.2.2
  · exact l
  · exact absurd (Nat.dvd_trans (Nat.pow_dvd_pow p l) h.2.2.1) h'.2.2.2
theorem X.dvd {N p e : Nat} (h : X N p e) : p ∣ N := by
  have := Nat.pow_dvd_pow p h.2.1
  rw [Nat.pow_one] at this
  exact Nat.dvd_trans this h.2.2.1
theorem mem_X : ∀ {R : List Row}, (R.map (·.1)).Nodup → (∀ r ∈ R, Pr r.1) → (∀ r ∈ R, 1 ≤ r.2) → ∀ r ∈ R, X (prodR R) r.1 r.2
  | r :: R, nd, pr, pos, s, hs => by
    have hr := pr r List.mem_cons_self
    have prR : ∀ r ∈ R, Pr r.1 := fun r h => pr r (List.mem_cons_of_mem _ h)
    rw [List.map_cons, List.nodup_cons] at nd
    rcases List.mem_cons.mp hs with rfl | hs
    · refine ⟨hr, pos s List.mem_cons_self, Nat.dvd_mul_right _ _, fun h => ?_⟩
      have h2 : s.1 ∣ prodR R := by
        rw [Nat.pow_succ] at h
        exact Nat.dvd_of_mul_dvd_mul_left (Nat.pow_pos (by have := hr.1; omega)) h
      obtain ⟨e, he⟩ := key_of_dvd hr prR h2
      exact nd.1 (List.mem_map.mpr ⟨_, he, rfl⟩)
    · have ⟨h1, h2, h3, h4⟩ := mem_X nd.2 prR (fun r h => pos r (List.mem_cons_of_mem _ h)) s hs
      have ne : r.1 ≠ s.1 := fun z => nd.1 (z ▸ List.mem_map.mpr ⟨s, hs, rfl⟩)
      refine ⟨h1, h2, Nat.dvd_trans h3 (Nat.dvd_mul_left _ _), fun h => h4 ?_⟩
      have hc : Nat.Coprime s.1 r.1 := h1.cop fun z => ne (h1.eq_of_dvd hr z).symm
      exact (hc.pow (s.2 + 1) r.2).dvd_of_dvd_mul_left h
theorem IsF.mem {N : Nat} {R : List Row} (h : IsF N R) (p e : Nat) : (p, e) ∈ R ↔ X N p e := by
  constructor
  · intro hm
    have := mem_X h.nd h.pr h.pos _ hm
    rw [h.eq] at this
    exact this
  · intro hx
    obtain ⟨e', he⟩ := key_of_dvd hx.1 h.pr (by rw [h.eq]; exact hx.dvd)
    have := mem_X h.nd h.pr h.pos _ he
    rw [h.eq] at this
    rw [hx.uniq this]
    exact he
theorem IsF.key {N : Nat} {R : List Row} (h : IsF N R) (p : Nat) : p ∈ R.map (·.1) ↔ Pr p ∧ p ∣ N := by
  constructor
  · intro hm
    obtain ⟨r, hr, rfl⟩ := List.mem_map.mp hm
    exact ⟨h.pr r hr, ((h.mem r.1 r.2).mp hr).dvd⟩
  · intro ⟨hp, hd⟩
    obtain ⟨e, he⟩ := key_of_dvd hp h.pr (by rw [h.eq]; exact hd)
    exact List.mem_map.mpr ⟨_, he, rfl⟩
theorem nodup_of_map {α β : Type} {f : α → β} : ∀ {l : List α}, (l.map f).Nodup → l.Nodup
  | [], _ => List.nodup_nil
  | a :: l, h => by
    rw [List.map_cons, List.nodup_cons] at h
    exact List.nodup_cons.mpr ⟨fun z => h.1 (List.mem_map.mpr ⟨a, z, rfl⟩), nodup_of_map h.2⟩
theorem IsF.pos' {N : Nat} {R : List Row} (h : IsF N R) : 0 < N := h.eq ▸ prodR_pos h.pr
/-! ### products -/
def prodI : List Int → Int
  | [] => 1
  | a :: l => a * prodI l
theorem prodI_app : ∀ (a b : List Int), prodI (a ++ b) = prodI a * prodI b
  | [], b => by show prodI b = 1 * prodI b; rw [Int.one_mul]
  | x :: a, b => by show x * prodI (a ++ b) = x * prodI a * prodI b; rw [prodI_app a b, Int.mul_assoc]
theorem prodI_perm {a b : List Int} (h : a.Perm b) : prodI a = prodI b := by
  induction h with
  | nil => rfl
  | cons x _ ih => show x * _ = x * _; rw [ih]
  | swap x y l => show y * (x * prodI l) = x * (y * prodI l); grind
  | trans _ _ i j => rw [i, j]
def M (f : Nat → Nat → Int) (R : List Row) : Int := prodI (R.map fun r => f r.1 r.2)
def P (f : Nat → Int) (l : List Nat) : Int := prodI (l.map f)
theorem X_mul {n m p e : Nat} (h : Nat.Coprime n m) : X (n * m) p e ↔ X n p e ∨ X m p e := by
  have half : ∀ {a b : Nat}, Nat.Coprime a b → Pr p → p ∣ a → ∀ k, p ^ k ∣ a * b ↔ p ^ k ∣ a := by
    intro a b hc hp hd k
    have hb : ¬ p ∣ b := fun z => by
      have := Nat.dvd_gcd hd z
      rw [hc] at this
      exact hp.not_one this
    constructor
    · intro h
      exact ((hp.cop hb).pow_left k).dvd_of_dvd_mul_right h
    · intro h
      exact Nat.dvd_trans h (Nat.dvd_mul_right a b)
  constructor
  · intro hx
    rcases hx.1.dvd_mul hx.dvd with d | d
    · have q := half h hx.1 d
      exact .inl ⟨hx.1, hx.2.1, (q _).mp hx.2.2.1, fun z => hx.2.2.2 ((q _).mpr z)⟩
    · have q := half h.symm hx.1 d
      refine .inr ⟨hx.1, hx.2.1, (q _).mp (by rw [Nat.mul_comm]; exact hx.2.2.1), fun z => hx.2.2.2 ?_⟩
      rw [Nat.mul_comm]
      exact (q _).mpr z
  · rintro (hx | hx)
    · have q := half h hx.1 hx.dvd
      exact ⟨hx.1, hx.2.1, (q _).mpr hx.2.2.1, fun z => hx.2.2.2 ((q _).mp z)⟩
    · have q := half h.symm hx.1 hx.dvd
      refine ⟨hx.1, hx.2.1, by rw [Nat.mul_comm]; exact (q _).mpr hx.2.2.1, fun z => hx.2.2.2 ((q _).mp ?_)⟩
      rw [Nat.mul_comm]
      exact z
theorem M_mul {n m : Nat} {R S T : List Row} (hR : IsF n R) (hS : IsF m S) (hT : IsF (n * m) T) (h : Nat.Coprime n m) (f : Nat → Nat → Int) : M f T = M f R * M f S := by
  have nd : (R ++ S).Nodup := by
    refine List.nodup_append.mpr ⟨nodup_of_map hR.nd, nodup_of_map hS.nd, fun a ha b hb e => ?_⟩
    subst e
    have h1 := ((hR.mem a.1 a.2).mp ha)
    have h2 := ((hS.mem a.1 a.2).mp hb)
    have := Nat.dvd_gcd h1.dvd h2.dvd
    rw [h] at this
    exact h1.1.not_one this
  have pm : T.Perm (R ++ S) := (List.perm_ext_iff_of_nodup (nodup_of_map hT.nd) nd).mpr fun a => by
    rw [List.mem_append, hT.mem a.1 a.2, hR.mem a.1 a.2, hS.mem a.1 a.2, X_mul h]
  unfold M
  rw [prodI_perm (pm.map _), List.map_append, prodI_app]
theorem P_un {R S T G : List Nat} (hR : R.Nodup) (hS : S.Nodup) (hT : T.Nodup) (hG : G.Nodup) (h1 : ∀ p, p ∈ T ↔ p ∈ R ∨ p ∈ S) (h2 : ∀ p, p ∈ G ↔ p ∈ R ∧ p ∈ S) (f : Nat → Int) : P f T * P f G = P f R * P f S := by
  have e1 : T.Perm (R ++ S.filter fun p => !decide (p ∈ R)) := by
    refine (List.perm_ext_iff_of_nodup hT (List.nodup_append.mpr ⟨hR, hS.filter _, fun a ha b hb e => ?_⟩)).mpr fun p => ?_
    · subst e
      have := (List.mem_filter.mp hb).2
      simp [ha] at this
    · rw [h1, List.mem_append, List.mem_filter]
      by_cases hp : p ∈ R <;> simp [hp]
  have e2 : G.Perm (S.filter fun p => decide (p ∈ R)) := by
    refine (List.perm_ext_iff_of_nodup hG (hS.filter _)).mpr fun p => ?_
    rw [h2, List.mem_filter]
    by_cases hp : p ∈ R <;> simp [hp]
  have e3 := List.filter_append_perm (fun p => decide (p ∈ R)) S
  unfold P
  rw [prodI_perm (e1.map f), prodI_perm (e2.map f), ← prodI_perm (e3.map f), List.map_append, List.map_append, prodI_app, prodI_app]
  grind
def keys (R : List Row) : List Nat := R.map (·.1)
def uf (p e : Nat) : Int := (p : Int) ^ (e - 1) * ((p : Int) - 1)
theorem U_eq : ∀ {R : List Row}, (∀ r ∈ R, 1 ≤ r.2) → M uf R * P (fun p => (p : Int)) (keys R) = (prodR R : Nat) * P (fun p => (p : Int) - 1) (keys R)
  | [], _ => rfl
  | r :: R, h => by
    have ih := U_eq (R := R) fun r hr => h r (List.mem_cons_of_mem _ hr)
    have h1 := h r List.mem_cons_self
    have e : ((r.1 : Int)) ^ r.2 = (r.1 : Int) ^ (r.2 - 1) * r.1 := by
      rw [← Int.pow_succ]
      congr 1
      omega
    show uf r.1 r.2 * M uf R * ((r.1 : Int) * P _ (keys R)) = ((r.1 ^ r.2 * prodR R : Nat) : Int) * (((r.1 : Int) - 1) * P _ (keys R))
    rw [Int.natCast_mul, Int.natCast_pow, e]
    show (r.1 : Int) ^ (r.2 - 1) * ((r.1 : Int) - 1) * M uf R * ((r.1 : Int) * P _ (keys R)) = _
    revert ih
    generalize P (fun p => (p : Int)) (keys R) = x1
    generalize P (fun p => (p : Int) - 1) (keys R) = x2
    generalize M uf R = x3
    generalize (r.1 : Int) ^ (r.2 - 1) = x4
    generalize (r.1 : Int) = x5
    intro ih
    have l1 : x4 * (x5 - 1) * x3 * (x5 * x1) = x4 * (x5 - 1) * x5 * (x3 * x1) := by grind
    rw [l1, ih]
    grind
theorem P_pos : ∀ {l : List Nat}, (∀ p ∈ l, 2 ≤ p) → 0 < P (fun p => (p : Int)) l
  | [], _ => by decide
  | p :: l, h => by
    have h1 := h p List.mem_cons_self
    have ih := P_pos (l := l) fun q hq => h q (List.mem_cons_of_mem _ hq)
    exact Int.mul_pos (show (0 : Int) < (p : Int) by omega) ih
theorem IsF.U {N : Nat} {R : List Row} (h : IsF N R) : M uf R * P (fun p => (p : Int)) (keys R) = (N : Int) * P (fun p => (p : Int) - 1) (keys R) := by
  rw [U_eq h.pos, h.eq]
theorem IsF.Pp {N : Nat} {R : List Row} (h : IsF N R) : 0 < P (fun p => (p : Int)) (keys R) := P_pos fun p hp => ((h.key p).mp hp).1.1
/-- n, m, with l of all their primes and g of the common ones, l * g * c = n * m * c' .. -/
theorem U_four {n m l g : Nat} {R S T G : List Row} (hR : IsF n R) (hS : IsF m S) (hT : IsF l T) (hG : IsF g G) (h1 : ∀ p, Pr p → (p ∣ l ↔ p ∣ n ∨ p ∣ m)) (h2 : ∀ p, Pr p → (p ∣ g ↔ p ∣ n ∧ p ∣ m)) :
    M uf R * M uf S * ((l : Int) * g) = M uf T * M uf G * ((n : Int) * m) := by
  have a1 : ∀ p, p ∈ keys T ↔ p ∈ keys R ∨ p ∈ keys S := fun p => by
    unfold keys
    rw [hT.key, hR.key, hS.key]
    constructor
    · rintro ⟨hp, hd⟩
      rcases (h1 p hp).mp hd with d | d
      · exact .inl ⟨hp, d⟩
      · exact .inr ⟨hp, d⟩
    · rintro (⟨hp, hd⟩ | ⟨hp, hd⟩)
      · exact ⟨hp, (h1 p hp).mpr (.inl hd)⟩
      · exact ⟨hp, (h1 p hp).mpr (.inr hd)⟩
  have a2 : ∀ p, p ∈ keys G ↔ p ∈ keys R ∧ p ∈ keys S := fun p => by
    unfold keys
    rw [hG.key, hR.key, hS.key]
    constructor
    · rintro ⟨hp, hd⟩
      have := (h2 p hp).mp hd
      exact ⟨⟨hp, this.1⟩, hp, this.2⟩
    · rintro ⟨⟨hp, hd⟩, _, hd2⟩
      exact ⟨hp, (h2 p hp).mpr ⟨hd, hd2⟩⟩
  have b1 := P_un hR.nd hS.nd hT.nd hG.nd a1 a2 fun p => (p : Int)
  have b2 := P_un hR.nd hS.nd hT.nd hG.nd a1 a2 fun p => (p : Int) - 1
  have u1 := hR.U
  have u2 := hS.U
  have u3 := hT.U
  have u4 := hG.U
  have p1 := hR.Pp
  have p2 := hS.Pp
  unfold keys at *
  revert b1 b2 u1 u2 u3 u4 p1 p2
  generalize P (fun p => (p : Int)) (R.map (·.1)) = x1
  generalize P (fun p => (p : Int)) (S.map (·.1)) = x2
  generalize P (fun p => (p : Int)) (T.map (·.1)) = x3
  generalize P (fun p => (p : Int)) (G.map (·.1)) = x4
  generalize P (fun p => (p : Int) - 1) (R.map (·.1)) = y1
  generalize P (fun p => (p : Int) - 1) (S.map (·.1)) = y2
  generalize P (fun p => (p : Int) - 1) (T.map (·.1)) = y3
  generalize P (fun p => (p : Int) - 1) (G.map (·.1)) = y4
  generalize M uf R = m1
  generalize M uf S = m2
  generalize M uf T = m3
  generalize M uf G = m4
  intro b1 b2 u1 u2 u3 u4 p1 p2
  have hx : x1 * x2 ≠ 0 := by
    have := Int.mul_pos p1 p2
    omega
  refine Int.eq_of_mul_eq_mul_right hx ?_
  have l1 : m1 * m2 * ((l : Int) * g) * (x1 * x2) = (m1 * x1) * (m2 * x2) * (l * g) := by grind
  have l2 : m3 * m4 * ((n : Int) * m) * (x1 * x2) = (m3 * x3) * (m4 * x4) * (n * m) := by rw [← b1]; grind
  rw [l1, l2, u1, u2, u3, u4]
  have l3 : (n : Int) * y1 * (m * y2) * (l * g) = n * m * l * g * (y1 * y2) := by grind
  have l4 : (l : Int) * y3 * (g * y4) * (n * m) = n * m * l * g * (y3 * y4) := by grind
  rw [l3, l4, b2]
end Nt

/-! ## Nt2 -/
/-! native steps over whole numbers that are not below 0 -/
namespace Nx
open PySem PySem.Spec PyProof.Rows L2 Ev
theorem iteB_t {β : Type} {a b : β} : iteB true a b = a := rfl
theorem iteB_f {β : Type} {a b : β} : iteB false a b = b := rfl
theorem iteB_d {β : Type} {p : Prop} [Decidable p] {a b : β} : iteB (decide p) a b = if p then a else b := by
  by_cases h : p
  · rw [decide_eq_true h, if_pos h]; rfl
  · rw [decide_eq_false h, if_neg h]; rfl
theorem mulQ_small {i j : Int} (h1 : i.natAbs ≤ 1000000000000000000000000000000) (h2 : j.natAbs ≤ 1000000000000000000000000000000) : mulQ i j = true := by
  unfold mulQ
  rw [absZ_eq, absZ_eq, Nat.ble_eq_true_of_le h1, Nat.ble_eq_true_of_le h2]; rfl
theorem divQ_small {j : Int} (h0 : j ≠ 0) (h1 : j.natAbs ≤ 1000000000000000000000000000000) : divQ j = true := by
  unfold divQ
  rw [eqZ_eq, decide_eq_false h0, absZ_eq, Nat.ble_eq_true_of_le h1]; rfl
theorem mulQ_n {a b : Nat} (h1 : a ≤ 1000000000000000000000000000000) (h2 : b ≤ 1000000000000000000000000000000) : mulQ (.ofNat a) (.ofNat b) = true := mulQ_small h1 h2
theorem divQ_n {a : Nat} (h0 : 0 < a) (h1 : a ≤ 1000000000000000000000000000000) : divQ (.ofNat a) = true := divQ_small (by rw [Int.ofNat_eq_natCast]; omega) h1
theorem fmod_n (a b : Nat) : fmodZ (.ofNat a) (.ofNat b) = .ofNat (a % b) := rfl
theorem fdiv_n (a b : Nat) : fdivZ (.ofNat a) (.ofNat b) = .ofNat (a / b) := rfl
theorem mul_n (a b : Nat) : mulZ (.ofNat a) (.ofNat b) = .ofNat (a * b) := rfl
theorem add_n (a b : Nat) : addZ (.ofNat a) (.ofNat b) = .ofNat (a + b) := rfl
theorem sub_n {a b : Nat} (h : b ≤ a) : subZ (.ofNat a) (.ofNat b) = .ofNat (a - b) := by
  rw [subZ_eq, Int.ofNat_eq_natCast, Int.ofNat_eq_natCast, Int.ofNat_eq_natCast]; omega
theorem eq_n (a b : Nat) : eqZ (.ofNat a) (.ofNat b) = decide (a = b) := by
  rw [eqZ_eq]; exact decide_eq_decide.mpr (by rw [Int.ofNat_eq_natCast, Int.ofNat_eq_natCast]; omega)
theorem lt_n (a b : Nat) : ltZ (.ofNat a) (.ofNat b) = decide (a < b) := by
  rw [ltZ_eq]; exact decide_eq_decide.mpr (by rw [Int.ofNat_eq_natCast, Int.ofNat_eq_natCast]; omega)
theorem le_n (a b : Nat) : leZ (.ofNat a) (.ofNat b) = decide (a ≤ b) := by
  rw [leZ_eq]; exact decide_eq_decide.mpr (by rw [Int.ofNat_eq_natCast, Int.ofNat_eq_natCast]; omega)
theorem natZ_n (a : Nat) : natZ (.ofNat a) = a := rfl
theorem notB_d {p : Prop} [Decidable p] : notB (decide p) = decide (¬ p) := by
  by_cases h : p
  · rw [decide_eq_true h, decide_eq_false (by simpa using h)]; rfl
  · rw [decide_eq_false h, decide_eq_true (by simpa using h)]; rfl
theorem rfB_n {a b : Nat} (h1 : a ≤ 4611686018427387903) (h2 : b ≤ 4611686018427387903) : rfB (.ofNat a) (.ofNat b) = true := by
  unfold rfB
  rw [absZ_eq, absZ_eq]
  show andB (Nat.ble a _) (Nat.ble b _) = true
  rw [Nat.ble_eq_true_of_le h1, Nat.ble_eq_true_of_le h2]; rfl
theorem dInt_i {β : Type} {i : Int} {g : β} {f : Int → β} : dInt (.int i) g f = f i := rfl
theorem bndO_some {α β : Type} {a : α} {f : α → Option β} : bndO (some a) f = f a := rfl
end Nx

namespace K37
open PySem PySem.Spec PyProof.Rows L2 Ev
def topS (i : Nat) : Stmt := PySem.Challenge.pw_numberguild_k37_sums_over_divisors.main.body.getD i (.Pass ⟨0, 0, 0, 0⟩)
def cons : List (Str × Ev.D) := [("BASES", .tuple [.int 2, .int 3, .int 5, .int 7, .int 11, .int 13, .int 17, .int 19, .int 23, .int 29, .int 31, .int 37]), ("MOST", .int 100000000000000)]
def blts : List Str := ["abs", "any", "int", "len", "list", "range", "sorted", "sum", "tuple"]
/-! common -/
abbrev u_common_st : Stmt := topS 3
abbrev u_common_N : List Str := ["one", "other", "first", "second", "times", "k", "number"]
theorem u_common_sc : FnScope u_common_N ["one", "other"] (defScope u_common_st) := ⟨rfl, rfl, rfl, by decide +kernel, rfl, by decide +kernel, by decide +kernel⟩
def u_common_fs : List Str := []
def u_common_cc : Cc := ⟨u_common_N, defScope u_common_st, cons, u_common_fs, [], blts⟩
def u_common_code : List S :=
   [.set (.tu [2, 3]) (.tup [(.tup [(.var 0), (.cst (.int 1)), (.cst (.int 0))]), (.tup [(.var 1), (.cst (.int 0)), (.cst (.int 1))])]),
    .whl (.cmp .ne (.idx (.var 3) (.cst (.int 0))) (.cst (.int 0))) [.set (.nm 4) (.bin .fdiv (.idx (.var 2) (.cst (.int 0))) (.idx (.var 3) (.cst (.int 0)))),
    .set (.tu [2, 3]) (.tup [(.var 3), (.blt .tuple [(.comp (.bin .sub (.idx (.var 2) (.var 5)) (.bin .mul (.var 4) (.idx (.var 3) (.var 5)))) (.nm 5) 1 [(.cst (.int 3))] [])])])],
    .ret (.ite (.cmp .lt (.idx (.var 2) (.cst (.int 0))) (.cst (.int 0))) (.blt .tuple [(.comp (.bin .sub (.cst (.int 0)) (.var 6)) (.nm 6) 0 [(.var 2)] [])]) (.var 2))]
theorem u_common_comp : compSs 100 u_common_cc (defBody u_common_st) = some u_common_code := by kernel_rfl
noncomputable def u_common_φs : List (List Ev.D → Option Ev.R) := []
section
open Nx
noncomputable def x_common_K1 (v14 : List Ev.D) : Option (List Ev.D) := (bndO (ixK v14 (.ofNat 0)) fun x20 => (dInt x20 none fun x22 => (iteB (iteB (ltZ x22 (.ofNat 0)) (andB (allQ (fun i23 => (isI i23)) v14) (shB v14)) true) (frcLL (iteB (ltZ x22 (.ofNat 0)) (mapQ (fun i23 => (.int (subZ (.ofNat 0) (asI i23)))) v14) v14) fun x32 => (some x32)) none)))
noncomputable def x_common_B1 (ih1 : List Ev.D → List Ev.D → Option (List Ev.D)) (v7 : List Ev.D) (v8 : List Ev.D) : Option (List Ev.D) := (bndO (ixK v8 (.ofNat 0)) fun x38 => (iteB (shK x38 8) (iteB (notB (eqK x38 (.int (.ofNat 0)))) (bndO (ixK v7 (.ofNat 0)) fun x41 => (bndO (ixK v8 (.ofNat 0)) fun x43 => (dInt x41 none fun x45 => (dInt x43 none fun x47 => (iteB (divQ x47) (frcI (fdivZ x45 x47) fun x49 => (iteB (rfB (.ofNat 0) (.ofNat 3)) (iteB (Nat.ble (natZ (.ofNat 3)) 16777215) (iteB (allR (fun i51 => (andB (isSomeB (ixK v7 i51)) (andB (isSomeB (ixK v8 i51)) (andB (isI (getO PyData.none (ixK v8 i51))) (andB (mulQ x49 (asI (getO PyData.none (ixK v8 i51)))) (isI (getO PyData.none (ixK v7 i51)))))))) (natZ (.ofNat 3)) (.ofNat 0)) (frcLL (mapR (fun i51 => (.int (subZ (asI (getO PyData.none (ixK v7 i51))) (mulZ x49 (asI (getO PyData.none (ixK v8 i51))))))) (natZ (.ofNat 3)) (.ofNat 0)) fun x62 => (ih1 v8 x62)) none) none) none)) none))))) (x_common_K1 v7)) none))
noncomputable def x_common_L1  (m : Nat) : List Ev.D → List Ev.D → Option (List Ev.D) := @Nat.rec (fun _ => List Ev.D → List Ev.D → Option (List Ev.D)) (fun _ _ => none) (fun _ ih => x_common_B1 ih) m
noncomputable def x_common (p0 : Ev.D) (p1 : Ev.D) : Option (List Ev.D) := (frcLL [p0, (.int (.ofNat 1)), (.int (.ofNat 0))] fun x1 => (frcLL [p1, (.int (.ofNat 0)), (.int (.ofNat 1))] fun x3 => (x_common_L1 1000 x1 x3)))
set_option maxHeartbeats 0 in
theorem x_common_ok {Φ : Nat → List Ev.D → Option Ev.R} {Ψ : Nat → List Ev.D → Tp → Option (Ev.R × Tp)} {τ : Tp}  (p0 : Ev.D) (p1 : Ev.D) : OkO Nx.rT (evSs Φ Ψ 1000 [.im p0, .im p1, .un, .un, .un, .un, .un] τ u_common_code) retOf (x_common p0 p1) := by
  unfold x_common u_common_code
  refine ok_frcL fun x1 h2 => ?_
  refine ok_frcL fun x3 h4 => ?_
  refine st_setT (ρ' := [.im p0, .im p1, .im (.tuple x1), .im (.tuple x3), .un, .un, .un]) (ev_tup (ds := [(.tuple x1), (.tuple x3)]) (ea_cons (ev_to (congrArg PyData.tuple h2) (ev_tup (ds := [p0, (.int (.ofNat 1)), (.int (.ofNat 0))]) (ea_cons (ev_var rfl) (ea_cons ev_cst (ea_cons ev_cst ea_nil))) rfl rfl)) (ea_cons (ev_to (congrArg PyData.tuple h4) (ev_tup (ds := [p1, (.int (.ofNat 0)), (.int (.ofNat 1))]) (ea_cons (ev_var rfl) (ea_cons ev_cst (ea_cons ev_cst ea_nil))) rfl rfl)) ea_nil)) rfl rfl) rfl ?_
  refine st_whl (fun ρ n => ∃ (v14 : List Ev.D) (g12 : Sl) (g13 : Sl) (g15 : Sl) (g16 : Sl) (g17 : Sl) (g18 : Sl), ρ = [g12, g13, .im (.tuple v14), g15, g16, g17, g18] ∧ n = x_common_K1 v14) (fun m ρ n => ∃ (v7 : List Ev.D) (v8 : List Ev.D) (g5 : Sl) (g6 : Sl) (g9 : Sl) (g10 : Sl) (g11 : Sl), ρ = [g5, g6, .im (.tuple v7), .im (.tuple v8), g9, g10, g11] ∧ n = x_common_L1 m v7 v8) ?_ ⟨_, _, _, _, _, _, _, rfl, rfl⟩ ?_ ?_
  · rintro ρ n ⟨v14, g12, g13, g15, g16, g17, g18, rfl, rfl⟩
    unfold x_common_K1
    refine ok_bnd fun x20 h19 => ?_
    refine ok_dInt fun x22 h21 => ?_
    refine ok_g fun h31 => ?_
    refine ok_frcL fun x32 h33 => ?_
    refine st_ret (ev_to (congrArg PyData.tuple h33) (ev_ite (ev_lt (ev_to h21 (ev_idx (ev_var rfl) ev_cst (ix_T h19))) ev_cst) (fun t29 => (ev_blt (ea_cons (ev_compQ0 (G := (fun i23 => (isI i23))) (T := (fun i23 => (.int (subZ (.ofNat 0) (asI i23))))) (ρ' := fun i23 => [g12, g13, .im (.tuple v14), g15, g16, g17, .im i23]) (ea_cons (ev_var rfl) ea_nil) it_0T (andB_r (selT h31 t29)) (andB_l (selT h31 t29)) rfl (fun i23 h25 => tg_1 rfl) (fun _ => rfl) (fun i23 h25 => (ev_sub ev_cst (ev_to (isI_eq h25) (ev_var rfl))))) ea_nil) bl_tupL)) (fun t30 => (ev_var rfl)) it_T)) rfl ?_
    exact rt_end rfl
  · rintro ρ n ⟨v7, v8, g5, g6, g9, g10, g11, rfl, rfl⟩
    rfl
  · rintro hk34 m36 hi35 ρ n ⟨v7, v8, g5, g6, g9, g10, g11, rfl, rfl⟩
    show OkO _ _ _ (x_common_B1 (x_common_L1 m36) v7 v8)
    unfold x_common_B1
    refine ok_bnd fun x38 h37 => ?_
    refine ok_g fun h39 => ?_
    refine wh_step (ev_cmp (x := x38) (y := (.int (.ofNat 0))) (ev_idx (ev_var rfl) ev_cst (ix_T h37)) ev_cst (cmpD_ne h39 rfl)) ?_ ?_
    · refine ok_bnd fun x41 h40 => ?_
      refine ok_bnd fun x43 h42 => ?_
      refine ok_dInt fun x45 h44 => ?_
      refine ok_dInt fun x47 h46 => ?_
      refine ok_g fun h48 => ?_
      refine ok_frcI fun x49 h50 => ?_
      refine st_set (ρ' := [g5, g6, .im (.tuple v7), .im (.tuple v8), .im (.int x49), g10, g11]) (ev_to (congrArg PyData.int h50) (ev_fdiv (divQ_eq h48) (ev_to h44 (ev_idx (ev_var rfl) ev_cst (ix_T h40))) (ev_to h46 (ev_idx (ev_var rfl) ev_cst (ix_T h42))))) rfl ?_
      refine ok_g fun h52 => ?_
      refine ok_g fun h53 => ?_
      refine ok_g fun h61 => ?_
      refine ok_frcL fun x62 h63 => ?_
      refine st_setT (ρ' := [g5, g6, .im (.tuple v8), .im (.tuple x62), .im (.int x49), g10, g11]) (ev_tup (ds := [(.tuple v8), (.tuple x62)]) (ea_cons (ev_var rfl) (ea_cons (ev_to (congrArg PyData.tuple h63) (ev_blt (ea_cons (ev_compR0 (G := (fun i51 => (andB (isSomeB (ixK v7 i51)) (andB (isSomeB (ixK v8 i51)) (andB (isI (getO PyData.none (ixK v8 i51))) (andB (mulQ x49 (asI (getO PyData.none (ixK v8 i51)))) (isI (getO PyData.none (ixK v7 i51))))))))) (T := (fun i51 => (.int (subZ (asI (getO PyData.none (ixK v7 i51))) (mulZ x49 (asI (getO PyData.none (ixK v8 i51)))))))) (ρ' := fun i51 => [g5, g6, .im (.tuple v7), .im (.tuple v8), .im (.int x49), .im (.int i51), g11]) (ea_cons ev_cst ea_nil) (it_1 h52) h53 h61 rfl (fun _ => rfl) (fun _ => rfl) (fun i51 h59 => (ev_sub (ev_to (isI_eq (andB_r (andB_r (andB_r (andB_r h59))))) (ev_idx (ev_var rfl) (ev_var rfl) (ix_T (isSome_eq (z := PyData.none) (andB_l h59))))) (ev_mul (mulQ_eq (andB_l (andB_r (andB_r (andB_r h59))))) (ev_var rfl) (ev_to (isI_eq (andB_l (andB_r (andB_r h59)))) (ev_idx (ev_var rfl) (ev_var rfl) (ix_T (isSome_eq (z := PyData.none) (andB_l (andB_r h59)))))))))) ea_nil) bl_tupL)) ea_nil)) rfl rfl) rfl ?_
      refine ok_nil ?_
      exact nx_lp (hi35 _ _ ⟨_, _, _, _, _, _, _, rfl, rfl⟩)
    · exact hk34 _ _ ⟨_, _, _, _, _, _, _, rfl, rfl⟩
noncomputable def u_common_φ : List Ev.D → Option Ev.R := fun ds => match ds with
  | [p0, p1] => (x_common p0 p1).map Nx.rT
  | _ => none
theorem x_common_φe {p0 : Ev.D} {p1 : Ev.D} {v : List Ev.D} (h : x_common p0 p1 = some v) : u_common_φ [p0, p1] = some (Nx.rT v) := by
  show (x_common p0 p1).map _ = _
  rw [h]; rfl
set_option maxHeartbeats 0 in
theorem x_common_own : ∀ ds r, u_common_φ ds = some r → ds.length = 2 ∧ ∃ M o, evSs (Φof u_common_φs) (Ψof []) M (start0 7 ds) τ0 u_common_code = some o ∧ retOf o = some r := by
  intro ds r h
  unfold u_common_φ at h
  split at h
  · exact ⟨rfl, own_of (x_common_ok  _ _) h⟩
  · cases h
end
/-! gcd_of -/
abbrev u_gcd_of_st : Stmt := topS 4
abbrev u_gcd_of_N : List Str := ["numbers", "found", "number"]
theorem u_gcd_of_sc : FnScope u_gcd_of_N ["numbers"] (defScope u_gcd_of_st) := ⟨rfl, rfl, rfl, by decide +kernel, rfl, by decide +kernel, by decide +kernel⟩
def u_gcd_of_fs : List Str := "common" :: u_common_fs
def u_gcd_of_cc : Cc := ⟨u_gcd_of_N, defScope u_gcd_of_st, cons, u_gcd_of_fs, [], blts⟩
def u_gcd_of_code : List S :=
   [.set (.nm 1) (.cst (.int 0)),
    .forv (.nm 2) 0 [.set (.nm 1) (.idx (.call 0 [(.var 1), (.var 2)]) (.cst (.int 0)))],
    .retv 1]
theorem u_gcd_of_comp : compSs 100 u_gcd_of_cc (defBody u_gcd_of_st) = some u_gcd_of_code := by kernel_rfl
noncomputable def u_gcd_of_φs : List (List Ev.D → Option Ev.R) := u_common_φ :: u_common_φs
section
open Nx
noncomputable def x_gcd_of_K1 (v22 : Ev.D) : Option (Ev.D) := (some v22)
noncomputable def x_gcd_of_B1 (ih1 : Ev.D → Option (Ev.D)) (d27 : Ev.D) (v19 : Ev.D) : Option (Ev.D) := (bndO (x_common v19 d27) fun x30 => (iteB (nlL x30) (bndO (ixK x30 (.ofNat 0)) fun x33 => (ih1 x33)) none))
noncomputable def x_gcd_of_L1  (l : List Ev.D) : Ev.D → Option (Ev.D) := @List.rec Ev.D (fun _ => Ev.D → Option (Ev.D)) (fun v19 => (x_gcd_of_K1 v19)) (fun d _ ih => x_gcd_of_B1 ih d) l
noncomputable def x_gcd_of (p0 : Ev.D) : Option (Ev.D) := (iteB (isQ p0) (x_gcd_of_L1 (asQ p0) (.int (.ofNat 0))) none)
set_option maxHeartbeats 0 in
theorem x_gcd_of_ok {Φ : Nat → List Ev.D → Option Ev.R} {Ψ : Nat → List Ev.D → Tp → Option (Ev.R × Tp)} {τ : Tp} (e_0 : Φ 0 = u_common_φ) (p0 : Ev.D) : OkO Nx.rD (evSs Φ Ψ 1000 [.im p0, .un, .un] τ u_gcd_of_code) retOf (x_gcd_of p0) := by
  unfold x_gcd_of u_gcd_of_code
  refine st_set (ρ' := [.im p0, .im (.int (.ofNat 0)), .un]) ev_cst rfl ?_
  refine ok_g fun h1 => ?_
  refine st_forv rfl (it_0D h1) ?_
  refine fo_L (fun ρ n => ∃ (v22 : Ev.D) (g21 : Sl) (g23 : Sl), ρ = [g21, .im v22, g23] ∧ n = x_gcd_of_K1 v22) (fun l ρ n => ∃ (v19 : Ev.D) (g18 : Sl) (g20 : Sl), ρ = [g18, .im v19, g20] ∧ n = x_gcd_of_L1 l v19) ?_ ⟨_, _, _, rfl, rfl⟩ ?_ ?_
  · rintro ρ n ⟨v22, g21, g23, rfl, rfl⟩
    unfold x_gcd_of_K1
    refine st_retv rfl ?_
    exact rt_end rfl
  · rintro hk24 ρ n ⟨v19, g18, g20, rfl, rfl⟩
    exact hk24 _ _ ⟨_, _, _, rfl, rfl⟩
  · rintro hk24 d27 l28 hi25 ρ n ⟨v19, g18, g20, rfl, rfl⟩
    show OkO _ _ _ (x_gcd_of_B1 (x_gcd_of_L1 l28) d27 v19)
    unfold x_gcd_of_B1
    refine fo_cons (ρ1 := [g18, .im v19, .im d27]) rfl ?_
    refine ok_bnd fun x30 h29 => ?_
    refine ok_g fun h31 => ?_
    refine ok_bnd fun x33 h32 => ?_
    refine st_set (ρ' := [g18, .im x33, .im d27]) (ev_idx (ev_call (r := Nx.rT x30) (ea_cons (ev_var rfl) (ea_cons (ev_var rfl) ea_nil)) (call_eq (ds := [v19, d27]) e_0 (x_common_φe h29)) (cl_T h31)) ev_cst (ix_T h32)) rfl ?_
    refine ok_nil ?_
    exact nx_fp (hi25 _ _ ⟨_, _, _, rfl, rfl⟩)
noncomputable def u_gcd_of_φ : List Ev.D → Option Ev.R := fun ds => match ds with
  | [p0] => (x_gcd_of p0).map Nx.rD
  | _ => none
theorem x_gcd_of_φe {p0 : Ev.D} {v : Ev.D} (h : x_gcd_of p0 = some v) : u_gcd_of_φ [p0] = some (Nx.rD v) := by
  show (x_gcd_of p0).map _ = _
  rw [h]; rfl
set_option maxHeartbeats 0 in
theorem x_gcd_of_own : ∀ ds r, u_gcd_of_φ ds = some r → ds.length = 1 ∧ ∃ M o, evSs (Φof u_gcd_of_φs) (Ψof []) M (start0 3 ds) τ0 u_gcd_of_code = some o ∧ retOf o = some r := by
  intro ds r h
  unfold u_gcd_of_φ at h
  split at h
  · exact ⟨rfl, own_of (x_gcd_of_ok rfl _) h⟩
  · cases h
end
/-! lcm_of -/
abbrev u_lcm_of_st : Stmt := topS 5
abbrev u_lcm_of_N : List Str := ["numbers", "found", "number"]
theorem u_lcm_of_sc : FnScope u_lcm_of_N ["numbers"] (defScope u_lcm_of_st) := ⟨rfl, rfl, rfl, by decide +kernel, rfl, by decide +kernel, by decide +kernel⟩
def u_lcm_of_fs : List Str := "gcd_of" :: u_gcd_of_fs
def u_lcm_of_cc : Cc := ⟨u_lcm_of_N, defScope u_lcm_of_st, cons, u_lcm_of_fs, [], blts⟩
def u_lcm_of_code : List S :=
   [.set (.nm 1) (.cst (.int 1)),
    .forv (.nm 2) 0 [.ite (.cmp .eq (.var 2) (.cst (.int 0))) [.ret (.cst (.int 0))] [],
    .set (.nm 1) (.bin .fdiv (.blt .abs [(.bin .mul (.var 1) (.var 2))]) (.idx (.call 1 [(.var 1), (.var 2)]) (.cst (.int 0))))],
    .retv 1]
theorem u_lcm_of_comp : compSs 100 u_lcm_of_cc (defBody u_lcm_of_st) = some u_lcm_of_code := by kernel_rfl
noncomputable def u_lcm_of_φs : List (List Ev.D → Option Ev.R) := u_gcd_of_φ :: u_gcd_of_φs
section
open Nx
noncomputable def x_lcm_of_K1 (v6 : Int) : Option (Int) := (some v6)
noncomputable def x_lcm_of_B1 (ih1 : Int → Option (Int)) (d11 : Ev.D) (v3 : Int) : Option (Int) := (iteB (shK d11 8) (iteB (eqK d11 (.int (.ofNat 0))) (some (.ofNat 0)) (dInt d11 none fun x15 => (iteB (mulQ v3 x15) (bndO (x_common (.int v3) d11) fun x18 => (iteB (nlL x18) (bndO (ixK x18 (.ofNat 0)) fun x21 => (dInt x21 none fun x23 => (iteB (divQ x23) (frcI (fdivZ (absI (mulZ v3 x15)) x23) fun x25 => (ih1 x25)) none))) none)) none))) none)
noncomputable def x_lcm_of_L1  (l : List Ev.D) : Int → Option (Int) := @List.rec Ev.D (fun _ => Int → Option (Int)) (fun v3 => (x_lcm_of_K1 v3)) (fun d _ ih => x_lcm_of_B1 ih d) l
noncomputable def x_lcm_of (p0 : Ev.D) : Option (Int) := (iteB (isQ p0) (x_lcm_of_L1 (asQ p0) (.ofNat 1)) none)
set_option maxHeartbeats 0 in
theorem x_lcm_of_ok {Φ : Nat → List Ev.D → Option Ev.R} {Ψ : Nat → List Ev.D → Tp → Option (Ev.R × Tp)} {τ : Tp} (e_1 : Φ 1 = u_common_φ) (p0 : Ev.D) : OkO Nx.rI (evSs Φ Ψ 1000 [.im p0, .un, .un] τ u_lcm_of_code) retOf (x_lcm_of p0) := by
  unfold x_lcm_of u_lcm_of_code
  refine st_set (ρ' := [.im p0, .im (.int (.ofNat 1)), .un]) ev_cst rfl ?_
  refine ok_g fun h1 => ?_
  refine st_forv rfl (it_0D h1) ?_
  refine fo_L (fun ρ n => ∃ (v6 : Int) (g5 : Sl) (g7 : Sl), ρ = [g5, .im (.int v6), g7] ∧ n = x_lcm_of_K1 v6) (fun l ρ n => ∃ (v3 : Int) (g2 : Sl) (g4 : Sl), ρ = [g2, .im (.int v3), g4] ∧ n = x_lcm_of_L1 l v3) ?_ ⟨_, _, _, rfl, rfl⟩ ?_ ?_
  · rintro ρ n ⟨v6, g5, g7, rfl, rfl⟩
    unfold x_lcm_of_K1
    refine st_retv rfl ?_
    exact rt_end rfl
  · rintro hk8 ρ n ⟨v3, g2, g4, rfl, rfl⟩
    exact hk8 _ _ ⟨_, _, _, rfl, rfl⟩
  · rintro hk8 d11 l12 hi9 ρ n ⟨v3, g2, g4, rfl, rfl⟩
    show OkO _ _ _ (x_lcm_of_B1 (x_lcm_of_L1 l12) d11 v3)
    unfold x_lcm_of_B1
    refine fo_cons (ρ1 := [g2, .im (.int v3), .im d11]) rfl ?_
    refine ok_g fun h13 => ?_
    refine st_ite (ev_cmp (x := d11) (y := (.int (.ofNat 0))) (ev_var rfl) ev_cst (cmpD_eq h13 rfl)) ?_ ?_
    · refine st_ret ev_cst rfl ?_
      refine rt_sq ?_
      refine rt_fp ?_
      refine rt_sq ?_
      exact rt_end rfl
    · refine ok_nil ?_
      refine nx_sq ?_
      refine ok_dInt fun x15 h14 => ?_
      refine ok_g fun h16 => ?_
      refine ok_bnd fun x18 h17 => ?_
      refine ok_g fun h19 => ?_
      refine ok_bnd fun x21 h20 => ?_
      refine ok_dInt fun x23 h22 => ?_
      refine ok_g fun h24 => ?_
      refine ok_frcI fun x25 h26 => ?_
      refine st_set (ρ' := [g2, .im (.int x25), .im d11]) (ev_to (congrArg PyData.int h26) (ev_fdiv (divQ_eq h24) (ev_blt (ea_cons (ev_mul (mulQ_eq h16) (ev_var rfl) (ev_to h14 (ev_var rfl))) ea_nil) bl_abs) (ev_to h22 (ev_idx (ev_call (r := Nx.rT x18) (ea_cons (ev_var rfl) (ea_cons (ev_var rfl) ea_nil)) (call_eq (ds := [(.int v3), d11]) e_1 (x_common_φe h17)) (cl_T h19)) ev_cst (ix_T h20))))) rfl ?_
      refine ok_nil ?_
      exact nx_fp (hi9 _ _ ⟨_, _, _, rfl, rfl⟩)
noncomputable def u_lcm_of_φ : List Ev.D → Option Ev.R := fun ds => match ds with
  | [p0] => (x_lcm_of p0).map Nx.rI
  | _ => none
theorem x_lcm_of_φe {p0 : Ev.D} {v : Int} (h : x_lcm_of p0 = some v) : u_lcm_of_φ [p0] = some (Nx.rI v) := by
  show (x_lcm_of p0).map _ = _
  rw [h]; rfl
set_option maxHeartbeats 0 in
theorem x_lcm_of_own : ∀ ds r, u_lcm_of_φ ds = some r → ds.length = 1 ∧ ∃ M o, evSs (Φof u_lcm_of_φs) (Ψof []) M (start0 3 ds) τ0 u_lcm_of_code = some o ∧ retOf o = some r := by
  intro ds r h
  unfold u_lcm_of_φ at h
  split at h
  · exact ⟨rfl, own_of (x_lcm_of_ok rfl _) h⟩
  · cases h
end
/-! power -/
abbrev u_power_st : Stmt := topS 6
abbrev u_power_N : List Str := ["base", "times", "whole", "found"]
theorem u_power_sc : FnScope u_power_N ["base", "times", "whole"] (defScope u_power_st) := ⟨rfl, rfl, rfl, by decide +kernel, rfl, by decide +kernel, by decide +kernel⟩
def u_power_fs : List Str := "lcm_of" :: u_lcm_of_fs
def u_power_cc : Cc := ⟨u_power_N, defScope u_power_st, cons, u_power_fs, [], blts⟩
def u_power_code : List S :=
   [.ite (.cmp .lt (.var 1) (.cst (.int 0))) [.nev] [],
    .ite (.cmp .lt (.var 2) (.cst (.int 1))) [.nev] [],
    .set (.nm 3) (.bin .mod (.cst (.int 1)) (.var 2)),
    .set (.nm 0) (.bin .mod (.var 0) (.var 2)),
    .whl (.cmp .gt (.var 1) (.cst (.int 0))) [.ite (.cmp .eq (.bin .mod (.var 1) (.cst (.int 2))) (.cst (.int 1))) [.set (.nm 3) (.bin .mod (.bin .mul (.var 3) (.var 0)) (.var 2))] [],
    .set (.nm 0) (.bin .mod (.bin .mul (.var 0) (.var 0)) (.var 2)),
    .aug 1 .fdiv (.cst (.int 2))],
    .retv 3]
theorem u_power_comp : compSs 100 u_power_cc (defBody u_power_st) = some u_power_code := by kernel_rfl
noncomputable def u_power_φs : List (List Ev.D → Option Ev.R) := u_lcm_of_φ :: u_lcm_of_φs
section
open Nx
noncomputable def x_power_K1 (v13 : Int) : Option (Int) := (some v13)
noncomputable def x_power_J2 (ih1 : Int → Int → Int → Option (Int)) (v7 : Int) (v8 : Int) (p2 : Int) (v21 : Int) : Option (Int) := (iteB (mulQ v7 v7) (iteB (notB (eqZ p2 (.ofNat 0))) (frcI (fmodZ (mulZ v7 v7) p2) fun x24 => (frcI (fdivZ v8 (.ofNat 2)) fun x26 => (ih1 x24 x26 v21))) none) none)
noncomputable def x_power_B1 (p2 : Int) (ih1 : Int → Int → Int → Option (Int)) (v7 : Int) (v8 : Int) (v9 : Int) : Option (Int) := (iteB (ltZ (.ofNat 0) v8) (iteB (eqZ (fmodZ v8 (.ofNat 2)) (.ofNat 1)) (iteB (mulQ v9 v7) (iteB (notB (eqZ p2 (.ofNat 0))) (frcI (fmodZ (mulZ v9 v7) p2) fun x31 => (x_power_J2 ih1 v7 v8 p2 x31)) none) none) (x_power_J2 ih1 v7 v8 p2 v9)) (x_power_K1 v9))
noncomputable def x_power_L1 (p2 : Int) (m : Nat) : Int → Int → Int → Option (Int) := @Nat.rec (fun _ => Int → Int → Int → Option (Int)) (fun _ _ _ => none) (fun _ ih => x_power_B1 p2 ih) m
noncomputable def x_power (p0 : Int) (p1 : Int) (p2 : Int) : Option (Int) := (iteB (ltZ p1 (.ofNat 0)) none (iteB (ltZ p2 (.ofNat 1)) none (iteB (notB (eqZ p2 (.ofNat 0))) (frcI (fmodZ (.ofNat 1) p2) fun x2 => (iteB (notB (eqZ p2 (.ofNat 0))) (frcI (fmodZ p0 p2) fun x5 => (x_power_L1 p2 1000 x5 p1 x2)) none)) none)))
set_option maxHeartbeats 0 in
theorem x_power_ok {Φ : Nat → List Ev.D → Option Ev.R} {Ψ : Nat → List Ev.D → Tp → Option (Ev.R × Tp)} {τ : Tp}  (p0 : Int) (p1 : Int) (p2 : Int) : OkO Nx.rI (evSs Φ Ψ 1000 [.im (.int p0), .im (.int p1), .im (.int p2), .un] τ u_power_code) retOf (x_power p0 p1 p2) := by
  unfold x_power u_power_code
  refine st_ite (ev_lt (ev_var rfl) ev_cst) ?_ ?_
  · exact ok_none
  · refine ok_nil ?_
    refine nx_sq ?_
    refine st_ite (ev_lt (ev_var rfl) ev_cst) ?_ ?_
    · exact ok_none
    · refine ok_nil ?_
      refine nx_sq ?_
      refine ok_g fun h1 => ?_
      refine ok_frcI fun x2 h3 => ?_
      refine st_set (ρ' := [.im (.int p0), .im (.int p1), .im (.int p2), .im (.int x2)]) (ev_to (congrArg PyData.int h3) (ev_mod (nz_of h1) ev_cst (ev_var rfl))) rfl ?_
      refine ok_g fun h4 => ?_
      refine ok_frcI fun x5 h6 => ?_
      refine st_set (ρ' := [.im (.int x5), .im (.int p1), .im (.int p2), .im (.int x2)]) (ev_to (congrArg PyData.int h6) (ev_mod (nz_of h4) (ev_var rfl) (ev_var rfl))) rfl ?_
      refine st_whl (fun ρ n => ∃ (v13 : Int) (g10 : Sl) (g11 : Sl) (g12 : Sl), ρ = [g10, g11, g12, .im (.int v13)] ∧ n = x_power_K1 v13) (fun m ρ n => ∃ (v7 : Int) (v8 : Int) (v9 : Int), ρ = [.im (.int v7), .im (.int v8), .im (.int p2), .im (.int v9)] ∧ n = x_power_L1 p2 m v7 v8 v9) ?_ ⟨_, _, _, rfl, rfl⟩ ?_ ?_
      · rintro ρ n ⟨v13, g10, g11, g12, rfl, rfl⟩
        unfold x_power_K1
        refine st_retv rfl ?_
        exact rt_end rfl
      · rintro ρ n ⟨v7, v8, v9, rfl, rfl⟩
        rfl
      · rintro hk14 m16 hi15 ρ n ⟨v7, v8, v9, rfl, rfl⟩
        show OkO _ _ _ (x_power_B1 p2 (x_power_L1 p2 m16) v7 v8 v9)
        unfold x_power_B1
        refine wh_step (ev_gt (ev_var rfl) ev_cst) ?_ ?_
        · refine st_iteJ (fun ρ n => ∃ (v21 : Int), ρ = [.im (.int v7), .im (.int v8), .im (.int p2), .im (.int v21)] ∧ n = x_power_J2 (x_power_L1 p2 m16) v7 v8 p2 v21) ?_ (ev_eq (ev_mod rfl (ev_var rfl) ev_cst) ev_cst) (fun hj28 => ?_) (fun hj28 => ?_)
          · rintro ρ n ⟨v21, rfl, rfl⟩
            unfold x_power_J2
            refine ok_g fun h22 => ?_
            refine ok_g fun h23 => ?_
            refine ok_frcI fun x24 h25 => ?_
            refine st_set (ρ' := [.im (.int x24), .im (.int v8), .im (.int p2), .im (.int v21)]) (ev_to (congrArg PyData.int h25) (ev_mod (nz_of h23) (ev_mul (mulQ_eq h22) (ev_var rfl) (ev_var rfl)) (ev_var rfl))) rfl ?_
            refine ok_frcI fun x26 h27 => ?_
            refine st_aug (ρ' := [.im (.int x24), .im (.int x26), .im (.int p2), .im (.int v21)]) rfl ev_cst ((ag_fdiv (by decide +kernel) rfl).trans (congrArg (fun z => some (PyData.int z)) h27)) rfl ?_
            refine ok_nil ?_
            exact nx_lp (hi15 _ _ ⟨_, _, _, rfl, rfl⟩)
          · refine ok_g fun h29 => ?_
            refine ok_g fun h30 => ?_
            refine ok_frcI fun x31 h32 => ?_
            refine st_set (ρ' := [.im (.int v7), .im (.int v8), .im (.int p2), .im (.int x31)]) (ev_to (congrArg PyData.int h32) (ev_mod (nz_of h30) (ev_mul (mulQ_eq h29) (ev_var rfl) (ev_var rfl)) (ev_var rfl))) rfl ?_
            refine ok_nil ?_
            exact hj28 _ _ ⟨_, rfl, rfl⟩
          · refine ok_nil ?_
            exact hj28 _ _ ⟨_, rfl, rfl⟩
        · exact hk14 _ _ ⟨_, _, _, _, rfl, rfl⟩
noncomputable def u_power_φ : List Ev.D → Option Ev.R := fun ds => match ds with
  | [.int p0, .int p1, .int p2] => (x_power p0 p1 p2).map Nx.rI
  | _ => none
theorem x_power_φe {p0 : Int} {p1 : Int} {p2 : Int} {v : Int} (h : x_power p0 p1 p2 = some v) : u_power_φ [.int p0, .int p1, .int p2] = some (Nx.rI v) := by
  show (x_power p0 p1 p2).map _ = _
  rw [h]; rfl
set_option maxHeartbeats 0 in
theorem x_power_own : ∀ ds r, u_power_φ ds = some r → ds.length = 3 ∧ ∃ M o, evSs (Φof u_power_φs) (Ψof []) M (start0 4 ds) τ0 u_power_code = some o ∧ retOf o = some r := by
  intro ds r h
  unfold u_power_φ at h
  split at h
  · exact ⟨rfl, own_of (x_power_ok  _ _ _) h⟩
  · cases h
end
/-! tower -/
abbrev u_tower_st : Stmt := topS 7
abbrev u_tower_N : List Str := ["base", "times", "found"]
theorem u_tower_sc : FnScope u_tower_N ["base", "times"] (defScope u_tower_st) := ⟨rfl, rfl, rfl, by decide +kernel, rfl, by decide +kernel, by decide +kernel⟩
def u_tower_fs : List Str := "power" :: u_power_fs
def u_tower_cc : Cc := ⟨u_tower_N, defScope u_tower_st, cons, u_tower_fs, [], blts⟩
def u_tower_code : List S :=
   [.set (.nm 2) (.cst (.int 1)),
    .whl (.cmp .gt (.var 1) (.cst (.int 0))) [.ite (.cmp .eq (.bin .mod (.var 1) (.cst (.int 2))) (.cst (.int 1))) [.aug 2 .mul (.var 0)] [],
    .aug 0 .mul (.var 0),
    .aug 1 .fdiv (.cst (.int 2))],
    .retv 2]
theorem u_tower_comp : compSs 100 u_tower_cc (defBody u_tower_st) = some u_tower_code := by kernel_rfl
noncomputable def u_tower_φs : List (List Ev.D → Option Ev.R) := u_power_φ :: u_power_φs
section
open Nx
noncomputable def x_tower_K1 (v6 : Int) : Option (Int) := (some v6)
noncomputable def x_tower_J2 (ih1 : Int → Int → Int → Option (Int)) (v1 : Int) (v2 : Int) (v13 : Int) : Option (Int) := (iteB (mulQ v1 v1) (frcI (mulZ v1 v1) fun x15 => (frcI (fdivZ v2 (.ofNat 2)) fun x17 => (ih1 x15 x17 v13))) none)
noncomputable def x_tower_B1 (ih1 : Int → Int → Int → Option (Int)) (v1 : Int) (v2 : Int) (v3 : Int) : Option (Int) := (iteB (ltZ (.ofNat 0) v2) (iteB (eqZ (fmodZ v2 (.ofNat 2)) (.ofNat 1)) (iteB (mulQ v3 v1) (frcI (mulZ v3 v1) fun x21 => (x_tower_J2 ih1 v1 v2 x21)) none) (x_tower_J2 ih1 v1 v2 v3)) (x_tower_K1 v3))
noncomputable def x_tower_L1  (m : Nat) : Int → Int → Int → Option (Int) := @Nat.rec (fun _ => Int → Int → Int → Option (Int)) (fun _ _ _ => none) (fun _ ih => x_tower_B1 ih) m
noncomputable def x_tower (p0 : Int) (p1 : Int) : Option (Int) := (x_tower_L1 1000 p0 p1 (.ofNat 1))
set_option maxHeartbeats 0 in
theorem x_tower_ok {Φ : Nat → List Ev.D → Option Ev.R} {Ψ : Nat → List Ev.D → Tp → Option (Ev.R × Tp)} {τ : Tp}  (p0 : Int) (p1 : Int) : OkO Nx.rI (evSs Φ Ψ 1000 [.im (.int p0), .im (.int p1), .un] τ u_tower_code) retOf (x_tower p0 p1) := by
  unfold x_tower u_tower_code
  refine st_set (ρ' := [.im (.int p0), .im (.int p1), .im (.int (.ofNat 1))]) ev_cst rfl ?_
  refine st_whl (fun ρ n => ∃ (v6 : Int) (g4 : Sl) (g5 : Sl), ρ = [g4, g5, .im (.int v6)] ∧ n = x_tower_K1 v6) (fun m ρ n => ∃ (v1 : Int) (v2 : Int) (v3 : Int), ρ = [.im (.int v1), .im (.int v2), .im (.int v3)] ∧ n = x_tower_L1 m v1 v2 v3) ?_ ⟨_, _, _, rfl, rfl⟩ ?_ ?_
  · rintro ρ n ⟨v6, g4, g5, rfl, rfl⟩
    unfold x_tower_K1
    refine st_retv rfl ?_
    exact rt_end rfl
  · rintro ρ n ⟨v1, v2, v3, rfl, rfl⟩
    rfl
  · rintro hk7 m9 hi8 ρ n ⟨v1, v2, v3, rfl, rfl⟩
    show OkO _ _ _ (x_tower_B1 (x_tower_L1 m9) v1 v2 v3)
    unfold x_tower_B1
    refine wh_step (ev_gt (ev_var rfl) ev_cst) ?_ ?_
    · refine st_iteJ (fun ρ n => ∃ (v13 : Int), ρ = [.im (.int v1), .im (.int v2), .im (.int v13)] ∧ n = x_tower_J2 (x_tower_L1 m9) v1 v2 v13) ?_ (ev_eq (ev_mod rfl (ev_var rfl) ev_cst) ev_cst) (fun hj19 => ?_) (fun hj19 => ?_)
      · rintro ρ n ⟨v13, rfl, rfl⟩
        unfold x_tower_J2
        refine ok_g fun h14 => ?_
        refine ok_frcI fun x15 h16 => ?_
        refine st_aug (ρ' := [.im (.int x15), .im (.int v2), .im (.int v13)]) rfl (ev_var rfl) ((ag_mul (mulQ_eq h14)).trans (congrArg (fun z => some (PyData.int z)) h16)) rfl ?_
        refine ok_frcI fun x17 h18 => ?_
        refine st_aug (ρ' := [.im (.int x15), .im (.int x17), .im (.int v13)]) rfl ev_cst ((ag_fdiv (by decide +kernel) rfl).trans (congrArg (fun z => some (PyData.int z)) h18)) rfl ?_
        refine ok_nil ?_
        exact nx_lp (hi8 _ _ ⟨_, _, _, rfl, rfl⟩)
      · refine ok_g fun h20 => ?_
        refine ok_frcI fun x21 h22 => ?_
        refine st_aug (ρ' := [.im (.int v1), .im (.int v2), .im (.int x21)]) rfl (ev_var rfl) ((ag_mul (mulQ_eq h20)).trans (congrArg (fun z => some (PyData.int z)) h22)) rfl ?_
        refine ok_nil ?_
        exact hj19 _ _ ⟨_, rfl, rfl⟩
      · refine ok_nil ?_
        exact hj19 _ _ ⟨_, rfl, rfl⟩
    · exact hk7 _ _ ⟨_, _, _, rfl, rfl⟩
noncomputable def u_tower_φ : List Ev.D → Option Ev.R := fun ds => match ds with
  | [.int p0, .int p1] => (x_tower p0 p1).map Nx.rI
  | _ => none
theorem x_tower_φe {p0 : Int} {p1 : Int} {v : Int} (h : x_tower p0 p1 = some v) : u_tower_φ [.int p0, .int p1] = some (Nx.rI v) := by
  show (x_tower p0 p1).map _ = _
  rw [h]; rfl
set_option maxHeartbeats 0 in
theorem x_tower_own : ∀ ds r, u_tower_φ ds = some r → ds.length = 2 ∧ ∃ M o, evSs (Φof u_tower_φs) (Ψof []) M (start0 3 ds) τ0 u_tower_code = some o ∧ retOf o = some r := by
  intro ds r h
  unfold u_tower_φ at h
  split at h
  · exact ⟨rfl, own_of (x_tower_ok  _ _) h⟩
  · cases h
end
/-! valuation -/
abbrev u_valuation_st : Stmt := topS 8
abbrev u_valuation_N : List Str := ["number", "base", "count"]
theorem u_valuation_sc : FnScope u_valuation_N ["number", "base"] (defScope u_valuation_st) := ⟨rfl, rfl, rfl, by decide +kernel, rfl, by decide +kernel, by decide +kernel⟩
def u_valuation_fs : List Str := "tower" :: u_tower_fs
def u_valuation_cc : Cc := ⟨u_valuation_N, defScope u_valuation_st, cons, u_valuation_fs, [], blts⟩
def u_valuation_code : List S :=
   [.ite (.cmp .eq (.var 0) (.cst (.int 0))) [.nev] [],
    .ite (.cmp .lt (.var 1) (.cst (.int 2))) [.nev] [],
    .set (.nm 2) (.cst (.int 0)),
    .whl (.cmp .eq (.bin .mod (.var 0) (.var 1)) (.cst (.int 0))) [.aug 0 .fdiv (.var 1),
    .aug 2 .add (.cst (.int 1))],
    .ret (.tup [(.var 2), (.var 0)])]
theorem u_valuation_comp : compSs 100 u_valuation_cc (defBody u_valuation_st) = some u_valuation_code := by kernel_rfl
noncomputable def u_valuation_φs : List (List Ev.D → Option Ev.R) := u_tower_φ :: u_tower_φs
section
open Nx
noncomputable def x_valuation_K1 (v3 : Int) (v5 : Int) : Option (List Ev.D) := (frcLL [(.int v5), (.int v3)] fun x6 => (some x6))
noncomputable def x_valuation_B1 (p1 : Int) (ih1 : Int → Int → Option (List Ev.D)) (v1 : Int) (v2 : Int) : Option (List Ev.D) := (iteB (notB (eqZ p1 (.ofNat 0))) (iteB (eqZ (fmodZ v1 p1) (.ofNat 0)) (iteB (divQ p1) (iteB (ltZ (.ofNat 0) p1) (frcI (fdivZ v1 p1) fun x14 => (frcI (addZ v2 (.ofNat 1)) fun x16 => (ih1 x14 x16))) none) none) (x_valuation_K1 v1 v2)) none)
noncomputable def x_valuation_L1 (p1 : Int) (m : Nat) : Int → Int → Option (List Ev.D) := @Nat.rec (fun _ => Int → Int → Option (List Ev.D)) (fun _ _ => none) (fun _ ih => x_valuation_B1 p1 ih) m
noncomputable def x_valuation (p0 : Int) (p1 : Int) : Option (List Ev.D) := (iteB (eqZ p0 (.ofNat 0)) none (iteB (ltZ p1 (.ofNat 2)) none (x_valuation_L1 p1 1000 p0 (.ofNat 0))))
set_option maxHeartbeats 0 in
theorem x_valuation_ok {Φ : Nat → List Ev.D → Option Ev.R} {Ψ : Nat → List Ev.D → Tp → Option (Ev.R × Tp)} {τ : Tp}  (p0 : Int) (p1 : Int) : OkO Nx.rT (evSs Φ Ψ 1000 [.im (.int p0), .im (.int p1), .un] τ u_valuation_code) retOf (x_valuation p0 p1) := by
  unfold x_valuation u_valuation_code
  refine st_ite (ev_eq (ev_var rfl) ev_cst) ?_ ?_
  · exact ok_none
  · refine ok_nil ?_
    refine nx_sq ?_
    refine st_ite (ev_lt (ev_var rfl) ev_cst) ?_ ?_
    · exact ok_none
    · refine ok_nil ?_
      refine nx_sq ?_
      refine st_set (ρ' := [.im (.int p0), .im (.int p1), .im (.int (.ofNat 0))]) ev_cst rfl ?_
      refine st_whl (fun ρ n => ∃ (v3 : Int) (v5 : Int) (g4 : Sl), ρ = [.im (.int v3), g4, .im (.int v5)] ∧ n = x_valuation_K1 v3 v5) (fun m ρ n => ∃ (v1 : Int) (v2 : Int), ρ = [.im (.int v1), .im (.int p1), .im (.int v2)] ∧ n = x_valuation_L1 p1 m v1 v2) ?_ ⟨_, _, rfl, rfl⟩ ?_ ?_
      · rintro ρ n ⟨v3, v5, g4, rfl, rfl⟩
        unfold x_valuation_K1
        refine ok_frcL fun x6 h7 => ?_
        refine st_ret (ev_to (congrArg PyData.tuple h7) (ev_tup (ds := [(.int v5), (.int v3)]) (ea_cons (ev_var rfl) (ea_cons (ev_var rfl) ea_nil)) rfl rfl)) rfl ?_
        exact rt_end rfl
      · rintro ρ n ⟨v1, v2, rfl, rfl⟩
        rfl
      · rintro hk8 m10 hi9 ρ n ⟨v1, v2, rfl, rfl⟩
        show OkO _ _ _ (x_valuation_B1 p1 (x_valuation_L1 p1 m10) v1 v2)
        unfold x_valuation_B1
        refine ok_g fun h11 => ?_
        refine wh_step (ev_eq (ev_mod (nz_of h11) (ev_var rfl) (ev_var rfl)) ev_cst) ?_ ?_
        · refine ok_g fun h12 => ?_
          refine ok_g fun h13 => ?_
          refine ok_frcI fun x14 h15 => ?_
          refine st_aug (ρ' := [.im (.int x14), .im (.int p1), .im (.int v2)]) rfl (ev_var rfl) ((ag_fdiv (divQ_eq h12) h13).trans (congrArg (fun z => some (PyData.int z)) h15)) rfl ?_
          refine ok_frcI fun x16 h17 => ?_
          refine st_aug (ρ' := [.im (.int x14), .im (.int p1), .im (.int x16)]) rfl ev_cst (ag_add.trans (congrArg (fun z => some (PyData.int z)) h17)) rfl ?_
          refine ok_nil ?_
          exact nx_lp (hi9 _ _ ⟨_, _, rfl, rfl⟩)
        · exact hk8 _ _ ⟨_, _, _, rfl, rfl⟩
noncomputable def u_valuation_φ : List Ev.D → Option Ev.R := fun ds => match ds with
  | [.int p0, .int p1] => (x_valuation p0 p1).map Nx.rT
  | _ => none
theorem x_valuation_φe {p0 : Int} {p1 : Int} {v : List Ev.D} (h : x_valuation p0 p1 = some v) : u_valuation_φ [.int p0, .int p1] = some (Nx.rT v) := by
  show (x_valuation p0 p1).map _ = _
  rw [h]; rfl
set_option maxHeartbeats 0 in
theorem x_valuation_own : ∀ ds r, u_valuation_φ ds = some r → ds.length = 2 ∧ ∃ M o, evSs (Φof u_valuation_φs) (Ψof []) M (start0 3 ds) τ0 u_valuation_code = some o ∧ retOf o = some r := by
  intro ds r h
  unfold u_valuation_φ at h
  split at h
  · exact ⟨rfl, own_of (x_valuation_ok  _ _) h⟩
  · cases h
end
/-! check_number -/
abbrev u_check_number_st : Stmt := topS 12
abbrev u_check_number_N : List Str := ["number"]
theorem u_check_number_sc : FnScope u_check_number_N ["number"] (defScope u_check_number_st) := ⟨rfl, rfl, rfl, by decide +kernel, rfl, by decide +kernel, by decide +kernel⟩
def u_check_number_fs : List Str := "valuation" :: u_valuation_fs
def u_check_number_cc : Cc := ⟨u_check_number_N, defScope u_check_number_st, cons, u_check_number_fs, [], blts⟩
def u_check_number_code : List S :=
   [.ite (.inv (.chn .le .le (.cst (.int 1)) (.var 0) (.cst (.int 100000000000000)))) [.nev] []]
theorem u_check_number_comp : compSs 100 u_check_number_cc (defBody u_check_number_st) = some u_check_number_code := by kernel_rfl
noncomputable def u_check_number_φs : List (List Ev.D → Option Ev.R) := u_valuation_φ :: u_valuation_φs
section
open Nx
noncomputable def x_check_number (p0 : Int) : Option (Ev.D) := (iteB (notB (iteB (leZ (.ofNat 1) p0) (leZ p0 (.ofNat 100000000000000)) false)) none (some .none))
set_option maxHeartbeats 0 in
theorem x_check_number_ok {Φ : Nat → List Ev.D → Option Ev.R} {Ψ : Nat → List Ev.D → Tp → Option (Ev.R × Tp)} {τ : Tp}  (p0 : Int) : OkO Nx.rD (evSs Φ Ψ 1000 [.im (.int p0)] τ u_check_number_code) retOf (x_check_number p0) := by
  unfold x_check_number u_check_number_code
  refine st_ite (ev_inv (ev_chn ev_cst (ev_var rfl) cm_le (fun t1 => ev_cst) (fun _ => cm_le))) ?_ ?_
  · exact ok_none
  · refine ok_nil ?_
    refine nx_sq ?_
    refine ok_nil ?_
    exact nx_end rfl
noncomputable def u_check_number_φ : List Ev.D → Option Ev.R := fun ds => match ds with
  | [.int p0] => (x_check_number p0).map Nx.rD
  | _ => none
theorem x_check_number_φe {p0 : Int} {v : Ev.D} (h : x_check_number p0 = some v) : u_check_number_φ [.int p0] = some (Nx.rD v) := by
  show (x_check_number p0).map _ = _
  rw [h]; rfl
set_option maxHeartbeats 0 in
theorem x_check_number_own : ∀ ds r, u_check_number_φ ds = some r → ds.length = 1 ∧ ∃ M o, evSs (Φof u_check_number_φs) (Ψof []) M (start0 1 ds) τ0 u_check_number_code = some o ∧ retOf o = some r := by
  intro ds r h
  unfold u_check_number_φ at h
  split at h
  · exact ⟨rfl, own_of (x_check_number_ok  _) h⟩
  · cases h
end
/-! has_witness -/
abbrev u_has_witness_st : Stmt := topS 13
abbrev u_has_witness_N : List Str := ["number", "base", "odd", "twos", "now", "_"]
theorem u_has_witness_sc : FnScope u_has_witness_N ["number", "base"] (defScope u_has_witness_st) := ⟨rfl, rfl, rfl, by decide +kernel, rfl, by decide +kernel, by decide +kernel⟩
def u_has_witness_fs : List Str := "check_number" :: u_check_number_fs
def u_has_witness_cc : Cc := ⟨u_has_witness_N, defScope u_has_witness_st, cons, u_has_witness_fs, [], blts⟩
def u_has_witness_code : List S :=
   [.set (.nm 2) (.bin .sub (.var 0) (.cst (.int 1))),
    .set (.nm 3) (.cst (.int 0)),
    .whl (.cmp .eq (.bin .mod (.var 2) (.cst (.int 2))) (.cst (.int 0))) [.aug 2 .fdiv (.cst (.int 2)),
    .aug 3 .add (.cst (.int 1))],
    .set (.nm 4) (.call 3 [(.var 1), (.var 2), (.var 0)]),
    .ite (.cmp .isin (.var 4) (.tup [(.cst (.int 1)), (.bin .sub (.var 0) (.cst (.int 1)))])) [.ret (.cst (.bool false))] [],
    .for_ (.nm 5) 1 [(.bin .sub (.var 3) (.cst (.int 1)))] [.set (.nm 4) (.bin .mod (.bin .mul (.var 4) (.var 4)) (.var 0)),
    .ite (.cmp .eq (.var 4) (.bin .sub (.var 0) (.cst (.int 1)))) [.ret (.cst (.bool false))] []],
    .ret (.cst (.bool true))]
theorem u_has_witness_comp : compSs 100 u_has_witness_cc (defBody u_has_witness_st) = some u_has_witness_code := by kernel_rfl
noncomputable def u_has_witness_φs : List (List Ev.D → Option Ev.R) := u_check_number_φ :: u_check_number_φs
section
open Nx
noncomputable def x_has_witness_K2  : Option (Bool) := (some true)
noncomputable def x_has_witness_B2 (p0 : Int) (ih2 : Int → Option (Bool)) (i29 : Int) (v18 : Int) : Option (Bool) := (frcI i29 fun x30 => (iteB (mulQ v18 v18) (iteB (notB (eqZ p0 (.ofNat 0))) (frcI (fmodZ (mulZ v18 v18) p0) fun x34 => (iteB (eqZ x34 (subZ p0 (.ofNat 1))) (some false) (ih2 x34))) none) none))
noncomputable def x_has_witness_L2 (p0 : Int) (m : Nat) : Int → Int → Option (Bool) := @Nat.rec (fun _ => Int → Int → Option (Bool)) (fun _ v18 => (x_has_witness_K2)) (fun _ ih i => x_has_witness_B2 p0 (ih (addZ i (.ofNat 1))) i) m
noncomputable def x_has_witness_K1 (p0 : Int) (p1 : Int) (v7 : Int) (v8 : Int) : Option (Bool) := (bndO (x_power p1 v7 p0) fun x12 => (iteB (intsB [(.int (.ofNat 1)), (.int (subZ p0 (.ofNat 1)))]) (iteB (anyZ [(.int (.ofNat 1)), (.int (subZ p0 (.ofNat 1)))] x12) (some false) (iteB (rfB (.ofNat 0) (subZ v8 (.ofNat 1))) (x_has_witness_L2 p0 (natZ (subZ v8 (.ofNat 1))) (.ofNat 0) x12) none)) none))
noncomputable def x_has_witness_B1 (p0 : Int) (p1 : Int) (ih1 : Int → Int → Option (Bool)) (v3 : Int) (v4 : Int) : Option (Bool) := (iteB (eqZ (fmodZ v3 (.ofNat 2)) (.ofNat 0)) (frcI (fdivZ v3 (.ofNat 2)) fun x39 => (frcI (addZ v4 (.ofNat 1)) fun x41 => (ih1 x39 x41))) (x_has_witness_K1 p0 p1 v3 v4))
noncomputable def x_has_witness_L1 (p0 : Int) (p1 : Int) (m : Nat) : Int → Int → Option (Bool) := @Nat.rec (fun _ => Int → Int → Option (Bool)) (fun _ _ => none) (fun _ ih => x_has_witness_B1 p0 p1 ih) m
noncomputable def x_has_witness (p0 : Int) (p1 : Int) : Option (Bool) := (frcI (subZ p0 (.ofNat 1)) fun x1 => (x_has_witness_L1 p0 p1 1000 x1 (.ofNat 0)))
set_option maxHeartbeats 0 in
theorem x_has_witness_ok {Φ : Nat → List Ev.D → Option Ev.R} {Ψ : Nat → List Ev.D → Tp → Option (Ev.R × Tp)} {τ : Tp} (e_3 : Φ 3 = u_power_φ) (p0 : Int) (p1 : Int) : OkO Nx.rB (evSs Φ Ψ 1000 [.im (.int p0), .im (.int p1), .un, .un, .un, .un] τ u_has_witness_code) retOf (x_has_witness p0 p1) := by
  unfold x_has_witness u_has_witness_code
  refine ok_frcI fun x1 h2 => ?_
  refine st_set (ρ' := [.im (.int p0), .im (.int p1), .im (.int x1), .un, .un, .un]) (ev_to (congrArg PyData.int h2) (ev_sub (ev_var rfl) ev_cst)) rfl ?_
  refine st_set (ρ' := [.im (.int p0), .im (.int p1), .im (.int x1), .im (.int (.ofNat 0)), .un, .un]) ev_cst rfl ?_
  refine st_whl (fun ρ n => ∃ (v7 : Int) (v8 : Int) (g9 : Sl) (g10 : Sl), ρ = [.im (.int p0), .im (.int p1), .im (.int v7), .im (.int v8), g9, g10] ∧ n = x_has_witness_K1 p0 p1 v7 v8) (fun m ρ n => ∃ (v3 : Int) (v4 : Int) (g5 : Sl) (g6 : Sl), ρ = [.im (.int p0), .im (.int p1), .im (.int v3), .im (.int v4), g5, g6] ∧ n = x_has_witness_L1 p0 p1 m v3 v4) ?_ ⟨_, _, _, _, rfl, rfl⟩ ?_ ?_
  · rintro ρ n ⟨v7, v8, g9, g10, rfl, rfl⟩
    unfold x_has_witness_K1
    refine ok_bnd fun x12 h11 => ?_
    refine st_set (ρ' := [.im (.int p0), .im (.int p1), .im (.int v7), .im (.int v8), .im (.int x12), g10]) (ev_call (r := Nx.rI x12) (ea_cons (ev_var rfl) (ea_cons (ev_var rfl) (ea_cons (ev_var rfl) ea_nil))) (call_eq (ds := [(.int p1), (.int v7), (.int p0)]) e_3 (x_power_φe h11)) rfl) rfl ?_
    refine ok_g fun h13 => ?_
    refine st_ite (ev_cmp (ev_var rfl) (ev_tup (ds := [(.int (.ofNat 1)), (.int (subZ p0 (.ofNat 1)))]) (ea_cons ev_cst (ea_cons (ev_sub (ev_var rfl) ev_cst) ea_nil)) rfl rfl) (inT h13)) ?_ ?_
    · refine st_ret ev_cst rfl ?_
      refine rt_sq ?_
      exact rt_end rfl
    · refine ok_nil ?_
      refine nx_sq ?_
      refine ok_g fun h14 => ?_
      refine st_for (ea_cons (ev_sub (ev_var rfl) ev_cst) ea_nil) rfl (it_1 h14) ?_
      refine fo_R (fun ρ n => ∃ (g20 : Sl) (g21 : Sl) (g22 : Sl) (g23 : Sl) (g24 : Sl) (g25 : Sl), ρ = [g20, g21, g22, g23, g24, g25] ∧ n = x_has_witness_K2) (fun m i ρ n => ∃ (v18 : Int) (g15 : Sl) (g16 : Sl) (g17 : Sl) (g19 : Sl), ρ = [.im (.int p0), g15, g16, g17, .im (.int v18), g19] ∧ n = x_has_witness_L2 p0 m i v18) ?_ ⟨_, _, _, _, _, rfl, rfl⟩ ?_ ?_
      · rintro ρ n ⟨g20, g21, g22, g23, g24, g25, rfl, rfl⟩
        unfold x_has_witness_K2
        refine st_ret ev_cst rfl ?_
        exact rt_end rfl
      · rintro hk26 i ρ n ⟨v18, g15, g16, g17, g19, rfl, rfl⟩
        exact hk26 _ _ ⟨_, _, _, _, _, _, rfl, rfl⟩
      · rintro hk26 m28 i29 hi27 ρ n ⟨v18, g15, g16, g17, g19, rfl, rfl⟩
        show OkO _ _ _ (x_has_witness_B2 p0 (x_has_witness_L2 p0 m28 (addZ i29 (.ofNat 1))) i29 v18)
        unfold x_has_witness_B2
        refine ok_frcI fun x30 h31 => ?_
        refine fo_cons (ρ1 := [.im (.int p0), g15, g16, g17, .im (.int v18), .im (.int x30)]) (by rw [h31]; rfl) ?_
        refine ok_g fun h32 => ?_
        refine ok_g fun h33 => ?_
        refine ok_frcI fun x34 h35 => ?_
        refine st_set (ρ' := [.im (.int p0), g15, g16, g17, .im (.int x34), .im (.int x30)]) (ev_to (congrArg PyData.int h35) (ev_mod (nz_of h33) (ev_mul (mulQ_eq h32) (ev_var rfl) (ev_var rfl)) (ev_var rfl))) rfl ?_
        refine st_ite (ev_eq (ev_var rfl) (ev_sub (ev_var rfl) ev_cst)) ?_ ?_
        · refine st_ret ev_cst rfl ?_
          refine rt_sq ?_
          refine rt_fp ?_
          refine rt_sq ?_
          exact rt_end rfl
        · refine ok_nil ?_
          refine nx_sq ?_
          refine ok_nil ?_
          exact nx_fp (hi27 _ _ ⟨_, _, _, _, _, rfl, rfl⟩)
  · rintro ρ n ⟨v3, v4, g5, g6, rfl, rfl⟩
    rfl
  · rintro hk36 m38 hi37 ρ n ⟨v3, v4, g5, g6, rfl, rfl⟩
    show OkO _ _ _ (x_has_witness_B1 p0 p1 (x_has_witness_L1 p0 p1 m38) v3 v4)
    unfold x_has_witness_B1
    refine wh_step (ev_eq (ev_mod rfl (ev_var rfl) ev_cst) ev_cst) ?_ ?_
    · refine ok_frcI fun x39 h40 => ?_
      refine st_aug (ρ' := [.im (.int p0), .im (.int p1), .im (.int x39), .im (.int v4), g5, g6]) rfl ev_cst ((ag_fdiv (by decide +kernel) rfl).trans (congrArg (fun z => some (PyData.int z)) h40)) rfl ?_
      refine ok_frcI fun x41 h42 => ?_
      refine st_aug (ρ' := [.im (.int p0), .im (.int p1), .im (.int x39), .im (.int x41), g5, g6]) rfl ev_cst (ag_add.trans (congrArg (fun z => some (PyData.int z)) h42)) rfl ?_
      refine ok_nil ?_
      exact nx_lp (hi37 _ _ ⟨_, _, _, _, rfl, rfl⟩)
    · exact hk36 _ _ ⟨_, _, _, _, rfl, rfl⟩
noncomputable def u_has_witness_φ : List Ev.D → Option Ev.R := fun ds => match ds with
  | [.int p0, .int p1] => (x_has_witness p0 p1).map Nx.rB
  | _ => none
theorem x_has_witness_φe {p0 : Int} {p1 : Int} {v : Bool} (h : x_has_witness p0 p1 = some v) : u_has_witness_φ [.int p0, .int p1] = some (Nx.rB v) := by
  show (x_has_witness p0 p1).map _ = _
  rw [h]; rfl
set_option maxHeartbeats 0 in
theorem x_has_witness_own : ∀ ds r, u_has_witness_φ ds = some r → ds.length = 2 ∧ ∃ M o, evSs (Φof u_has_witness_φs) (Ψof []) M (start0 6 ds) τ0 u_has_witness_code = some o ∧ retOf o = some r := by
  intro ds r h
  unfold u_has_witness_φ at h
  split at h
  · exact ⟨rfl, own_of (x_has_witness_ok rfl _ _) h⟩
  · cases h
end
/-! prime -/
abbrev u_prime_st : Stmt := topS 14
abbrev u_prime_N : List Str := ["number", "base"]
theorem u_prime_sc : FnScope u_prime_N ["number"] (defScope u_prime_st) := ⟨rfl, rfl, rfl, by decide +kernel, rfl, by decide +kernel, by decide +kernel⟩
def u_prime_fs : List Str := "has_witness" :: u_has_witness_fs
def u_prime_cc : Cc := ⟨u_prime_N, defScope u_prime_st, cons, u_prime_fs, [], blts⟩
def u_prime_code : List S :=
   [.ite (.cmp .lt (.var 0) (.cst (.int 2))) [.ret (.cst (.bool false))] [],
    .for_ (.nm 1) 0 [(.cst (.tuple [.int 2, .int 3, .int 5, .int 7, .int 11, .int 13, .int 17, .int 19, .int 23, .int 29, .int 31, .int 37]))] [.ite (.cmp .eq (.bin .mod (.var 0) (.var 1)) (.cst (.int 0))) [.ret (.cmp .eq (.var 0) (.var 1))] []],
    .ret (.inv (.blt .any [(.comp (.call 0 [(.var 0), (.var 1)]) (.nm 1) 0 [(.cst (.tuple [.int 2, .int 3, .int 5, .int 7, .int 11, .int 13, .int 17, .int 19, .int 23, .int 29, .int 31, .int 37]))] [])]))]
theorem u_prime_comp : compSs 100 u_prime_cc (defBody u_prime_st) = some u_prime_code := by kernel_rfl
noncomputable def u_prime_φs : List (List Ev.D → Option Ev.R) := u_has_witness_φ :: u_has_witness_φs
section
open Nx
noncomputable def x_prime_K1 (p0 : Int) : Option (Bool) := (iteB (allQ (fun i3 => (andB (isI i3) (isSomeB (x_has_witness p0 (asI i3))))) [.int (.ofNat 2), .int (.ofNat 3), .int (.ofNat 5), .int (.ofNat 7), .int (.ofNat 11), .int (.ofNat 13), .int (.ofNat 17), .int (.ofNat 19), .int (.ofNat 23), .int (.ofNat 29), .int (.ofNat 31), .int (.ofNat 37)]) (iteB (shB [.int (.ofNat 2), .int (.ofNat 3), .int (.ofNat 5), .int (.ofNat 7), .int (.ofNat 11), .int (.ofNat 13), .int (.ofNat 17), .int (.ofNat 19), .int (.ofNat 23), .int (.ofNat 29), .int (.ofNat 31), .int (.ofNat 37)]) (iteB (boosB (mapQ (fun i3 => (.bool (getO false (x_has_witness p0 (asI i3))))) [.int (.ofNat 2), .int (.ofNat 3), .int (.ofNat 5), .int (.ofNat 7), .int (.ofNat 11), .int (.ofNat 13), .int (.ofNat 17), .int (.ofNat 19), .int (.ofNat 23), .int (.ofNat 29), .int (.ofNat 31), .int (.ofNat 37)])) (frcB (notB (anyK (mapQ (fun i3 => (.bool (getO false (x_has_witness p0 (asI i3))))) [.int (.ofNat 2), .int (.ofNat 3), .int (.ofNat 5), .int (.ofNat 7), .int (.ofNat 11), .int (.ofNat 13), .int (.ofNat 17), .int (.ofNat 19), .int (.ofNat 23), .int (.ofNat 29), .int (.ofNat 31), .int (.ofNat 37)]))) fun x11 => (some x11)) none) none) none)
noncomputable def x_prime_B1 (p0 : Int) (ih1 : Option (Bool)) (d16 : Ev.D) : Option (Bool) := (dInt d16 none fun x18 => (iteB (notB (eqZ x18 (.ofNat 0))) (iteB (eqZ (fmodZ p0 x18) (.ofNat 0)) (frcB (eqZ p0 x18) fun x21 => (some x21)) ih1) none))
noncomputable def x_prime_L1 (p0 : Int) (l : List Ev.D) : Option (Bool) := @List.rec Ev.D (fun _ => Option (Bool)) (x_prime_K1 p0) (fun d _ ih => x_prime_B1 p0 ih d) l
noncomputable def x_prime (p0 : Int) : Option (Bool) := (iteB (ltZ p0 (.ofNat 2)) (some false) (x_prime_L1 p0 [.int (.ofNat 2), .int (.ofNat 3), .int (.ofNat 5), .int (.ofNat 7), .int (.ofNat 11), .int (.ofNat 13), .int (.ofNat 17), .int (.ofNat 19), .int (.ofNat 23), .int (.ofNat 29), .int (.ofNat 31), .int (.ofNat 37)]))
set_option maxHeartbeats 0 in
theorem x_prime_ok {Φ : Nat → List Ev.D → Option Ev.R} {Ψ : Nat → List Ev.D → Tp → Option (Ev.R × Tp)} {τ : Tp} (e_0 : Φ 0 = u_has_witness_φ) (p0 : Int) : OkO Nx.rB (evSs Φ Ψ 1000 [.im (.int p0), .un] τ u_prime_code) retOf (x_prime p0) := by
  unfold x_prime u_prime_code
  refine st_ite (ev_lt (ev_var rfl) ev_cst) ?_ ?_
  · refine st_ret ev_cst rfl ?_
    refine rt_sq ?_
    exact rt_end rfl
  · refine ok_nil ?_
    refine nx_sq ?_
    refine st_for (ea_cons ev_cst ea_nil) rfl it_0T ?_
    refine fo_L (fun ρ n => ∃ (g2 : Sl), ρ = [.im (.int p0), g2] ∧ n = x_prime_K1 p0) (fun l ρ n => ∃ (g1 : Sl), ρ = [.im (.int p0), g1] ∧ n = x_prime_L1 p0 l) ?_ ⟨_, rfl, rfl⟩ ?_ ?_
    · rintro ρ n ⟨g2, rfl, rfl⟩
      unfold x_prime_K1
      refine ok_g fun h8 => ?_
      refine ok_g fun h9 => ?_
      refine ok_g fun h10 => ?_
      refine ok_frcB fun x11 h12 => ?_
      refine st_ret (ev_to (congrArg PyData.bool h12) (ev_inv (ev_blt (ea_cons (ev_compQ0 (G := (fun i3 => (andB (isI i3) (isSomeB (x_has_witness p0 (asI i3)))))) (T := (fun i3 => (.bool (getO false (x_has_witness p0 (asI i3)))))) (ρ' := fun i3 => [.im (.int p0), .im i3]) (ea_cons ev_cst ea_nil) it_0T h9 h8 rfl (fun i3 h6 => tg_1 rfl) (fun _ => rfl) (fun i3 h6 => (ev_call (r := Nx.rB (getO false (x_has_witness p0 (asI i3)))) (ea_cons (ev_var rfl) (ea_cons (ev_to (isI_eq (andB_l h6)) (ev_var rfl)) ea_nil)) (call_eq (ds := [(.int p0), (.int (asI i3))]) e_0 (x_has_witness_φe (isSome_eq (z := false) (andB_r h6)))) rfl))) ea_nil) (bl_any h10)))) rfl ?_
      exact rt_end rfl
    · rintro hk13 ρ n ⟨g1, rfl, rfl⟩
      exact hk13 _ _ ⟨_, rfl, rfl⟩
    · rintro hk13 d16 l17 hi14 ρ n ⟨g1, rfl, rfl⟩
      show OkO _ _ _ (x_prime_B1 p0 (x_prime_L1 p0 l17) d16)
      unfold x_prime_B1
      refine ok_dInt fun x18 h19 => ?_
      refine fo_cons (ρ1 := [.im (.int p0), .im (.int x18)]) (by rw [h19]; rfl) ?_
      refine ok_g fun h20 => ?_
      refine st_ite (ev_eq (ev_mod (nz_of h20) (ev_var rfl) (ev_var rfl)) ev_cst) ?_ ?_
      · refine ok_frcB fun x21 h22 => ?_
        refine st_ret (ev_to (congrArg PyData.bool h22) (ev_eq (ev_var rfl) (ev_var rfl))) rfl ?_
        refine rt_sq ?_
        refine rt_fp ?_
        refine rt_sq ?_
        exact rt_end rfl
      · refine ok_nil ?_
        refine nx_sq ?_
        refine ok_nil ?_
        exact nx_fp (hi14 _ _ ⟨_, rfl, rfl⟩)
noncomputable def u_prime_φ : List Ev.D → Option Ev.R := fun ds => match ds with
  | [.int p0] => (x_prime p0).map Nx.rB
  | _ => none
theorem x_prime_φe {p0 : Int} {v : Bool} (h : x_prime p0 = some v) : u_prime_φ [.int p0] = some (Nx.rB v) := by
  show (x_prime p0).map _ = _
  rw [h]; rfl
set_option maxHeartbeats 0 in
theorem x_prime_own : ∀ ds r, u_prime_φ ds = some r → ds.length = 1 ∧ ∃ M o, evSs (Φof u_prime_φs) (Ψof []) M (start0 2 ds) τ0 u_prime_code = some o ∧ retOf o = some r := by
  intro ds r h
  unfold u_prime_φ at h
  split at h
  · exact ⟨rfl, own_of (x_prime_ok rfl _) h⟩
  · cases h
end
/-! is_prime -/
abbrev u_is_prime_st : Stmt := topS 15
abbrev u_is_prime_N : List Str := ["number"]
theorem u_is_prime_sc : FnScope u_is_prime_N ["number"] (defScope u_is_prime_st) := ⟨rfl, rfl, rfl, by decide +kernel, rfl, by decide +kernel, by decide +kernel⟩
def u_is_prime_fs : List Str := "prime" :: u_prime_fs
def u_is_prime_cc : Cc := ⟨u_is_prime_N, defScope u_is_prime_st, cons, u_is_prime_fs, [], blts⟩
def u_is_prime_code : List S :=
   [.exp (.call 2 [(.var 0)]),
    .ret (.call 0 [(.var 0)])]
theorem u_is_prime_comp : compSs 100 u_is_prime_cc (defBody u_is_prime_st) = some u_is_prime_code := by kernel_rfl
noncomputable def u_is_prime_φs : List (List Ev.D → Option Ev.R) := u_prime_φ :: u_prime_φs
section
open Nx
noncomputable def x_is_prime (p0 : Int) : Option (Bool) := (bndO (x_check_number p0) fun x2 => (iteB (nlK x2) (bndO (x_prime p0) fun x5 => (some x5)) none))
set_option maxHeartbeats 0 in
theorem x_is_prime_ok {Φ : Nat → List Ev.D → Option Ev.R} {Ψ : Nat → List Ev.D → Tp → Option (Ev.R × Tp)} {τ : Tp} (e_0 : Φ 0 = u_prime_φ) (e_2 : Φ 2 = u_check_number_φ) (p0 : Int) : OkO Nx.rB (evSs Φ Ψ 1000 [.im (.int p0)] τ u_is_prime_code) retOf (x_is_prime p0) := by
  unfold x_is_prime u_is_prime_code
  refine ok_bnd fun x2 h1 => ?_
  refine ok_g fun h3 => ?_
  refine st_exp (ev_call (r := Nx.rD x2) (ea_cons (ev_var rfl) ea_nil) (call_eq (ds := [(.int p0)]) e_2 (x_check_number_φe h1)) (cl_D h3)) ?_
  refine ok_bnd fun x5 h4 => ?_
  refine st_ret (ev_call (r := Nx.rB x5) (ea_cons (ev_var rfl) ea_nil) (call_eq (ds := [(.int p0)]) e_0 (x_prime_φe h4)) rfl) rfl ?_
  exact rt_end rfl
noncomputable def u_is_prime_φ : List Ev.D → Option Ev.R := fun ds => match ds with
  | [.int p0] => (x_is_prime p0).map Nx.rB
  | _ => none
theorem x_is_prime_φe {p0 : Int} {v : Bool} (h : x_is_prime p0 = some v) : u_is_prime_φ [.int p0] = some (Nx.rB v) := by
  show (x_is_prime p0).map _ = _
  rw [h]; rfl
set_option maxHeartbeats 0 in
theorem x_is_prime_own : ∀ ds r, u_is_prime_φ ds = some r → ds.length = 1 ∧ ∃ M o, evSs (Φof u_is_prime_φs) (Ψof []) M (start0 1 ds) τ0 u_is_prime_code = some o ∧ retOf o = some r := by
  intro ds r h
  unfold u_is_prime_φ at h
  split at h
  · exact ⟨rfl, own_of (x_is_prime_ok rfl rfl _) h⟩
  · cases h
end
/-! small_divisor -/
abbrev u_small_divisor_st : Stmt := topS 16
abbrev u_small_divisor_N : List Str := ["number", "divisor"]
theorem u_small_divisor_sc : FnScope u_small_divisor_N ["number"] (defScope u_small_divisor_st) := ⟨rfl, rfl, rfl, by decide +kernel, rfl, by decide +kernel, by decide +kernel⟩
def u_small_divisor_fs : List Str := "is_prime" :: u_is_prime_fs
def u_small_divisor_cc : Cc := ⟨u_small_divisor_N, defScope u_small_divisor_st, cons, u_small_divisor_fs, [], blts⟩
def u_small_divisor_code : List S :=
   [.for_ (.nm 1) 2 [(.cst (.int 2)), (.cst (.int 1001))] [.ite (.cmp .gt (.bin .mul (.var 1) (.var 1)) (.var 0)) [.ret (.cst (.none))] [],
    .ite (.cmp .eq (.bin .mod (.var 0) (.var 1)) (.cst (.int 0))) [.retv 1] []],
    .ret (.cst (.none))]
theorem u_small_divisor_comp : compSs 100 u_small_divisor_cc (defBody u_small_divisor_st) = some u_small_divisor_code := by kernel_rfl
noncomputable def u_small_divisor_φs : List (List Ev.D → Option Ev.R) := u_is_prime_φ :: u_is_prime_φs
section
open Nx
noncomputable def x_small_divisor_K1  : Option (Ev.D) := (some .none)
noncomputable def x_small_divisor_B1 (p0 : Int) (ih1 : Option (Ev.D)) (i8 : Int) : Option (Ev.D) := (frcI i8 fun x9 => (iteB (mulQ x9 x9) (iteB (ltZ p0 (mulZ x9 x9)) (some .none) (iteB (notB (eqZ x9 (.ofNat 0))) (iteB (eqZ (fmodZ p0 x9) (.ofNat 0)) (some (.int x9)) ih1) none)) none))
noncomputable def x_small_divisor_L1 (p0 : Int) (m : Nat) : Int → Option (Ev.D) := @Nat.rec (fun _ => Int → Option (Ev.D)) (fun _  => (x_small_divisor_K1)) (fun _ ih i => x_small_divisor_B1 p0 (ih (addZ i (.ofNat 1))) i) m
noncomputable def x_small_divisor (p0 : Int) : Option (Ev.D) := (iteB (rfB (.ofNat 2) (.ofNat 1001)) (x_small_divisor_L1 p0 (natZ (subZ (.ofNat 1001) (.ofNat 2))) (.ofNat 2)) none)
set_option maxHeartbeats 0 in
theorem x_small_divisor_ok {Φ : Nat → List Ev.D → Option Ev.R} {Ψ : Nat → List Ev.D → Tp → Option (Ev.R × Tp)} {τ : Tp}  (p0 : Int) : OkO Nx.rD (evSs Φ Ψ 1000 [.im (.int p0), .un] τ u_small_divisor_code) retOf (x_small_divisor p0) := by
  unfold x_small_divisor u_small_divisor_code
  refine ok_g fun h1 => ?_
  refine st_for (ea_cons ev_cst (ea_cons ev_cst ea_nil)) rfl (it_2 h1) ?_
  refine fo_R (fun ρ n => ∃ (g3 : Sl) (g4 : Sl), ρ = [g3, g4] ∧ n = x_small_divisor_K1) (fun m i ρ n => ∃ (g2 : Sl), ρ = [.im (.int p0), g2] ∧ n = x_small_divisor_L1 p0 m i) ?_ ⟨_, rfl, rfl⟩ ?_ ?_
  · rintro ρ n ⟨g3, g4, rfl, rfl⟩
    unfold x_small_divisor_K1
    refine st_ret ev_cst rfl ?_
    exact rt_end rfl
  · rintro hk5 i ρ n ⟨g2, rfl, rfl⟩
    exact hk5 _ _ ⟨_, _, rfl, rfl⟩
  · rintro hk5 m7 i8 hi6 ρ n ⟨g2, rfl, rfl⟩
    show OkO _ _ _ (x_small_divisor_B1 p0 (x_small_divisor_L1 p0 m7 (addZ i8 (.ofNat 1))) i8)
    unfold x_small_divisor_B1
    refine ok_frcI fun x9 h10 => ?_
    refine fo_cons (ρ1 := [.im (.int p0), .im (.int x9)]) (by rw [h10]; rfl) ?_
    refine ok_g fun h11 => ?_
    refine st_ite (ev_gt (ev_mul (mulQ_eq h11) (ev_var rfl) (ev_var rfl)) (ev_var rfl)) ?_ ?_
    · refine st_ret ev_cst rfl ?_
      refine rt_sq ?_
      refine rt_fp ?_
      refine rt_sq ?_
      exact rt_end rfl
    · refine ok_nil ?_
      refine nx_sq ?_
      refine ok_g fun h12 => ?_
      refine st_ite (ev_eq (ev_mod (nz_of h12) (ev_var rfl) (ev_var rfl)) ev_cst) ?_ ?_
      · refine st_retv rfl ?_
        refine rt_sq ?_
        refine rt_fp ?_
        refine rt_sq ?_
        exact rt_end rfl
      · refine ok_nil ?_
        refine nx_sq ?_
        refine ok_nil ?_
        exact nx_fp (hi6 _ _ ⟨_, rfl, rfl⟩)
noncomputable def u_small_divisor_φ : List Ev.D → Option Ev.R := fun ds => match ds with
  | [.int p0] => (x_small_divisor p0).map Nx.rD
  | _ => none
theorem x_small_divisor_φe {p0 : Int} {v : Ev.D} (h : x_small_divisor p0 = some v) : u_small_divisor_φ [.int p0] = some (Nx.rD v) := by
  show (x_small_divisor p0).map _ = _
  rw [h]; rfl
set_option maxHeartbeats 0 in
theorem x_small_divisor_own : ∀ ds r, u_small_divisor_φ ds = some r → ds.length = 1 ∧ ∃ M o, evSs (Φof u_small_divisor_φs) (Ψof []) M (start0 2 ds) τ0 u_small_divisor_code = some o ∧ retOf o = some r := by
  intro ds r h
  unfold u_small_divisor_φ at h
  split at h
  · exact ⟨rfl, own_of (x_small_divisor_ok  _) h⟩
  · cases h
end
/-! divisor_of -/
abbrev u_divisor_of_st : Stmt := topS 17
abbrev u_divisor_of_N : List Str := ["number", "found", "shift", "slow", "fast", "divisor"]
theorem u_divisor_of_sc : FnScope u_divisor_of_N ["number"] (defScope u_divisor_of_st) := ⟨rfl, rfl, rfl, by decide +kernel, rfl, by decide +kernel, by decide +kernel⟩
def u_divisor_of_fs : List Str := "small_divisor" :: u_small_divisor_fs
def u_divisor_of_cc : Cc := ⟨u_divisor_of_N, defScope u_divisor_of_st, cons, u_divisor_of_fs, [], blts⟩
def u_divisor_of_code : List S :=
   [.set (.nm 1) (.call 0 [(.var 0)]),
    .set (.nm 2) (.cst (.int 1)),
    .whl (.isN (.var 1)) [.set (.tu [3, 4]) (.tup [(.cst (.int 2)), (.cst (.int 2))]),
    .set (.nm 5) (.cst (.int 1)),
    .whl (.cmp .eq (.var 5) (.cst (.int 1))) [.set (.nm 3) (.bin .mod (.bin .add (.bin .mul (.var 3) (.var 3)) (.var 2)) (.var 0)),
    .set (.nm 4) (.bin .mod (.bin .add (.bin .mul (.var 4) (.var 4)) (.var 2)) (.var 0)),
    .set (.nm 4) (.bin .mod (.bin .add (.bin .mul (.var 4) (.var 4)) (.var 2)) (.var 0)),
    .set (.nm 5) (.idx (.call 10 [(.bin .sub (.var 3) (.var 4)), (.var 0)]) (.cst (.int 0)))],
    .set (.nm 1) (.ite (.cmp .lt (.var 5) (.var 0)) (.var 5) (.cst (.none))),
    .aug 2 .add (.cst (.int 1))],
    .retv 1]
theorem u_divisor_of_comp : compSs 100 u_divisor_of_cc (defBody u_divisor_of_st) = some u_divisor_of_code := by kernel_rfl
noncomputable def u_divisor_of_φs : List (List Ev.D → Option Ev.R) := u_small_divisor_φ :: u_small_divisor_φs
section
open Nx
noncomputable def x_divisor_of_K1 (v12 : Ev.D) : Option (Ev.D) := (some v12)
noncomputable def x_divisor_of_K2 (ih1 : Ev.D → Int → Option (Ev.D)) (p0 : Ev.D) (v7 : Int) (v27 : Int) : Option (Ev.D) := (dInt p0 none fun x29 => (frcDD (iteB (ltZ v27 x29) (.int v27) .none) fun x32 => (frcI (addZ v7 (.ofNat 1)) fun x34 => (ih1 x32 x34))))
noncomputable def x_divisor_of_B2 (ih1 : Ev.D → Int → Option (Ev.D)) (p0 : Ev.D) (v7 : Int) (ih2 : Int → Int → Int → Option (Ev.D)) (v21 : Int) (v22 : Int) (v23 : Int) : Option (Ev.D) := (iteB (eqZ v23 (.ofNat 1)) (iteB (mulQ v21 v21) (dInt p0 none fun x41 => (iteB (notB (eqZ x41 (.ofNat 0))) (frcI (fmodZ (addZ (mulZ v21 v21) v7) x41) fun x43 => (iteB (mulQ v22 v22) (dInt p0 none fun x47 => (iteB (notB (eqZ x47 (.ofNat 0))) (frcI (fmodZ (addZ (mulZ v22 v22) v7) x47) fun x49 => (iteB (mulQ x49 x49) (dInt p0 none fun x53 => (iteB (notB (eqZ x53 (.ofNat 0))) (frcI (fmodZ (addZ (mulZ x49 x49) v7) x53) fun x55 => (bndO (x_common (.int (subZ x43 x55)) p0) fun x58 => (iteB (nlL x58) (bndO (ixK x58 (.ofNat 0)) fun x61 => (dInt x61 none fun x63 => (ih2 x43 x55 x63))) none))) none)) none)) none)) none)) none)) none) (x_divisor_of_K2 ih1 p0 v7 v23))
noncomputable def x_divisor_of_L2 (ih1 : Ev.D → Int → Option (Ev.D)) (p0 : Ev.D) (v7 : Int) (m : Nat) : Int → Int → Int → Option (Ev.D) := @Nat.rec (fun _ => Int → Int → Int → Option (Ev.D)) (fun _ _ _ => none) (fun _ ih => x_divisor_of_B2 ih1 p0 v7 ih) m
noncomputable def x_divisor_of_B1 (p0 : Ev.D) (ih1 : Ev.D → Int → Option (Ev.D)) (v6 : Ev.D) (v7 : Int) : Option (Ev.D) := (iteB (isNn v6) (x_divisor_of_L2 ih1 p0 v7 1000 (.ofNat 2) (.ofNat 2) (.ofNat 1)) (x_divisor_of_K1 v6))
noncomputable def x_divisor_of_L1 (p0 : Ev.D) (m : Nat) : Ev.D → Int → Option (Ev.D) := @Nat.rec (fun _ => Ev.D → Int → Option (Ev.D)) (fun _ _ => none) (fun _ ih => x_divisor_of_B1 p0 ih) m
noncomputable def x_divisor_of (p0 : Ev.D) : Option (Ev.D) := (dInt p0 none fun x2 => (bndO (x_small_divisor x2) fun x4 => (iteB (nlK x4) (x_divisor_of_L1 p0 1000 x4 (.ofNat 1)) none)))
set_option maxHeartbeats 0 in
theorem x_divisor_of_ok {Φ : Nat → List Ev.D → Option Ev.R} {Ψ : Nat → List Ev.D → Tp → Option (Ev.R × Tp)} {τ : Tp} (e_0 : Φ 0 = u_small_divisor_φ) (e_10 : Φ 10 = u_common_φ) (p0 : Ev.D) : OkO Nx.rD (evSs Φ Ψ 1000 [.im p0, .un, .un, .un, .un, .un] τ u_divisor_of_code) retOf (x_divisor_of p0) := by
  unfold x_divisor_of u_divisor_of_code
  refine ok_dInt fun x2 h1 => ?_
  refine ok_bnd fun x4 h3 => ?_
  refine ok_g fun h5 => ?_
  refine st_set (ρ' := [.im p0, .im x4, .un, .un, .un, .un]) (ev_call (r := Nx.rD x4) (ea_cons (ev_to h1 (ev_var rfl)) ea_nil) (call_eq (ds := [(.int x2)]) e_0 (x_small_divisor_φe h3)) (cl_D h5)) rfl ?_
  refine st_set (ρ' := [.im p0, .im x4, .im (.int (.ofNat 1)), .un, .un, .un]) ev_cst rfl ?_
  refine st_whl (fun ρ n => ∃ (v12 : Ev.D) (g11 : Sl) (g13 : Sl) (g14 : Sl) (g15 : Sl) (g16 : Sl), ρ = [g11, .im v12, g13, g14, g15, g16] ∧ n = x_divisor_of_K1 v12) (fun m ρ n => ∃ (v6 : Ev.D) (v7 : Int) (g8 : Sl) (g9 : Sl) (g10 : Sl), ρ = [.im p0, .im v6, .im (.int v7), g8, g9, g10] ∧ n = x_divisor_of_L1 p0 m v6 v7) ?_ ⟨_, _, _, _, _, rfl, rfl⟩ ?_ ?_
  · rintro ρ n ⟨v12, g11, g13, g14, g15, g16, rfl, rfl⟩
    unfold x_divisor_of_K1
    refine st_retv rfl ?_
    exact rt_end rfl
  · rintro ρ n ⟨v6, v7, g8, g9, g10, rfl, rfl⟩
    rfl
  · rintro hk17 m19 hi18 ρ n ⟨v6, v7, g8, g9, g10, rfl, rfl⟩
    show OkO _ _ _ (x_divisor_of_B1 p0 (x_divisor_of_L1 p0 m19) v6 v7)
    unfold x_divisor_of_B1
    refine wh_step (ev_isN (ev_var rfl)) ?_ ?_
    · refine st_setT (ρ' := [.im p0, .im v6, .im (.int v7), .im (.int (.ofNat 2)), .im (.int (.ofNat 2)), g10]) (ev_tup (ds := [(.int (.ofNat 2)), (.int (.ofNat 2))]) (ea_cons ev_cst (ea_cons ev_cst ea_nil)) rfl rfl) rfl ?_
      refine st_set (ρ' := [.im p0, .im v6, .im (.int v7), .im (.int (.ofNat 2)), .im (.int (.ofNat 2)), .im (.int (.ofNat 1))]) ev_cst rfl ?_
      refine st_whl (fun ρ n => ∃ (v27 : Int) (g24 : Sl) (g25 : Sl) (g26 : Sl), ρ = [.im p0, g24, .im (.int v7), g25, g26, .im (.int v27)] ∧ n = x_divisor_of_K2 (x_divisor_of_L1 p0 m19) p0 v7 v27) (fun m ρ n => ∃ (v21 : Int) (v22 : Int) (v23 : Int) (g20 : Sl), ρ = [.im p0, g20, .im (.int v7), .im (.int v21), .im (.int v22), .im (.int v23)] ∧ n = x_divisor_of_L2 (x_divisor_of_L1 p0 m19) p0 v7 m v21 v22 v23) ?_ ⟨_, _, _, _, rfl, rfl⟩ ?_ ?_
      · rintro ρ n ⟨v27, g24, g25, g26, rfl, rfl⟩
        unfold x_divisor_of_K2
        refine ok_dInt fun x29 h28 => ?_
        refine ok_frcD fun x32 h33 => ?_
        refine st_set (ρ' := [.im p0, .im x32, .im (.int v7), g25, g26, .im (.int v27)]) (ev_to h33 (ev_ite (ev_lt (ev_var rfl) (ev_to h28 (ev_var rfl))) (fun t30 => (ev_var rfl)) (fun t31 => ev_cst) rfl)) rfl ?_
        refine ok_frcI fun x34 h35 => ?_
        refine st_aug (ρ' := [.im p0, .im x32, .im (.int x34), g25, g26, .im (.int v27)]) rfl ev_cst (ag_add.trans (congrArg (fun z => some (PyData.int z)) h35)) rfl ?_
        refine ok_nil ?_
        exact nx_lp (hi18 _ _ ⟨_, _, _, _, _, rfl, rfl⟩)
      · rintro ρ n ⟨v21, v22, v23, g20, rfl, rfl⟩
        rfl
      · rintro hk36 m38 hi37 ρ n ⟨v21, v22, v23, g20, rfl, rfl⟩
        show OkO _ _ _ (x_divisor_of_B2 (x_divisor_of_L1 p0 m19) p0 v7 (x_divisor_of_L2 (x_divisor_of_L1 p0 m19) p0 v7 m38) v21 v22 v23)
        unfold x_divisor_of_B2
        refine wh_step (ev_eq (ev_var rfl) ev_cst) ?_ ?_
        · refine ok_g fun h39 => ?_
          refine ok_dInt fun x41 h40 => ?_
          refine ok_g fun h42 => ?_
          refine ok_frcI fun x43 h44 => ?_
          refine st_set (ρ' := [.im p0, g20, .im (.int v7), .im (.int x43), .im (.int v22), .im (.int v23)]) (ev_to (congrArg PyData.int h44) (ev_mod (nz_of h42) (ev_add (ev_mul (mulQ_eq h39) (ev_var rfl) (ev_var rfl)) (ev_var rfl)) (ev_to h40 (ev_var rfl)))) rfl ?_
          refine ok_g fun h45 => ?_
          refine ok_dInt fun x47 h46 => ?_
          refine ok_g fun h48 => ?_
          refine ok_frcI fun x49 h50 => ?_
          refine st_set (ρ' := [.im p0, g20, .im (.int v7), .im (.int x43), .im (.int x49), .im (.int v23)]) (ev_to (congrArg PyData.int h50) (ev_mod (nz_of h48) (ev_add (ev_mul (mulQ_eq h45) (ev_var rfl) (ev_var rfl)) (ev_var rfl)) (ev_to h46 (ev_var rfl)))) rfl ?_
          refine ok_g fun h51 => ?_
          refine ok_dInt fun x53 h52 => ?_
          refine ok_g fun h54 => ?_
          refine ok_frcI fun x55 h56 => ?_
          refine st_set (ρ' := [.im p0, g20, .im (.int v7), .im (.int x43), .im (.int x55), .im (.int v23)]) (ev_to (congrArg PyData.int h56) (ev_mod (nz_of h54) (ev_add (ev_mul (mulQ_eq h51) (ev_var rfl) (ev_var rfl)) (ev_var rfl)) (ev_to h52 (ev_var rfl)))) rfl ?_
          refine ok_bnd fun x58 h57 => ?_
          refine ok_g fun h59 => ?_
          refine ok_bnd fun x61 h60 => ?_
          refine ok_dInt fun x63 h62 => ?_
          refine st_set (ρ' := [.im p0, g20, .im (.int v7), .im (.int x43), .im (.int x55), .im (.int x63)]) (ev_to h62 (ev_idx (ev_call (r := Nx.rT x58) (ea_cons (ev_sub (ev_var rfl) (ev_var rfl)) (ea_cons (ev_var rfl) ea_nil)) (call_eq (ds := [(.int (subZ x43 x55)), p0]) e_10 (x_common_φe h57)) (cl_T h59)) ev_cst (ix_T h60))) rfl ?_
          refine ok_nil ?_
          exact nx_lp (hi37 _ _ ⟨_, _, _, _, rfl, rfl⟩)
        · exact hk36 _ _ ⟨_, _, _, _, rfl, rfl⟩
    · exact hk17 _ _ ⟨_, _, _, _, _, _, rfl, rfl⟩
noncomputable def u_divisor_of_φ : List Ev.D → Option Ev.R := fun ds => match ds with
  | [p0] => (x_divisor_of p0).map Nx.rD
  | _ => none
theorem x_divisor_of_φe {p0 : Ev.D} {v : Ev.D} (h : x_divisor_of p0 = some v) : u_divisor_of_φ [p0] = some (Nx.rD v) := by
  show (x_divisor_of p0).map _ = _
  rw [h]; rfl
set_option maxHeartbeats 0 in
theorem x_divisor_of_own : ∀ ds r, u_divisor_of_φ ds = some r → ds.length = 1 ∧ ∃ M o, evSs (Φof u_divisor_of_φs) (Ψof []) M (start0 6 ds) τ0 u_divisor_of_code = some o ∧ retOf o = some r := by
  intro ds r h
  unfold u_divisor_of_φ at h
  split at h
  · exact ⟨rfl, own_of (x_divisor_of_ok rfl rfl _) h⟩
  · cases h
end
/-! prime_parts -/
abbrev u_prime_parts_st : Stmt := topS 18
abbrev u_prime_parts_N : List Str := ["number", "waiting", "found", "now", "divisor"]
theorem u_prime_parts_sc : FnScope u_prime_parts_N ["number"] (defScope u_prime_parts_st) := ⟨rfl, rfl, rfl, by decide +kernel, rfl, by decide +kernel, by decide +kernel⟩
def u_prime_parts_fs : List Str := "divisor_of" :: u_divisor_of_fs
def u_prime_parts_cc : Cc := ⟨u_prime_parts_N, defScope u_prime_parts_st, cons, u_prime_parts_fs, [], blts⟩
def u_prime_parts_code : List S :=
   [.set (.nm 1) (.ite (.cmp .gt (.var 0) (.cst (.int 1))) (.lst [(.var 0)]) (.lst [])),
    .set (.nm 2) (.lst []),
    .whl (.tru (.var 1)) [.popt (.nm 3) 1,
    .ite (.tru (.call 3 [(.var 3)])) [.app 2 (.var 3)] [.set (.nm 4) (.call 0 [(.var 3)]),
    .ext 1 (.lst [(.var 4), (.bin .fdiv (.var 3) (.var 4))])]],
    .ret (.blt .sorted [(.var 2)])]
theorem u_prime_parts_comp : compSs 100 u_prime_parts_cc (defBody u_prime_parts_st) = some u_prime_parts_code := by kernel_rfl
noncomputable def u_prime_parts_φs : List (List Ev.D → Option Ev.R) := u_divisor_of_φ :: u_divisor_of_φs
section
open Nx
noncomputable def x_prime_parts_K1 (v12 : List Ev.D) : Option (List Ev.D) := (bndO (sortK v12) fun x16 => (some x16))
noncomputable def x_prime_parts_B1 (ih1 : List Ev.D → List Ev.D → Option (List Ev.D)) (v6 : List Ev.D) (v7 : List Ev.D) : Option (List Ev.D) := (iteB (neB v6) (bndO (lasK v6) fun x21 => (frcLL (iniK v6) fun x22 => (dInt x21 none fun x25 => (bndO (x_prime x25) fun x27 => (iteB x27 (iteB (shB v7) (frcLL (appK v7 [x21]) fun x29 => (ih1 x22 x29)) none) (bndO (x_divisor_of x21) fun x32 => (iteB (nlK x32) (dInt x32 none fun x35 => (dInt x21 none fun x37 => (iteB (divQ x35) (iteB (shB (appK x22 [(.int x35), (.int (fdivZ x37 x35))])) (frcLL (appK x22 [(.int x35), (.int (fdivZ x37 x35))]) fun x40 => (ih1 x40 v7)) none) none))) none))))))) (x_prime_parts_K1 v7))
noncomputable def x_prime_parts_L1  (m : Nat) : List Ev.D → List Ev.D → Option (List Ev.D) := @Nat.rec (fun _ => List Ev.D → List Ev.D → Option (List Ev.D)) (fun _ _ => none) (fun _ ih => x_prime_parts_B1 ih) m
noncomputable def x_prime_parts (p0 : Int) : Option (List Ev.D) := (frcLL (iteB (ltZ (.ofNat 1) p0) [(.int p0)] []) fun x3 => (x_prime_parts_L1 1000 x3 []))
set_option maxHeartbeats 0 in
theorem x_prime_parts_ok {Φ : Nat → List Ev.D → Option Ev.R} {Ψ : Nat → List Ev.D → Tp → Option (Ev.R × Tp)} {τ : Tp} (e_0 : Φ 0 = u_divisor_of_φ) (e_3 : Φ 3 = u_prime_φ) (p0 : Int) : OkO Nx.rL (evSs Φ Ψ 1000 [.im (.int p0), .un, .un, .un, .un] τ u_prime_parts_code) retOf (x_prime_parts p0) := by
  unfold x_prime_parts u_prime_parts_code
  refine ok_frcL fun x3 h4 => ?_
  refine st_setL (ρ' := [.im (.int p0), .ow x3, .un, .un, .un]) (ev_to (congrArg PyData.list h4) (ev_ite (ev_gt (ev_var rfl) ev_cst) (fun t1 => (ev_lst (ds := [(.int p0)]) (ea_cons (ev_var rfl) ea_nil) rfl rfl)) (fun t2 => (ev_lst (ds := []) ea_nil rfl rfl)) it_L)) rfl ?_
  refine st_setL (ρ' := [.im (.int p0), .ow x3, .ow [], .un, .un]) (ev_lst (ds := []) ea_nil rfl rfl) rfl ?_
  refine st_whl (fun ρ n => ∃ (v12 : List Ev.D) (g10 : Sl) (g11 : Sl) (g13 : Sl) (g14 : Sl), ρ = [g10, g11, .ow v12, g13, g14] ∧ n = x_prime_parts_K1 v12) (fun m ρ n => ∃ (v6 : List Ev.D) (v7 : List Ev.D) (g5 : Sl) (g8 : Sl) (g9 : Sl), ρ = [g5, .ow v6, .ow v7, g8, g9] ∧ n = x_prime_parts_L1 m v6 v7) ?_ ⟨_, _, _, _, _, rfl, rfl⟩ ?_ ?_
  · rintro ρ n ⟨v12, g10, g11, g13, g14, rfl, rfl⟩
    unfold x_prime_parts_K1
    refine ok_bnd fun x16 h15 => ?_
    refine st_ret (ev_blt (ea_cons (ev_varL rfl) ea_nil) (bl_sort h15)) rfl ?_
    exact rt_end rfl
  · rintro ρ n ⟨v6, v7, g5, g8, g9, rfl, rfl⟩
    rfl
  · rintro hk17 m19 hi18 ρ n ⟨v6, v7, g5, g8, g9, rfl, rfl⟩
    show OkO _ _ _ (x_prime_parts_B1 (x_prime_parts_L1 m19) v6 v7)
    unfold x_prime_parts_B1
    refine wh_step (ev_tru (ev_varL rfl) tr_L) ?_ ?_
    · refine ok_bnd fun x21 h20 => ?_
      refine ok_frcL fun x22 h23 => ?_
      refine st_popt (ρ' := [g5, .ow x22, .ow v7, .im x21, g9]) rfl h20 (by rw [h23]; rfl) ?_
      refine ok_dInt fun x25 h24 => ?_
      refine ok_bnd fun x27 h26 => ?_
      refine st_ite (ev_tru (ev_call (r := Nx.rB x27) (ea_cons (ev_to h24 (ev_var rfl)) ea_nil) (call_eq (ds := [(.int x25)]) e_3 (x_prime_φe h26)) rfl) tr_B) ?_ ?_
      · refine ok_g fun h28 => ?_
        refine ok_frcL fun x29 h30 => ?_
        refine st_app (ρ' := [g5, .ow x22, .ow x29, .im x21, g9]) rfl (ev_var rfl) rfl h28 (by rw [h30]; rfl) ?_
        refine ok_nil ?_
        refine nx_sq ?_
        refine ok_nil ?_
        exact nx_lp (hi18 _ _ ⟨_, _, _, _, _, rfl, rfl⟩)
      · refine ok_bnd fun x32 h31 => ?_
        refine ok_g fun h33 => ?_
        refine ok_dInt fun x35 h34 => ?_
        refine st_set (ρ' := [g5, .ow x22, .ow v7, .im x21, .im (.int x35)]) (ev_to h34 (ev_call (r := Nx.rD x32) (ea_cons (ev_var rfl) ea_nil) (call_eq (ds := [x21]) e_0 (x_divisor_of_φe h31)) (cl_D h33))) rfl ?_
        refine ok_dInt fun x37 h36 => ?_
        refine ok_g fun h38 => ?_
        refine ok_g fun h39 => ?_
        refine ok_frcL fun x40 h41 => ?_
        refine st_ext (ρ' := [g5, .ow x40, .ow v7, .im x21, .im (.int x35)]) rfl (ev_lst (ds := [(.int x35), (.int (fdivZ x37 x35))]) (ea_cons (ev_var rfl) (ea_cons (ev_fdiv (divQ_eq h38) (ev_to h36 (ev_var rfl)) (ev_var rfl)) ea_nil)) rfl rfl) h39 (by rw [h41]; rfl) ?_
        refine ok_nil ?_
        refine nx_sq ?_
        refine ok_nil ?_
        exact nx_lp (hi18 _ _ ⟨_, _, _, _, _, rfl, rfl⟩)
    · exact hk17 _ _ ⟨_, _, _, _, _, rfl, rfl⟩
noncomputable def u_prime_parts_φ : List Ev.D → Option Ev.R := fun ds => match ds with
  | [.int p0] => (x_prime_parts p0).map Nx.rL
  | _ => none
theorem x_prime_parts_φe {p0 : Int} {v : List Ev.D} (h : x_prime_parts p0 = some v) : u_prime_parts_φ [.int p0] = some (Nx.rL v) := by
  show (x_prime_parts p0).map _ = _
  rw [h]; rfl
set_option maxHeartbeats 0 in
theorem x_prime_parts_own : ∀ ds r, u_prime_parts_φ ds = some r → ds.length = 1 ∧ ∃ M o, evSs (Φof u_prime_parts_φs) (Ψof []) M (start0 5 ds) τ0 u_prime_parts_code = some o ∧ retOf o = some r := by
  intro ds r h
  unfold u_prime_parts_φ at h
  split at h
  · exact ⟨rfl, own_of (x_prime_parts_ok rfl rfl _) h⟩
  · cases h
end
/-! powers_in -/
abbrev u_powers_in_st : Stmt := topS 19
abbrev u_powers_in_N : List Str := ["number", "rows", "divisor"]
theorem u_powers_in_sc : FnScope u_powers_in_N ["number"] (defScope u_powers_in_st) := ⟨rfl, rfl, rfl, by decide +kernel, rfl, by decide +kernel, by decide +kernel⟩
def u_powers_in_fs : List Str := "prime_parts" :: u_prime_parts_fs
def u_powers_in_cc : Cc := ⟨u_powers_in_N, defScope u_powers_in_st, cons, u_powers_in_fs, [], blts⟩
def u_powers_in_code : List S :=
   [.set (.nm 1) (.lst []),
    .for_ (.nm 2) 0 [(.call 0 [(.var 0)])] [.ite (.con (.tru (.var 1)) (.cmp .eq (.idx (.idx (.var 1) (.neg (.cst (.int 1)))) (.cst (.int 0))) (.var 2))) [.sti 1 (.neg (.cst (.int 1))) (.tup [(.var 2), (.bin .add (.idx (.idx (.var 1) (.neg (.cst (.int 1)))) (.cst (.int 1))) (.cst (.int 1)))])] [.app 1 (.tup [(.var 2), (.cst (.int 1))])]],
    .ret (.blt .tuple [(.var 1)])]
theorem u_powers_in_comp : compSs 100 u_powers_in_cc (defBody u_powers_in_st) = some u_powers_in_code := by kernel_rfl
noncomputable def u_powers_in_φs : List (List Ev.D → Option Ev.R) := u_prime_parts_φ :: u_prime_parts_φs
section
open Nx
noncomputable def x_powers_in_K1 (v8 : List Ev.D) : Option (List Ev.D) := (some v8)
noncomputable def x_powers_in_B1 (ih1 : List Ev.D → Option (List Ev.D)) (d13 : Ev.D) (v5 : List Ev.D) : Option (List Ev.D) := (iteB (iteB (neB v5) (andB (isSomeB (ixK v5 (negZ (.ofNat 1)))) (andB (isSomeB (ixD (getO PyData.none (ixK v5 (negZ (.ofNat 1)))) (.ofNat 0))) (andB (shK (getO PyData.none (ixD (getO PyData.none (ixK v5 (negZ (.ofNat 1)))) (.ofNat 0))) 8) (shK d13 8)))) true) (iteB (iteB (neB v5) (eqK (getO PyData.none (ixD (getO PyData.none (ixK v5 (negZ (.ofNat 1)))) (.ofNat 0))) d13) false) (bndO (ixK v5 (negZ (.ofNat 1))) fun x22 => (bndO (ixD x22 (.ofNat 1)) fun x24 => (dInt x24 none fun x26 => (frcLL [d13, (.int (addZ x26 (.ofNat 1)))] fun x27 => (bndO (sxK v5 (negZ (.ofNat 1)) (.tuple x27)) fun x30 => (ih1 x30)))))) (frcLL [d13, (.int (.ofNat 1))] fun x31 => (iteB (shB v5) (frcLL (appK v5 [(.tuple x31)]) fun x34 => (ih1 x34)) none))) none)
noncomputable def x_powers_in_L1  (l : List Ev.D) : List Ev.D → Option (List Ev.D) := @List.rec Ev.D (fun _ => List Ev.D → Option (List Ev.D)) (fun v5 => (x_powers_in_K1 v5)) (fun d _ ih => x_powers_in_B1 ih d) l
noncomputable def x_powers_in (p0 : Int) : Option (List Ev.D) := (bndO (x_prime_parts p0) fun x2 => (iteB (nlL x2) (x_powers_in_L1 x2 []) none))
set_option maxHeartbeats 0 in
theorem x_powers_in_ok {Φ : Nat → List Ev.D → Option Ev.R} {Ψ : Nat → List Ev.D → Tp → Option (Ev.R × Tp)} {τ : Tp} (e_0 : Φ 0 = u_prime_parts_φ) (p0 : Int) : OkO Nx.rT (evSs Φ Ψ 1000 [.im (.int p0), .un, .un] τ u_powers_in_code) retOf (x_powers_in p0) := by
  unfold x_powers_in u_powers_in_code
  refine st_setL (ρ' := [.im (.int p0), .ow [], .un]) (ev_lst (ds := []) ea_nil rfl rfl) rfl ?_
  refine ok_bnd fun x2 h1 => ?_
  refine ok_g fun h3 => ?_
  refine st_for (ea_cons (ev_call (r := Nx.rL x2) (ea_cons (ev_var rfl) ea_nil) (call_eq (ds := [(.int p0)]) e_0 (x_prime_parts_φe h1)) (cl_L h3)) ea_nil) rfl it_0L ?_
  refine fo_L (fun ρ n => ∃ (v8 : List Ev.D) (g7 : Sl) (g9 : Sl), ρ = [g7, .ow v8, g9] ∧ n = x_powers_in_K1 v8) (fun l ρ n => ∃ (v5 : List Ev.D) (g4 : Sl) (g6 : Sl), ρ = [g4, .ow v5, g6] ∧ n = x_powers_in_L1 l v5) ?_ ⟨_, _, _, rfl, rfl⟩ ?_ ?_
  · rintro ρ n ⟨v8, g7, g9, rfl, rfl⟩
    unfold x_powers_in_K1
    refine st_ret (ev_blt (ea_cons (ev_varL rfl) ea_nil) bl_tupL) rfl ?_
    exact rt_end rfl
  · rintro hk10 ρ n ⟨v5, g4, g6, rfl, rfl⟩
    exact hk10 _ _ ⟨_, _, _, rfl, rfl⟩
  · rintro hk10 d13 l14 hi11 ρ n ⟨v5, g4, g6, rfl, rfl⟩
    show OkO _ _ _ (x_powers_in_B1 (x_powers_in_L1 l14) d13 v5)
    unfold x_powers_in_B1
    refine fo_cons (ρ1 := [g4, .ow v5, .im d13]) rfl ?_
    refine ok_g fun h20 => ?_
    refine st_ite (ev_con (ev_tru (ev_varL rfl) tr_L) (fun t19 => (ev_cmp (x := (getO PyData.none (ixD (getO PyData.none (ixK v5 (negZ (.ofNat 1)))) (.ofNat 0)))) (y := d13) (ev_idx (ev_idx (ev_varL rfl) (ev_neg ev_cst) (ix_L (isSome_eq (z := PyData.none) (andB_l (selT h20 t19))))) ev_cst (ix_D (isSome_eq (z := PyData.none) (andB_l (andB_r (selT h20 t19)))))) (ev_var rfl) (cmpD_eq (andB_l (andB_r (andB_r (selT h20 t19)))) (andB_r (andB_r (andB_r (selT h20 t19)))))))) ?_ ?_
    · refine ok_bnd fun x22 h21 => ?_
      refine ok_bnd fun x24 h23 => ?_
      refine ok_dInt fun x26 h25 => ?_
      refine ok_frcL fun x27 h28 => ?_
      refine ok_bnd fun x30 h29 => ?_
      refine st_sti (ρ' := [g4, .ow x30, .im d13]) (ev_to (congrArg PyData.tuple h28) (ev_tup (ds := [d13, (.int (addZ x26 (.ofNat 1)))]) (ea_cons (ev_var rfl) (ea_cons (ev_add (ev_to h25 (ev_idx (ev_idx (ev_varL rfl) (ev_neg ev_cst) (ix_L h21)) ev_cst (ix_D h23))) ev_cst) ea_nil)) rfl rfl)) rfl rfl (ev_neg ev_cst) h29 rfl ?_
      refine ok_nil ?_
      refine nx_sq ?_
      refine ok_nil ?_
      exact nx_fp (hi11 _ _ ⟨_, _, _, rfl, rfl⟩)
    · refine ok_frcL fun x31 h32 => ?_
      refine ok_g fun h33 => ?_
      refine ok_frcL fun x34 h35 => ?_
      refine st_app (ρ' := [g4, .ow x34, .im d13]) rfl (ev_to (congrArg PyData.tuple h32) (ev_tup (ds := [d13, (.int (.ofNat 1))]) (ea_cons (ev_var rfl) (ea_cons ev_cst ea_nil)) rfl rfl)) rfl h33 (by rw [h35]; rfl) ?_
      refine ok_nil ?_
      refine nx_sq ?_
      refine ok_nil ?_
      exact nx_fp (hi11 _ _ ⟨_, _, _, rfl, rfl⟩)
noncomputable def u_powers_in_φ : List Ev.D → Option Ev.R := fun ds => match ds with
  | [.int p0] => (x_powers_in p0).map Nx.rT
  | _ => none
theorem x_powers_in_φe {p0 : Int} {v : List Ev.D} (h : x_powers_in p0 = some v) : u_powers_in_φ [.int p0] = some (Nx.rT v) := by
  show (x_powers_in p0).map _ = _
  rw [h]; rfl
set_option maxHeartbeats 0 in
theorem x_powers_in_own : ∀ ds r, u_powers_in_φ ds = some r → ds.length = 1 ∧ ∃ M o, evSs (Φof u_powers_in_φs) (Ψof []) M (start0 3 ds) τ0 u_powers_in_code = some o ∧ retOf o = some r := by
  intro ds r h
  unfold u_powers_in_φ at h
  split at h
  · exact ⟨rfl, own_of (x_powers_in_ok rfl _) h⟩
  · cases h
end
/-! factors -/
abbrev u_factors_st : Stmt := topS 20
abbrev u_factors_N : List Str := ["number"]
theorem u_factors_sc : FnScope u_factors_N ["number"] (defScope u_factors_st) := ⟨rfl, rfl, rfl, by decide +kernel, rfl, by decide +kernel, by decide +kernel⟩
def u_factors_fs : List Str := "powers_in" :: u_powers_in_fs
def u_factors_cc : Cc := ⟨u_factors_N, defScope u_factors_st, cons, u_factors_fs, [], blts⟩
def u_factors_code : List S :=
   [.exp (.call 7 [(.var 0)]),
    .ret (.call 0 [(.var 0)])]
theorem u_factors_comp : compSs 100 u_factors_cc (defBody u_factors_st) = some u_factors_code := by kernel_rfl
noncomputable def u_factors_φs : List (List Ev.D → Option Ev.R) := u_powers_in_φ :: u_powers_in_φs
section
open Nx
noncomputable def x_factors (p0 : Int) : Option (List Ev.D) := (bndO (x_check_number p0) fun x2 => (iteB (nlK x2) (bndO (x_powers_in p0) fun x5 => (iteB (nlL x5) (some x5) none)) none))
set_option maxHeartbeats 0 in
theorem x_factors_ok {Φ : Nat → List Ev.D → Option Ev.R} {Ψ : Nat → List Ev.D → Tp → Option (Ev.R × Tp)} {τ : Tp} (e_0 : Φ 0 = u_powers_in_φ) (e_7 : Φ 7 = u_check_number_φ) (p0 : Int) : OkO Nx.rT (evSs Φ Ψ 1000 [.im (.int p0)] τ u_factors_code) retOf (x_factors p0) := by
  unfold x_factors u_factors_code
  refine ok_bnd fun x2 h1 => ?_
  refine ok_g fun h3 => ?_
  refine st_exp (ev_call (r := Nx.rD x2) (ea_cons (ev_var rfl) ea_nil) (call_eq (ds := [(.int p0)]) e_7 (x_check_number_φe h1)) (cl_D h3)) ?_
  refine ok_bnd fun x5 h4 => ?_
  refine ok_g fun h6 => ?_
  refine st_ret (ev_call (r := Nx.rT x5) (ea_cons (ev_var rfl) ea_nil) (call_eq (ds := [(.int p0)]) e_0 (x_powers_in_φe h4)) (cl_T h6)) rfl ?_
  exact rt_end rfl
noncomputable def u_factors_φ : List Ev.D → Option Ev.R := fun ds => match ds with
  | [.int p0] => (x_factors p0).map Nx.rT
  | _ => none
theorem x_factors_φe {p0 : Int} {v : List Ev.D} (h : x_factors p0 = some v) : u_factors_φ [.int p0] = some (Nx.rT v) := by
  show (x_factors p0).map _ = _
  rw [h]; rfl
set_option maxHeartbeats 0 in
theorem x_factors_own : ∀ ds r, u_factors_φ ds = some r → ds.length = 1 ∧ ∃ M o, evSs (Φof u_factors_φs) (Ψof []) M (start0 1 ds) τ0 u_factors_code = some o ∧ retOf o = some r := by
  intro ds r h
  unfold u_factors_φ at h
  split at h
  · exact ⟨rfl, own_of (x_factors_ok rfl rfl _) h⟩
  · cases h
end
/-! divisors -/
abbrev u_divisors_st : Stmt := topS 21
abbrev u_divisors_N : List Str := ["number", "found", "one", "times", "longer", "k", "row"]
theorem u_divisors_sc : FnScope u_divisors_N ["number"] (defScope u_divisors_st) := ⟨rfl, rfl, rfl, by decide +kernel, rfl, by decide +kernel, by decide +kernel⟩
def u_divisors_fs : List Str := "factors" :: u_factors_fs
def u_divisors_cc : Cc := ⟨u_divisors_N, defScope u_divisors_st, cons, u_divisors_fs, [], blts⟩
def u_divisors_code : List S :=
   [.exp (.call 8 [(.var 0)]),
    .set (.nm 1) (.lst [(.cst (.int 1))]),
    .for_ (.tu [2, 3]) 0 [(.call 1 [(.var 0)])] [.set (.nm 4) (.lst []),
    .for_ (.nm 5) 1 [(.bin .add (.var 3) (.cst (.int 1)))] [.ext 4 (.comp (.bin .mul (.var 6) (.call 10 [(.var 2), (.var 5)])) (.nm 6) 0 [(.var 1)] [])],
    .mov 1 4],
    .ret (.blt .tuple [(.blt .sorted [(.var 1)])])]
theorem u_divisors_comp : compSs 100 u_divisors_cc (defBody u_divisors_st) = some u_divisors_code := by kernel_rfl
noncomputable def u_divisors_φs : List (List Ev.D → Option Ev.R) := u_factors_φ :: u_factors_φs
section
open Nx
noncomputable def x_divisors_K1 (v17 : List Ev.D) : Option (List Ev.D) := (bndO (sortK v17) fun x24 => (some x24))
noncomputable def x_divisors_K2 (ih1 : List Ev.D → Option (List Ev.D)) (v47 : List Ev.D) : Option (List Ev.D) := (ih1 v47)
noncomputable def x_divisors_B2 (ih1 : List Ev.D → Option (List Ev.D)) (v10 : List Ev.D) (x33 : Int) (ih2 : List Ev.D → Option (List Ev.D)) (i53 : Int) (v40 : List Ev.D) : Option (List Ev.D) := (frcI i53 fun x54 => (iteB (allQ (fun i56 => (andB (isSomeB (x_tower x33 x54)) (andB (isI i56) (mulQ (asI i56) (getO (Int.ofNat 0) (x_tower x33 x54)))))) v10) (iteB (shB v10) (iteB (shB (appK v40 (mapQ (fun i56 => (.int (mulZ (asI i56) (getO (Int.ofNat 0) (x_tower x33 x54))))) v10))) (frcLL (appK v40 (mapQ (fun i56 => (.int (mulZ (asI i56) (getO (Int.ofNat 0) (x_tower x33 x54))))) v10)) fun x65 => (ih2 x65)) none) none) none))
noncomputable def x_divisors_L2 (ih1 : List Ev.D → Option (List Ev.D)) (v10 : List Ev.D) (x33 : Int) (m : Nat) : Int → List Ev.D → Option (List Ev.D) := @Nat.rec (fun _ => Int → List Ev.D → Option (List Ev.D)) (fun _ v40 => (x_divisors_K2 ih1 v40)) (fun _ ih i => x_divisors_B2 ih1 v10 x33 (ih (addZ i (.ofNat 1))) i) m
noncomputable def x_divisors_B1 (ih1 : List Ev.D → Option (List Ev.D)) (d28 : Ev.D) (v10 : List Ev.D) : Option (List Ev.D) := (dT2 d28 none fun x30 x31 => (dInt x30 none fun x33 => (dInt x31 none fun x35 => (iteB (rfB (.ofNat 0) (addZ x35 (.ofNat 1))) (x_divisors_L2 ih1 v10 x33 (natZ (addZ x35 (.ofNat 1))) (.ofNat 0) []) none))))
noncomputable def x_divisors_L1  (l : List Ev.D) : List Ev.D → Option (List Ev.D) := @List.rec Ev.D (fun _ => List Ev.D → Option (List Ev.D)) (fun v10 => (x_divisors_K1 v10)) (fun d _ ih => x_divisors_B1 ih d) l
noncomputable def x_divisors (p0 : Int) : Option (List Ev.D) := (bndO (x_check_number p0) fun x2 => (iteB (nlK x2) (frcLL [(.int (.ofNat 1))] fun x4 => (bndO (x_powers_in p0) fun x7 => (iteB (nlL x7) (x_divisors_L1 x7 x4) none))) none))
set_option maxHeartbeats 0 in
theorem x_divisors_ok {Φ : Nat → List Ev.D → Option Ev.R} {Ψ : Nat → List Ev.D → Tp → Option (Ev.R × Tp)} {τ : Tp} (e_1 : Φ 1 = u_powers_in_φ) (e_8 : Φ 8 = u_check_number_φ) (e_10 : Φ 10 = u_tower_φ) (p0 : Int) : OkO Nx.rT (evSs Φ Ψ 1000 [.im (.int p0), .un, .un, .un, .un, .un, .un] τ u_divisors_code) retOf (x_divisors p0) := by
  unfold x_divisors u_divisors_code
  refine ok_bnd fun x2 h1 => ?_
  refine ok_g fun h3 => ?_
  refine st_exp (ev_call (r := Nx.rD x2) (ea_cons (ev_var rfl) ea_nil) (call_eq (ds := [(.int p0)]) e_8 (x_check_number_φe h1)) (cl_D h3)) ?_
  refine ok_frcL fun x4 h5 => ?_
  refine st_setL (ρ' := [.im (.int p0), .ow x4, .un, .un, .un, .un, .un]) (ev_to (congrArg PyData.list h5) (ev_lst (ds := [(.int (.ofNat 1))]) (ea_cons ev_cst ea_nil) rfl rfl)) rfl ?_
  refine ok_bnd fun x7 h6 => ?_
  refine ok_g fun h8 => ?_
  refine st_for (ea_cons (ev_call (r := Nx.rT x7) (ea_cons (ev_var rfl) ea_nil) (call_eq (ds := [(.int p0)]) e_1 (x_powers_in_φe h6)) (cl_T h8)) ea_nil) rfl it_0T ?_
  refine fo_L (fun ρ n => ∃ (v17 : List Ev.D) (g16 : Sl) (g18 : Sl) (g19 : Sl) (g20 : Sl) (g21 : Sl) (g22 : Sl), ρ = [g16, .ow v17, g18, g19, g20, g21, g22] ∧ n = x_divisors_K1 v17) (fun l ρ n => ∃ (v10 : List Ev.D) (g9 : Sl) (g11 : Sl) (g12 : Sl) (g13 : Sl) (g14 : Sl) (g15 : Sl), ρ = [g9, .ow v10, g11, g12, g13, g14, g15] ∧ n = x_divisors_L1 l v10) ?_ ⟨_, _, _, _, _, _, _, rfl, rfl⟩ ?_ ?_
  · rintro ρ n ⟨v17, g16, g18, g19, g20, g21, g22, rfl, rfl⟩
    unfold x_divisors_K1
    refine ok_bnd fun x24 h23 => ?_
    refine st_ret (ev_blt (ea_cons (ev_blt (ea_cons (ev_varL rfl) ea_nil) (bl_sort h23)) ea_nil) bl_tupL) rfl ?_
    exact rt_end rfl
  · rintro hk25 ρ n ⟨v10, g9, g11, g12, g13, g14, g15, rfl, rfl⟩
    exact hk25 _ _ ⟨_, _, _, _, _, _, _, rfl, rfl⟩
  · rintro hk25 d28 l29 hi26 ρ n ⟨v10, g9, g11, g12, g13, g14, g15, rfl, rfl⟩
    show OkO _ _ _ (x_divisors_B1 (x_divisors_L1 l29) d28 v10)
    unfold x_divisors_B1
    refine ok_dT2 fun x30 x31 h32 => ?_
    refine ok_dInt fun x33 h34 => ?_
    refine ok_dInt fun x35 h36 => ?_
    refine fo_cons (ρ1 := [g9, .ow v10, .im (.int x33), .im (.int x35), g13, g14, g15]) (by rw [h32, h34, h36]; rfl) ?_
    refine st_setL (ρ' := [g9, .ow v10, .im (.int x33), .im (.int x35), .ow [], g14, g15]) (ev_lst (ds := []) ea_nil rfl rfl) rfl ?_
    refine ok_g fun h37 => ?_
    refine st_for (ea_cons (ev_add (ev_var rfl) ev_cst) ea_nil) rfl (it_1 h37) ?_
    refine fo_R (fun ρ n => ∃ (v47 : List Ev.D) (g43 : Sl) (g44 : Sl) (g45 : Sl) (g46 : Sl) (g48 : Sl) (g49 : Sl), ρ = [g43, g44, g45, g46, .ow v47, g48, g49] ∧ n = x_divisors_K2 (x_divisors_L1 l29) v47) (fun m i ρ n => ∃ (v40 : List Ev.D) (g38 : Sl) (g39 : Sl) (g41 : Sl) (g42 : Sl), ρ = [g38, .ow v10, .im (.int x33), g39, .ow v40, g41, g42] ∧ n = x_divisors_L2 (x_divisors_L1 l29) v10 x33 m i v40) ?_ ⟨_, _, _, _, _, rfl, rfl⟩ ?_ ?_
    · rintro ρ n ⟨v47, g43, g44, g45, g46, g48, g49, rfl, rfl⟩
      unfold x_divisors_K2
      refine st_movL (ρ' := [g43, .ow v47, g45, g46, .un, g48, g49]) rfl rfl ?_
      refine ok_nil ?_
      exact nx_fp (hi26 _ _ ⟨_, _, _, _, _, _, _, rfl, rfl⟩)
    · rintro hk50 i ρ n ⟨v40, g38, g39, g41, g42, rfl, rfl⟩
      exact hk50 _ _ ⟨_, _, _, _, _, _, _, rfl, rfl⟩
    · rintro hk50 m52 i53 hi51 ρ n ⟨v40, g38, g39, g41, g42, rfl, rfl⟩
      show OkO _ _ _ (x_divisors_B2 (x_divisors_L1 l29) v10 x33 (x_divisors_L2 (x_divisors_L1 l29) v10 x33 m52 (addZ i53 (.ofNat 1))) i53 v40)
      unfold x_divisors_B2
      refine ok_frcI fun x54 h55 => ?_
      refine fo_cons (ρ1 := [g38, .ow v10, .im (.int x33), g39, .ow v40, .im (.int x54), g42]) (by rw [h55]; rfl) ?_
      refine ok_g fun h62 => ?_
      refine ok_g fun h63 => ?_
      refine ok_g fun h64 => ?_
      refine ok_frcL fun x65 h66 => ?_
      refine st_ext (ρ' := [g38, .ow v10, .im (.int x33), g39, .ow x65, .im (.int x54), g42]) rfl (ev_compQ0 (G := (fun i56 => (andB (isSomeB (x_tower x33 x54)) (andB (isI i56) (mulQ (asI i56) (getO (Int.ofNat 0) (x_tower x33 x54))))))) (T := (fun i56 => (.int (mulZ (asI i56) (getO (Int.ofNat 0) (x_tower x33 x54)))))) (ρ' := fun i56 => [g38, .ow v10, .im (.int x33), g39, .ow v40, .im (.int x54), .im i56]) (ea_cons (ev_varL rfl) ea_nil) it_0L h63 h62 rfl (fun i56 h60 => tg_1 rfl) (fun _ => rfl) (fun i56 h60 => (ev_mul (mulQ_eq (andB_r (andB_r h60))) (ev_to (isI_eq (andB_l (andB_r h60))) (ev_var rfl)) (ev_call (r := Nx.rI (getO (Int.ofNat 0) (x_tower x33 x54))) (ea_cons (ev_var rfl) (ea_cons (ev_var rfl) ea_nil)) (call_eq (ds := [(.int x33), (.int x54)]) e_10 (x_tower_φe (isSome_eq (z := (Int.ofNat 0)) (andB_l h60)))) rfl)))) h64 (by rw [h66]; rfl) ?_
      refine ok_nil ?_
      exact nx_fp (hi51 _ _ ⟨_, _, _, _, _, rfl, rfl⟩)
noncomputable def u_divisors_φ : List Ev.D → Option Ev.R := fun ds => match ds with
  | [.int p0] => (x_divisors p0).map Nx.rT
  | _ => none
theorem x_divisors_φe {p0 : Int} {v : List Ev.D} (h : x_divisors p0 = some v) : u_divisors_φ [.int p0] = some (Nx.rT v) := by
  show (x_divisors p0).map _ = _
  rw [h]; rfl
set_option maxHeartbeats 0 in
theorem x_divisors_own : ∀ ds r, u_divisors_φ ds = some r → ds.length = 1 ∧ ∃ M o, evSs (Φof u_divisors_φs) (Ψof []) M (start0 7 ds) τ0 u_divisors_code = some o ∧ retOf o = some r := by
  intro ds r h
  unfold u_divisors_φ at h
  split at h
  · exact ⟨rfl, own_of (x_divisors_ok rfl rfl rfl _) h⟩
  · cases h
end
/-! units -/
abbrev u_units_st : Stmt := topS 22
abbrev u_units_N : List Str := ["number", "found", "one", "_"]
theorem u_units_sc : FnScope u_units_N ["number"] (defScope u_units_st) := ⟨rfl, rfl, rfl, by decide +kernel, rfl, by decide +kernel, by decide +kernel⟩
def u_units_fs : List Str := "divisors" :: u_divisors_fs
def u_units_cc : Cc := ⟨u_units_N, defScope u_units_st, cons, u_units_fs, [], blts⟩
def u_units_code : List S :=
   [.exp (.call 9 [(.var 0)]),
    .mov 1 0,
    .for_ (.tu [2, 3]) 0 [(.call 2 [(.var 0)])] [.set (.nm 1) (.bin .mul (.bin .fdiv (.var 1) (.var 2)) (.bin .sub (.var 2) (.cst (.int 1))))],
    .retv 1]
theorem u_units_comp : compSs 100 u_units_cc (defBody u_units_st) = some u_units_code := by kernel_rfl
noncomputable def u_units_φs : List (List Ev.D → Option Ev.R) := u_divisors_φ :: u_divisors_φs
section
open Nx
noncomputable def x_units_K1 (v12 : Int) : Option (Int) := (some v12)
noncomputable def x_units_B1 (ih1 : Int → Option (Int)) (d18 : Ev.D) (v8 : Int) : Option (Int) := (dT2 d18 none fun x20 x21 => (dInt x20 none fun x23 => (iteB (divQ x23) (iteB (mulQ (fdivZ v8 x23) (subZ x23 (.ofNat 1))) (frcI (mulZ (fdivZ v8 x23) (subZ x23 (.ofNat 1))) fun x27 => (ih1 x27)) none) none)))
noncomputable def x_units_L1  (l : List Ev.D) : Int → Option (Int) := @List.rec Ev.D (fun _ => Int → Option (Int)) (fun v8 => (x_units_K1 v8)) (fun d _ ih => x_units_B1 ih d) l
noncomputable def x_units (p0 : Int) : Option (Int) := (bndO (x_check_number p0) fun x2 => (iteB (nlK x2) (bndO (x_powers_in p0) fun x5 => (iteB (nlL x5) (x_units_L1 x5 p0) none)) none))
set_option maxHeartbeats 0 in
theorem x_units_ok {Φ : Nat → List Ev.D → Option Ev.R} {Ψ : Nat → List Ev.D → Tp → Option (Ev.R × Tp)} {τ : Tp} (e_2 : Φ 2 = u_powers_in_φ) (e_9 : Φ 9 = u_check_number_φ) (p0 : Int) : OkO Nx.rI (evSs Φ Ψ 1000 [.im (.int p0), .un, .un, .un] τ u_units_code) retOf (x_units p0) := by
  unfold x_units u_units_code
  refine ok_bnd fun x2 h1 => ?_
  refine ok_g fun h3 => ?_
  refine st_exp (ev_call (r := Nx.rD x2) (ea_cons (ev_var rfl) ea_nil) (call_eq (ds := [(.int p0)]) e_9 (x_check_number_φe h1)) (cl_D h3)) ?_
  refine st_mov (ρ' := [.im (.int p0), .im (.int p0), .un, .un]) rfl rfl ?_
  refine ok_bnd fun x5 h4 => ?_
  refine ok_g fun h6 => ?_
  refine st_for (ea_cons (ev_call (r := Nx.rT x5) (ea_cons (ev_var rfl) ea_nil) (call_eq (ds := [(.int p0)]) e_2 (x_powers_in_φe h4)) (cl_T h6)) ea_nil) rfl it_0T ?_
  refine fo_L (fun ρ n => ∃ (v12 : Int) (g11 : Sl) (g13 : Sl) (g14 : Sl), ρ = [g11, .im (.int v12), g13, g14] ∧ n = x_units_K1 v12) (fun l ρ n => ∃ (v8 : Int) (g7 : Sl) (g9 : Sl) (g10 : Sl), ρ = [g7, .im (.int v8), g9, g10] ∧ n = x_units_L1 l v8) ?_ ⟨_, _, _, _, rfl, rfl⟩ ?_ ?_
  · rintro ρ n ⟨v12, g11, g13, g14, rfl, rfl⟩
    unfold x_units_K1
    refine st_retv rfl ?_
    exact rt_end rfl
  · rintro hk15 ρ n ⟨v8, g7, g9, g10, rfl, rfl⟩
    exact hk15 _ _ ⟨_, _, _, _, rfl, rfl⟩
  · rintro hk15 d18 l19 hi16 ρ n ⟨v8, g7, g9, g10, rfl, rfl⟩
    show OkO _ _ _ (x_units_B1 (x_units_L1 l19) d18 v8)
    unfold x_units_B1
    refine ok_dT2 fun x20 x21 h22 => ?_
    refine ok_dInt fun x23 h24 => ?_
    refine fo_cons (ρ1 := [g7, .im (.int v8), .im (.int x23), .im x21]) (by rw [h22, h24]; rfl) ?_
    refine ok_g fun h25 => ?_
    refine ok_g fun h26 => ?_
    refine ok_frcI fun x27 h28 => ?_
    refine st_set (ρ' := [g7, .im (.int x27), .im (.int x23), .im x21]) (ev_to (congrArg PyData.int h28) (ev_mul (mulQ_eq h26) (ev_fdiv (divQ_eq h25) (ev_var rfl) (ev_var rfl)) (ev_sub (ev_var rfl) ev_cst))) rfl ?_
    refine ok_nil ?_
    exact nx_fp (hi16 _ _ ⟨_, _, _, _, rfl, rfl⟩)
noncomputable def u_units_φ : List Ev.D → Option Ev.R := fun ds => match ds with
  | [.int p0] => (x_units p0).map Nx.rI
  | _ => none
theorem x_units_φe {p0 : Int} {v : Int} (h : x_units p0 = some v) : u_units_φ [.int p0] = some (Nx.rI v) := by
  show (x_units p0).map _ = _
  rw [h]; rfl
set_option maxHeartbeats 0 in
theorem x_units_own : ∀ ds r, u_units_φ ds = some r → ds.length = 1 ∧ ∃ M o, evSs (Φof u_units_φs) (Ψof []) M (start0 4 ds) τ0 u_units_code = some o ∧ retOf o = some r := by
  intro ds r h
  unfold u_units_φ at h
  split at h
  · exact ⟨rfl, own_of (x_units_ok rfl rfl _) h⟩
  · cases h
end
/-! sum_of_divisors -/
abbrev u_sum_of_divisors_st : Stmt := topS 23
abbrev u_sum_of_divisors_N : List Str := ["number", "times", "divisor"]
theorem u_sum_of_divisors_sc : FnScope u_sum_of_divisors_N ["number", "times"] (defScope u_sum_of_divisors_st) := ⟨rfl, rfl, rfl, by decide +kernel, rfl, by decide +kernel, by decide +kernel⟩
def u_sum_of_divisors_fs : List Str := "units" :: u_units_fs
def u_sum_of_divisors_cc : Cc := ⟨u_sum_of_divisors_N, defScope u_sum_of_divisors_st, cons, u_sum_of_divisors_fs, [], blts⟩
def u_sum_of_divisors_code : List S :=
   [.ite (.cmp .lt (.var 1) (.cst (.int 0))) [.nev] [],
    .ret (.blt .sum [(.comp (.call 12 [(.var 2), (.var 1)]) (.nm 2) 0 [(.call 1 [(.var 0)])] [])])]
theorem u_sum_of_divisors_comp : compSs 100 u_sum_of_divisors_cc (defBody u_sum_of_divisors_st) = some u_sum_of_divisors_code := by kernel_rfl
noncomputable def u_sum_of_divisors_φs : List (List Ev.D → Option Ev.R) := u_units_φ :: u_units_φs
section
open Nx
noncomputable def x_sum_of_divisors (p0 : Int) (p1 : Int) : Option (Int) := (iteB (ltZ p1 (.ofNat 0)) none (bndO (x_divisors p0) fun x2 => (iteB (nlL x2) (iteB (allQ (fun i4 => (andB (isI i4) (isSomeB (x_tower (asI i4) p1)))) x2) (iteB (shB x2) (iteB (intsB (mapQ (fun i4 => (.int (getO (Int.ofNat 0) (x_tower (asI i4) p1)))) x2)) (frcI (sumK (mapQ (fun i4 => (.int (getO (Int.ofNat 0) (x_tower (asI i4) p1)))) x2) (.ofNat 0)) fun x12 => (some x12)) none) none) none) none)))
set_option maxHeartbeats 0 in
theorem x_sum_of_divisors_ok {Φ : Nat → List Ev.D → Option Ev.R} {Ψ : Nat → List Ev.D → Tp → Option (Ev.R × Tp)} {τ : Tp} (e_1 : Φ 1 = u_divisors_φ) (e_12 : Φ 12 = u_tower_φ) (p0 : Int) (p1 : Int) : OkO Nx.rI (evSs Φ Ψ 1000 [.im (.int p0), .im (.int p1), .un] τ u_sum_of_divisors_code) retOf (x_sum_of_divisors p0 p1) := by
  unfold x_sum_of_divisors u_sum_of_divisors_code
  refine st_ite (ev_lt (ev_var rfl) ev_cst) ?_ ?_
  · exact ok_none
  · refine ok_nil ?_
    refine nx_sq ?_
    refine ok_bnd fun x2 h1 => ?_
    refine ok_g fun h3 => ?_
    refine ok_g fun h9 => ?_
    refine ok_g fun h10 => ?_
    refine ok_g fun h11 => ?_
    refine ok_frcI fun x12 h13 => ?_
    refine st_ret (ev_to (congrArg PyData.int h13) (ev_blt (ea_cons (ev_compQ0 (G := (fun i4 => (andB (isI i4) (isSomeB (x_tower (asI i4) p1))))) (T := (fun i4 => (.int (getO (Int.ofNat 0) (x_tower (asI i4) p1))))) (ρ' := fun i4 => [.im (.int p0), .im (.int p1), .im i4]) (ea_cons (ev_call (r := Nx.rT x2) (ea_cons (ev_var rfl) ea_nil) (call_eq (ds := [(.int p0)]) e_1 (x_divisors_φe h1)) (cl_T h3)) ea_nil) it_0T h10 h9 rfl (fun i4 h7 => tg_1 rfl) (fun _ => rfl) (fun i4 h7 => (ev_call (r := Nx.rI (getO (Int.ofNat 0) (x_tower (asI i4) p1))) (ea_cons (ev_to (isI_eq (andB_l h7)) (ev_var rfl)) (ea_cons (ev_var rfl) ea_nil)) (call_eq (ds := [(.int (asI i4)), (.int p1)]) e_12 (x_tower_φe (isSome_eq (z := (Int.ofNat 0)) (andB_r h7)))) rfl))) ea_nil) (bl_sum h11))) rfl ?_
    exact rt_end rfl
noncomputable def u_sum_of_divisors_φ : List Ev.D → Option Ev.R := fun ds => match ds with
  | [.int p0, .int p1] => (x_sum_of_divisors p0 p1).map Nx.rI
  | _ => none
theorem x_sum_of_divisors_φe {p0 : Int} {p1 : Int} {v : Int} (h : x_sum_of_divisors p0 p1 = some v) : u_sum_of_divisors_φ [.int p0, .int p1] = some (Nx.rI v) := by
  show (x_sum_of_divisors p0 p1).map _ = _
  rw [h]; rfl
set_option maxHeartbeats 0 in
theorem x_sum_of_divisors_own : ∀ ds r, u_sum_of_divisors_φ ds = some r → ds.length = 2 ∧ ∃ M o, evSs (Φof u_sum_of_divisors_φs) (Ψof []) M (start0 3 ds) τ0 u_sum_of_divisors_code = some o ∧ retOf o = some r := by
  intro ds r h
  unfold u_sum_of_divisors_φ at h
  split at h
  · exact ⟨rfl, own_of (x_sum_of_divisors_ok rfl rfl _ _) h⟩
  · cases h
end
/-! turn -/
abbrev u_turn_st : Stmt := topS 24
abbrev u_turn_N : List Str := ["number", "rows", "_", "times"]
theorem u_turn_sc : FnScope u_turn_N ["number"] (defScope u_turn_st) := ⟨rfl, rfl, rfl, by decide +kernel, rfl, by decide +kernel, by decide +kernel⟩
def u_turn_fs : List Str := "sum_of_divisors" :: u_sum_of_divisors_fs
def u_turn_cc : Cc := ⟨u_turn_N, defScope u_turn_st, cons, u_turn_fs, [], blts⟩
def u_turn_code : List S :=
   [.exp (.call 11 [(.var 0)]),
    .set (.nm 1) (.call 4 [(.var 0)]),
    .ite (.tru (.blt .any [(.comp (.cmp .gt (.var 3) (.cst (.int 1))) (.tu [2, 3]) 0 [(.var 1)] [])])) [.ret (.cst (.int 0))] [],
    .ret (.ite (.cmp .eq (.bin .mod (.blt .len [(.var 1)]) (.cst (.int 2))) (.cst (.int 0))) (.cst (.int 1)) (.neg (.cst (.int 1))))]
theorem u_turn_comp : compSs 100 u_turn_cc (defBody u_turn_st) = some u_turn_code := by kernel_rfl
noncomputable def u_turn_φs : List (List Ev.D → Option Ev.R) := u_sum_of_divisors_φ :: u_sum_of_divisors_φs
section
open Nx
noncomputable def x_turn (p0 : Int) : Option (Int) := (bndO (x_check_number p0) fun x2 => (iteB (nlK x2) (bndO (x_powers_in p0) fun x5 => (iteB (nlL x5) (iteB (allQ (fun i7 => (andB (is2 i7) (isI (x21 i7)))) x5) (iteB (shB x5) (iteB (boosB (mapQ (fun i7 => (.bool (ltZ (.ofNat 1) (asI (x21 i7))))) x5)) (iteB (anyK (mapQ (fun i7 => (.bool (ltZ (.ofNat 1) (asI (x21 i7))))) x5)) (some (.ofNat 0)) (frcI (iteB (eqZ (fmodZ (lenZ x5) (.ofNat 2)) (.ofNat 0)) (.ofNat 1) (negZ (.ofNat 1))) fun x17 => (some x17))) none) none) none) none)) none))
set_option maxHeartbeats 0 in
theorem x_turn_ok {Φ : Nat → List Ev.D → Option Ev.R} {Ψ : Nat → List Ev.D → Tp → Option (Ev.R × Tp)} {τ : Tp} (e_4 : Φ 4 = u_powers_in_φ) (e_11 : Φ 11 = u_check_number_φ) (p0 : Int) : OkO Nx.rI (evSs Φ Ψ 1000 [.im (.int p0), .un, .un, .un] τ u_turn_code) retOf (x_turn p0) := by
  unfold x_turn u_turn_code
  refine ok_bnd fun x2 h1 => ?_
  refine ok_g fun h3 => ?_
  refine st_exp (ev_call (r := Nx.rD x2) (ea_cons (ev_var rfl) ea_nil) (call_eq (ds := [(.int p0)]) e_11 (x_check_number_φe h1)) (cl_D h3)) ?_
  refine ok_bnd fun x5 h4 => ?_
  refine ok_g fun h6 => ?_
  refine st_set (ρ' := [.im (.int p0), .im (.tuple x5), .un, .un]) (ev_call (r := Nx.rT x5) (ea_cons (ev_var rfl) ea_nil) (call_eq (ds := [(.int p0)]) e_4 (x_powers_in_φe h4)) (cl_T h6)) rfl ?_
  refine ok_g fun h12 => ?_
  refine ok_g fun h13 => ?_
  refine ok_g fun h14 => ?_
  refine st_ite (ev_tru (ev_blt (ea_cons (ev_compQ0 (G := (fun i7 => (andB (is2 i7) (isI (x21 i7))))) (T := (fun i7 => (.bool (ltZ (.ofNat 1) (asI (x21 i7)))))) (ρ' := fun i7 => [.im (.int p0), .im (.tuple x5), .im (x20 i7), .im (x21 i7)]) (ea_cons (ev_var rfl) ea_nil) it_0T h13 h12 rfl (fun i7 h10 => tg_2 (andB_l h10) rfl) (fun _ => rfl) (fun i7 h10 => (ev_gt (ev_to (isI_eq (andB_r h10)) (ev_var rfl)) ev_cst))) ea_nil) (bl_any h14)) tr_B) ?_ ?_
  · refine st_ret ev_cst rfl ?_
    refine rt_sq ?_
    exact rt_end rfl
  · refine ok_nil ?_
    refine nx_sq ?_
    refine ok_frcI fun x17 h18 => ?_
    refine st_ret (ev_to (congrArg PyData.int h18) (ev_ite (ev_eq (ev_mod rfl (ev_blt (ea_cons (ev_var rfl) ea_nil) bl_lenT) ev_cst) ev_cst) (fun t15 => ev_cst) (fun t16 => (ev_neg ev_cst)) it_I)) rfl ?_
    exact rt_end rfl
noncomputable def u_turn_φ : List Ev.D → Option Ev.R := fun ds => match ds with
  | [.int p0] => (x_turn p0).map Nx.rI
  | _ => none
theorem x_turn_φe {p0 : Int} {v : Int} (h : x_turn p0 = some v) : u_turn_φ [.int p0] = some (Nx.rI v) := by
  show (x_turn p0).map _ = _
  rw [h]; rfl
set_option maxHeartbeats 0 in
theorem x_turn_own : ∀ ds r, u_turn_φ ds = some r → ds.length = 1 ∧ ∃ M o, evSs (Φof u_turn_φs) (Ψof []) M (start0 4 ds) τ0 u_turn_code = some o ∧ retOf o = some r := by
  intro ds r h
  unfold u_turn_φ at h
  split at h
  · exact ⟨rfl, own_of (x_turn_ok rfl rfl _) h⟩
  · cases h
end
/-! sieve -/
abbrev u_sieve_st : Stmt := topS 25
abbrev u_sieve_N : List Str := ["most", "gone", "found", "number", "other"]
theorem u_sieve_sc : FnScope u_sieve_N ["most"] (defScope u_sieve_st) := ⟨rfl, rfl, rfl, by decide +kernel, rfl, by decide +kernel, by decide +kernel⟩
def u_sieve_fs : List Str := "turn" :: u_turn_fs
def u_sieve_cc : Cc := ⟨u_sieve_N, defScope u_sieve_st, cons, u_sieve_fs, [], blts⟩
def u_sieve_code : List S :=
   [.ite (.inv (.chn .le .le (.cst (.int 0)) (.var 0) (.cst (.int 100000)))) [.nev] [],
    .set (.nm 1) (.bin .mul (.lst [(.cst (.bool false))]) (.bin .add (.var 0) (.cst (.int 1)))),
    .set (.nm 2) (.lst []),
    .for_ (.nm 3) 2 [(.cst (.int 2)), (.bin .add (.var 0) (.cst (.int 1)))] [.ite (.inv (.tru (.idx (.var 1) (.var 3)))) [.app 2 (.var 3),
    .for_ (.nm 4) 4 [(.bin .mul (.var 3) (.var 3)), (.bin .add (.var 0) (.cst (.int 1))), (.var 3)] [.sti 1 (.var 4) (.cst (.bool true))]] []],
    .ret (.blt .tuple [(.var 2)])]
theorem u_sieve_comp : compSs 100 u_sieve_cc (defBody u_sieve_st) = some u_sieve_code := by kernel_rfl
noncomputable def u_sieve_φs : List (List Ev.D → Option Ev.R) := u_turn_φ :: u_turn_φs
section
open Nx
noncomputable def x_sieve_K1 (v12 : List Ev.D) : Option (List Ev.D) := (some v12)
noncomputable def x_sieve_K2 (ih1 : List Ev.D → List Ev.D → Option (List Ev.D)) (p0 : Int) (x25 : List Ev.D) (v32 : List Ev.D) : Option (List Ev.D) := (ih1 v32 x25)
noncomputable def x_sieve_B2 (ih1 : List Ev.D → List Ev.D → Option (List Ev.D)) (p0 : Int) (x25 : List Ev.D) (ih2 : List Ev.D → Option (List Ev.D)) (i38 : Int) (v29 : List Ev.D) : Option (List Ev.D) := (frcI i38 fun x39 => (bndO (sxK v29 x39 (.bool true)) fun x42 => (ih2 x42)))
noncomputable def x_sieve_L2 (ih1 : List Ev.D → List Ev.D → Option (List Ev.D)) (p0 : Int) (x25 : List Ev.D) (c : Int) (m : Nat) : Int → List Ev.D → Option (List Ev.D) := @Nat.rec (fun _ => Int → List Ev.D → Option (List Ev.D)) (fun _ v29 => (x_sieve_K2 ih1 p0 x25 v29)) (fun _ ih i => x_sieve_B2 ih1 p0 x25 (ih (addZ i c)) i) m
noncomputable def x_sieve_B1 (p0 : Int) (ih1 : List Ev.D → List Ev.D → Option (List Ev.D)) (i18 : Int) (v6 : List Ev.D) (v7 : List Ev.D) : Option (List Ev.D) := (frcI i18 fun x19 => (bndO (ixK v6 x19) fun x22 => (iteB (truOk x22) (iteB (notB (truK x22)) (iteB (shB v7) (frcLL (appK v7 [(.int x19)]) fun x25 => (iteB (mulQ x19 x19) (iteB (andB (rfB (mulZ x19 x19) (addZ p0 (.ofNat 1))) (stpB x19)) (x_sieve_L2 ih1 p0 x25 x19 (cntS (mulZ x19 x19) (addZ p0 (.ofNat 1)) x19) (mulZ x19 x19) v6) none) none)) none) (ih1 v6 v7)) none)))
noncomputable def x_sieve_L1 (p0 : Int) (m : Nat) : Int → List Ev.D → List Ev.D → Option (List Ev.D) := @Nat.rec (fun _ => Int → List Ev.D → List Ev.D → Option (List Ev.D)) (fun _ v6 v7 => (x_sieve_K1 v7)) (fun _ ih i => x_sieve_B1 p0 (ih (addZ i (.ofNat 1))) i) m
noncomputable def x_sieve (p0 : Int) : Option (List Ev.D) := (iteB (notB (iteB (leZ (.ofNat 0) p0) (leZ p0 (.ofNat 100000)) false)) none (iteB (repB [(.bool false)] (addZ p0 (.ofNat 1))) (frcLL (repK [(.bool false)] (natZ (addZ p0 (.ofNat 1)))) fun x3 => (iteB (rfB (.ofNat 2) (addZ p0 (.ofNat 1))) (x_sieve_L1 p0 (natZ (subZ (addZ p0 (.ofNat 1)) (.ofNat 2))) (.ofNat 2) x3 []) none)) none))
set_option maxHeartbeats 0 in
theorem x_sieve_ok {Φ : Nat → List Ev.D → Option Ev.R} {Ψ : Nat → List Ev.D → Tp → Option (Ev.R × Tp)} {τ : Tp}  (p0 : Int) : OkO Nx.rT (evSs Φ Ψ 1000 [.im (.int p0), .un, .un, .un, .un] τ u_sieve_code) retOf (x_sieve p0) := by
  unfold x_sieve u_sieve_code
  refine st_ite (ev_inv (ev_chn ev_cst (ev_var rfl) cm_le (fun t1 => ev_cst) (fun _ => cm_le))) ?_ ?_
  · exact ok_none
  · refine ok_nil ?_
    refine nx_sq ?_
    refine ok_g fun h2 => ?_
    refine ok_frcL fun x3 h4 => ?_
    refine st_setL (ρ' := [.im (.int p0), .ow x3, .un, .un, .un]) (ev_to (congrArg PyData.list h4) (ev_bin (ev_lst (ds := [(.bool false)]) (ea_cons ev_cst ea_nil) rfl rfl) (ev_add (ev_var rfl) ev_cst) (bi_repL h2))) rfl ?_
    refine st_setL (ρ' := [.im (.int p0), .ow x3, .ow [], .un, .un]) (ev_lst (ds := []) ea_nil rfl rfl) rfl ?_
    refine ok_g fun h5 => ?_
    refine st_for (ea_cons ev_cst (ea_cons (ev_add (ev_var rfl) ev_cst) ea_nil)) rfl (it_2 h5) ?_
    refine fo_R (fun ρ n => ∃ (v12 : List Ev.D) (g10 : Sl) (g11 : Sl) (g13 : Sl) (g14 : Sl), ρ = [g10, g11, .ow v12, g13, g14] ∧ n = x_sieve_K1 v12) (fun m i ρ n => ∃ (v6 : List Ev.D) (v7 : List Ev.D) (g8 : Sl) (g9 : Sl), ρ = [.im (.int p0), .ow v6, .ow v7, g8, g9] ∧ n = x_sieve_L1 p0 m i v6 v7) ?_ ⟨_, _, _, _, rfl, rfl⟩ ?_ ?_
    · rintro ρ n ⟨v12, g10, g11, g13, g14, rfl, rfl⟩
      unfold x_sieve_K1
      refine st_ret (ev_blt (ea_cons (ev_varL rfl) ea_nil) bl_tupL) rfl ?_
      exact rt_end rfl
    · rintro hk15 i ρ n ⟨v6, v7, g8, g9, rfl, rfl⟩
      exact hk15 _ _ ⟨_, _, _, _, _, rfl, rfl⟩
    · rintro hk15 m17 i18 hi16 ρ n ⟨v6, v7, g8, g9, rfl, rfl⟩
      show OkO _ _ _ (x_sieve_B1 p0 (x_sieve_L1 p0 m17 (addZ i18 (.ofNat 1))) i18 v6 v7)
      unfold x_sieve_B1
      refine ok_frcI fun x19 h20 => ?_
      refine fo_cons (ρ1 := [.im (.int p0), .ow v6, .ow v7, .im (.int x19), g9]) (by rw [h20]; rfl) ?_
      refine ok_bnd fun x22 h21 => ?_
      refine ok_g fun h23 => ?_
      refine st_ite (ev_inv (ev_tru (ev_idx (ev_varL rfl) (ev_var rfl) (ix_L h21)) (tr_D h23))) ?_ ?_
      · refine ok_g fun h24 => ?_
        refine ok_frcL fun x25 h26 => ?_
        refine st_app (ρ' := [.im (.int p0), .ow v6, .ow x25, .im (.int x19), g9]) rfl (ev_var rfl) rfl h24 (by rw [h26]; rfl) ?_
        refine ok_g fun h27 => ?_
        refine ok_g fun h28 => ?_
        refine st_for (ea_cons (ev_mul (mulQ_eq h27) (ev_var rfl) (ev_var rfl)) (ea_cons (ev_add (ev_var rfl) ev_cst) (ea_cons (ev_var rfl) ea_nil))) rfl (it_5 h28) ?_
        refine fo_S x19 (fun ρ n => ∃ (v32 : List Ev.D) (g33 : Sl) (g34 : Sl), ρ = [.im (.int p0), .ow v32, .ow x25, g33, g34] ∧ n = x_sieve_K2 (x_sieve_L1 p0 m17 (addZ i18 (.ofNat 1))) p0 x25 v32) (fun m i ρ n => ∃ (v29 : List Ev.D) (g30 : Sl) (g31 : Sl), ρ = [.im (.int p0), .ow v29, .ow x25, g30, g31] ∧ n = x_sieve_L2 (x_sieve_L1 p0 m17 (addZ i18 (.ofNat 1))) p0 x25 x19 m i v29) ?_ ⟨_, _, _, rfl, rfl⟩ ?_ ?_
        · rintro ρ n ⟨v32, g33, g34, rfl, rfl⟩
          unfold x_sieve_K2
          refine ok_nil ?_
          refine nx_sq ?_
          refine ok_nil ?_
          exact nx_fp (hi16 _ _ ⟨_, _, _, _, rfl, rfl⟩)
        · rintro hk35 i ρ n ⟨v29, g30, g31, rfl, rfl⟩
          exact hk35 _ _ ⟨_, _, _, rfl, rfl⟩
        · rintro hk35 m37 i38 hi36 ρ n ⟨v29, g30, g31, rfl, rfl⟩
          show OkO _ _ _ (x_sieve_B2 (x_sieve_L1 p0 m17 (addZ i18 (.ofNat 1))) p0 x25 (x_sieve_L2 (x_sieve_L1 p0 m17 (addZ i18 (.ofNat 1))) p0 x25 x19 m37 (addZ i38 x19)) i38 v29)
          unfold x_sieve_B2
          refine ok_frcI fun x39 h40 => ?_
          refine fo_cons (ρ1 := [.im (.int p0), .ow v29, .ow x25, g30, .im (.int x39)]) (by rw [h40]; rfl) ?_
          refine ok_bnd fun x42 h41 => ?_
          refine st_sti (ρ' := [.im (.int p0), .ow x42, .ow x25, g30, .im (.int x39)]) ev_cst rfl rfl (ev_var rfl) h41 rfl ?_
          refine ok_nil ?_
          exact nx_fp (hi36 _ _ ⟨_, _, _, rfl, rfl⟩)
      · refine ok_nil ?_
        refine nx_sq ?_
        refine ok_nil ?_
        exact nx_fp (hi16 _ _ ⟨_, _, _, _, rfl, rfl⟩)
noncomputable def u_sieve_φ : List Ev.D → Option Ev.R := fun ds => match ds with
  | [.int p0] => (x_sieve p0).map Nx.rT
  | _ => none
theorem x_sieve_φe {p0 : Int} {v : List Ev.D} (h : x_sieve p0 = some v) : u_sieve_φ [.int p0] = some (Nx.rT v) := by
  show (x_sieve p0).map _ = _
  rw [h]; rfl
set_option maxHeartbeats 0 in
theorem x_sieve_own : ∀ ds r, u_sieve_φ ds = some r → ds.length = 1 ∧ ∃ M o, evSs (Φof u_sieve_φs) (Ψof []) M (start0 5 ds) τ0 u_sieve_code = some o ∧ retOf o = some r := by
  intro ds r h
  unfold u_sieve_φ at h
  split at h
  · exact ⟨rfl, own_of (x_sieve_ok  _) h⟩
  · cases h
end
/-! law -/
abbrev u_law_st : Stmt := topS 29
abbrev u_law_N : List Str := ["script", "d", "n", "m", "every", "both", "least", "count", "p", "times", "squares", "bits", "most", "total", "one"]
theorem u_law_sc : FnScope u_law_N ["script"] (defScope u_law_st) := ⟨rfl, rfl, rfl, by decide +kernel, rfl, by decide +kernel, by decide +kernel⟩
def u_law_fs : List Str := "sieve" :: u_sieve_fs
def u_law_cc : Cc := ⟨u_law_N, defScope u_law_st, cons, u_law_fs, ["_law_take"], blts⟩
def u_law_code : List S :=
   [.set (.nm 2) (.bin .add (.cst (.int 1)) (.bin .mul (.callT 0 1 [(.cst (.int 900))]) (.bin .add (.cst (.int 1)) (.callT 0 1 [(.cst (.int 4))])))),
    .set (.nm 3) (.bin .add (.cst (.int 1)) (.callT 0 1 [(.cst (.int 300))])),
    .set (.nm 4) (.call 4 [(.var 2)]),
    .ite (.dis (.cmp .ne (.blt .sum [(.comp (.call 3 [(.var 14)]) (.nm 14) 0 [(.var 4)] [])]) (.var 2)) (.cmp .ne (.blt .sum [(.comp (.call 1 [(.var 14)]) (.nm 14) 0 [(.var 4)] [])]) (.blt .int [(.cmp .eq (.var 2) (.cst (.int 1)))]))) [.ret (.cst (.bool false))] [],
    .ite (.dis (.cmp .ne (.blt .sum [(.comp (.bin .mul (.call 1 [(.var 14)]) (.bin .fdiv (.var 2) (.var 14))) (.nm 14) 0 [(.var 4)] [])]) (.call 3 [(.var 2)])) (.cmp .ne (.blt .sum [(.comp (.bin .mul (.call 1 [(.bin .fdiv (.var 2) (.var 14))]) (.call 2 [(.var 14), (.cst (.int 1))])) (.nm 14) 0 [(.var 4)] [])]) (.var 2))) [.ret (.cst (.bool false))] [],
    .ite (.dis (.cmp .ne (.blt .sum [(.comp (.bin .mul (.call 1 [(.var 14)]) (.call 2 [(.bin .fdiv (.var 2) (.var 14)), (.cst (.int 0))])) (.nm 14) 0 [(.var 4)] [])]) (.cst (.int 1))) (.cmp .ne (.blt .sum [(.comp (.bin .mul (.call 2 [(.var 14), (.cst (.int 0))]) (.call 3 [(.bin .fdiv (.var 2) (.var 14))])) (.nm 14) 0 [(.var 4)] [])]) (.call 2 [(.var 2), (.cst (.int 1))]))) [.ret (.cst (.bool false))] [],
    .set (.nm 5) (.call 18 [(.tup [(.var 2), (.var 3)])]),
    .set (.nm 6) (.call 17 [(.tup [(.var 2), (.var 3)])]),
    .ite (.cmp .ne (.bin .mul (.var 5) (.var 6)) (.bin .mul (.var 2) (.var 3))) [.ret (.cst (.bool false))] [],
    .ite (.cmp .eq (.var 5) (.cst (.int 1))) [.ite (.dis (.cmp .ne (.call 3 [(.bin .mul (.var 2) (.var 3))]) (.bin .mul (.call 3 [(.var 2)]) (.call 3 [(.var 3)]))) (.dis (.cmp .ne (.call 1 [(.bin .mul (.var 2) (.var 3))]) (.bin .mul (.call 1 [(.var 2)]) (.call 1 [(.var 3)]))) (.cmp .ne (.call 2 [(.bin .mul (.var 2) (.var 3)), (.cst (.int 2))]) (.bin .mul (.call 2 [(.var 2), (.cst (.int 2))]) (.call 2 [(.var 3), (.cst (.int 2))]))))) [.ret (.cst (.bool false))] []] [],
    .ite (.dis (.cmp .ne (.bin .mul (.bin .mul (.call 3 [(.var 2)]) (.call 3 [(.var 3)])) (.var 5)) (.bin .mul (.call 3 [(.bin .mul (.var 2) (.var 3))]) (.call 3 [(.var 5)]))) (.cmp .ne (.bin .mul (.call 3 [(.var 6)]) (.call 3 [(.var 5)])) (.bin .mul (.call 3 [(.var 2)]) (.call 3 [(.var 3)])))) [.ret (.cst (.bool false))] [],
    .set (.nm 7) (.cst (.int 1)),
    .for_ (.tu [8, 9]) 0 [(.call 5 [(.var 2)])] [.set (.nm 7) (.bin .mul (.var 7) (.bin .add (.var 9) (.cst (.int 1)))),
    .ite (.dis (.cmp .ne (.idx (.call 14 [(.var 2), (.var 8)]) (.cst (.int 0))) (.var 9)) (.notB (.call 10 [(.var 8)]) (.cst (.bool true)))) [.ret (.cst (.bool false))] []],
    .ite (.dis (.cmp .ne (.blt .len [(.var 4)]) (.var 7)) (.dis (.cmp .ne (.call 2 [(.var 2), (.cst (.int 0))]) (.var 7)) (.cmp .ne (.comp (.bin .fdiv (.var 2) (.var 14)) (.nm 14) 0 [(.var 4)] []) (.rev (.blt .list [(.var 4)]))))) [.ret (.cst (.bool false))] [],
    .set (.nm 10) (.comp (.var 14) (.nm 14) 0 [(.var 4)] [(.cmp .ne (.call 1 [(.var 14)]) (.cst (.int 0)))]),
    .set (.nm 11) (.cst (.int 1)),
    .for_ (.tu [8, 9]) 0 [(.call 5 [(.var 2)])] [.set (.nm 11) (.bin .mul (.cst (.int 2)) (.var 11))],
    .ite (.dis (.cmp .ne (.blt .len [(.var 10)]) (.var 11)) (.cmp .ne (.blt .sum [(.comp (.bin .mul (.call 1 [(.var 14)]) (.call 1 [(.var 14)])) (.nm 14) 0 [(.var 4)] [])]) (.var 11))) [.ret (.cst (.bool false))] [],
    .set (.nm 12) (.bin .add (.cst (.int 2)) (.callT 0 1 [(.cst (.int 200))])),
    .set (.nm 13) (.cst (.int 0)),
    .for_ (.nm 14) 2 [(.cst (.int 1)), (.bin .add (.var 12) (.cst (.int 1)))] [.set (.nm 13) (.bin .add (.var 13) (.bin .mul (.call 1 [(.var 14)]) (.bin .fdiv (.var 12) (.var 14))))],
    .ret (.con (.cmp .eq (.var 13) (.cst (.int 1))) (.cmp .eq (.blt .len [(.call 0 [(.var 12)])]) (.blt .len [(.comp (.var 14) (.nm 14) 2 [(.cst (.int 2)), (.bin .add (.var 12) (.cst (.int 1)))] [(.cmp .eq (.blt .len [(.call 4 [(.var 14)])]) (.cst (.int 2)))])])))]
theorem u_law_comp : compSs 100 u_law_cc ((defBody u_law_st).drop 1) = some u_law_code := by kernel_rfl
noncomputable def u_law_φs : List (List Ev.D → Option Ev.R) := u_sieve_φ :: u_sieve_φs
open Nx
noncomputable def x_sgA (p2 : Int) (p3 : Ev.D) : Option (List Ev.D) := (bndO (x_divisors p2) fun x2 => (iteB (nlL x2) (iteB (allQ (fun i4 => (andB (isI i4) (isSomeB (x_units (asI i4))))) x2) (iteB (shB x2) (iteB (intsB (mapQ (fun i4 => (.int (getO (Int.ofNat 0) (x_units (asI i4))))) x2)) (iteB (iteB (notB (eqZ (sumK (mapQ (fun i4 => (.int (getO (Int.ofNat 0) (x_units (asI i4))))) x2) (.ofNat 0)) p2)) true (andB (allQ (fun i12 => (andB (isI i12) (isSomeB (x_turn (asI i12))))) x2) (andB (shB x2) (intsB (mapQ (fun i12 => (.int (getO (Int.ofNat 0) (x_turn (asI i12))))) x2))))) (iteB (iteB (notB (eqZ (sumK (mapQ (fun i4 => (.int (getO (Int.ofNat 0) (x_units (asI i4))))) x2) (.ofNat 0)) p2)) true (notB (eqZ (sumK (mapQ (fun i12 => (.int (getO (Int.ofNat 0) (x_turn (asI i12))))) x2) (.ofNat 0)) (iteB (eqZ p2 (.ofNat 1)) (.ofNat 1) (.ofNat 0))))) none (iteB (allQ (fun i22 => (andB (isI i22) (andB (isSomeB (x_turn (asI i22))) (andB (isI i22) (andB (divQ (asI i22)) (mulQ (getO (Int.ofNat 0) (x_turn (asI i22))) (fdivZ p2 (asI i22)))))))) x2) (iteB (shB x2) (iteB (intsB (mapQ (fun i22 => (.int (mulZ (getO (Int.ofNat 0) (x_turn (asI i22))) (fdivZ p2 (asI i22))))) x2)) (bndO (x_units p2) fun x34 => (iteB (iteB (notB (eqZ (sumK (mapQ (fun i22 => (.int (mulZ (getO (Int.ofNat 0) (x_turn (asI i22))) (fdivZ p2 (asI i22))))) x2) (.ofNat 0)) x34)) true (andB (allQ (fun i35 => (andB (isI i35) (andB (divQ (asI i35)) (andB (isSomeB (x_turn (fdivZ p2 (asI i35)))) (andB (isI i35) (andB (isSomeB (x_sum_of_divisors (asI i35) (.ofNat 1))) (mulQ (getO (Int.ofNat 0) (x_turn (fdivZ p2 (asI i35)))) (getO (Int.ofNat 0) (x_sum_of_divisors (asI i35) (.ofNat 1)))))))))) x2) (andB (shB x2) (intsB (mapQ (fun i35 => (.int (mulZ (getO (Int.ofNat 0) (x_turn (fdivZ p2 (asI i35)))) (getO (Int.ofNat 0) (x_sum_of_divisors (asI i35) (.ofNat 1)))))) x2))))) (iteB (iteB (notB (eqZ (sumK (mapQ (fun i22 => (.int (mulZ (getO (Int.ofNat 0) (x_turn (asI i22))) (fdivZ p2 (asI i22))))) x2) (.ofNat 0)) x34)) true (notB (eqZ (sumK (mapQ (fun i35 => (.int (mulZ (getO (Int.ofNat 0) (x_turn (fdivZ p2 (asI i35)))) (getO (Int.ofNat 0) (x_sum_of_divisors (asI i35) (.ofNat 1)))))) x2) (.ofNat 0)) p2))) none (iteB (allQ (fun i49 => (andB (isI i49) (andB (isSomeB (x_turn (asI i49))) (andB (isI i49) (andB (divQ (asI i49)) (andB (isSomeB (x_sum_of_divisors (fdivZ p2 (asI i49)) (.ofNat 0))) (mulQ (getO (Int.ofNat 0) (x_turn (asI i49))) (getO (Int.ofNat 0) (x_sum_of_divisors (fdivZ p2 (asI i49)) (.ofNat 0)))))))))) x2) (iteB (shB x2) (iteB (intsB (mapQ (fun i49 => (.int (mulZ (getO (Int.ofNat 0) (x_turn (asI i49))) (getO (Int.ofNat 0) (x_sum_of_divisors (fdivZ p2 (asI i49)) (.ofNat 0)))))) x2)) (iteB (iteB (notB (eqZ (sumK (mapQ (fun i49 => (.int (mulZ (getO (Int.ofNat 0) (x_turn (asI i49))) (getO (Int.ofNat 0) (x_sum_of_divisors (fdivZ p2 (asI i49)) (.ofNat 0)))))) x2) (.ofNat 0)) (.ofNat 1))) true (andB (allQ (fun i61 => (andB (isI i61) (andB (isSomeB (x_sum_of_divisors (asI i61) (.ofNat 0))) (andB (isI i61) (andB (divQ (asI i61)) (andB (isSomeB (x_units (fdivZ p2 (asI i61)))) (mulQ (getO (Int.ofNat 0) (x_sum_of_divisors (asI i61) (.ofNat 0))) (getO (Int.ofNat 0) (x_units (fdivZ p2 (asI i61))))))))))) x2) (andB (shB x2) (andB (intsB (mapQ (fun i61 => (.int (mulZ (getO (Int.ofNat 0) (x_sum_of_divisors (asI i61) (.ofNat 0))) (getO (Int.ofNat 0) (x_units (fdivZ p2 (asI i61))))))) x2)) (isSomeB (x_sum_of_divisors p2 (.ofNat 1))))))) (iteB (iteB (notB (eqZ (sumK (mapQ (fun i49 => (.int (mulZ (getO (Int.ofNat 0) (x_turn (asI i49))) (getO (Int.ofNat 0) (x_sum_of_divisors (fdivZ p2 (asI i49)) (.ofNat 0)))))) x2) (.ofNat 0)) (.ofNat 1))) true (notB (eqZ (sumK (mapQ (fun i61 => (.int (mulZ (getO (Int.ofNat 0) (x_sum_of_divisors (asI i61) (.ofNat 0))) (getO (Int.ofNat 0) (x_units (fdivZ p2 (asI i61))))))) x2) (.ofNat 0)) (getO (Int.ofNat 0) (x_sum_of_divisors p2 (.ofNat 1)))))) none (some [(.int p2), p3, (.tuple x2)])) none) none) none) none)) none)) none) none) none)) none) none) none) none) none))
set_option maxHeartbeats 0 in
theorem x_sgA_ok {Φ : Nat → List Ev.D → Option Ev.R} {Ψ : Nat → List Ev.D → Tp → Option (Ev.R × Tp)} {τ : Tp} (e_1 : Φ 1 = u_turn_φ) (e_2 : Φ 2 = u_sum_of_divisors_φ) (e_3 : Φ 3 = u_units_φ) (e_4 : Φ 4 = u_divisors_φ) (p2 : Int) (p3 : Ev.D) (s0 s4 s5 s6 s7 s8 s9 s10 s11 s12 s13 s14 : Sl) : OkO id (evSs Φ Ψ 1000 [s0, .tp, .im (.int p2), .im p3, s4, s5, s6, s7, s8, s9, s10, s11, s12, s13, s14] τ ((u_law_code.drop 2).take 4)) (Kend [2, 3, 4] 13) (x_sgA p2 p3) := by
  unfold x_sgA
  show OkO id (evSs Φ Ψ _ _ τ [(.set (.nm 4) (.call 4 [((.var 2))])), (.ite (.dis (.cmp .ne (.blt .sum [((.comp (.call 3 [((.var 14))]) (.nm 14) 0 [((.var 4))] []))]) (.var 2)) (.cmp .ne (.blt .sum [((.comp (.call 1 [((.var 14))]) (.nm 14) 0 [((.var 4))] []))]) (.blt .int [((.cmp .eq (.var 2) (.cst (.int 1))))]))) [(.ret (.cst (.bool false)))] []), (.ite (.dis (.cmp .ne (.blt .sum [((.comp (.bin .mul (.call 1 [((.var 14))]) (.bin .fdiv (.var 2) (.var 14))) (.nm 14) 0 [((.var 4))] []))]) (.call 3 [((.var 2))])) (.cmp .ne (.blt .sum [((.comp (.bin .mul (.call 1 [((.bin .fdiv (.var 2) (.var 14)))]) (.call 2 [((.var 14)), ((.cst (.int 1)))])) (.nm 14) 0 [((.var 4))] []))]) (.var 2))) [(.ret (.cst (.bool false)))] []), (.ite (.dis (.cmp .ne (.blt .sum [((.comp (.bin .mul (.call 1 [((.var 14))]) (.call 2 [((.bin .fdiv (.var 2) (.var 14))), ((.cst (.int 0)))])) (.nm 14) 0 [((.var 4))] []))]) (.cst (.int 1))) (.cmp .ne (.blt .sum [((.comp (.bin .mul (.call 2 [((.var 14)), ((.cst (.int 0)))]) (.call 3 [((.bin .fdiv (.var 2) (.var 14)))])) (.nm 14) 0 [((.var 4))] []))]) (.call 2 [((.var 2)), ((.cst (.int 1)))]))) [(.ret (.cst (.bool false)))] [])]) _ _
  refine ok_bnd fun x2 h1 => ?_
  refine ok_g fun h3 => ?_
  refine st_set (ρ' := [s0, .tp, .im (.int p2), .im p3, .im (.tuple x2), s5, s6, s7, s8, s9, s10, s11, s12, s13, s14]) (ev_call (r := Nx.rT x2) (ea_cons (ev_var rfl) ea_nil) (call_eq (ds := [(.int p2)]) e_4 (x_divisors_φe h1)) (cl_T h3)) rfl ?_
  refine ok_g fun h9 => ?_
  refine ok_g fun h10 => ?_
  refine ok_g fun h11 => ?_
  refine ok_g fun h21 => ?_
  refine st_ite (ev_dis (ev_ne (ev_blt (ea_cons (ev_compQ0 (G := (fun i4 => (andB (isI i4) (isSomeB (x_units (asI i4)))))) (T := (fun i4 => (.int (getO (Int.ofNat 0) (x_units (asI i4)))))) (ρ' := fun i4 => [s0, .tp, .im (.int p2), .im p3, .im (.tuple x2), s5, s6, s7, s8, s9, s10, s11, s12, s13, .im i4]) (ea_cons (ev_var rfl) ea_nil) it_0T h10 h9 rfl (fun i4 h7 => tg_1 rfl) (fun _ => rfl) (fun i4 h7 => (ev_call (r := Nx.rI (getO (Int.ofNat 0) (x_units (asI i4)))) (ea_cons (ev_to (isI_eq (andB_l h7)) (ev_var rfl)) ea_nil) (call_eq (ds := [(.int (asI i4))]) e_3 (x_units_φe (isSome_eq (z := (Int.ofNat 0)) (andB_r h7)))) rfl))) ea_nil) (bl_sum h11)) (ev_var rfl)) (fun t20 => (ev_ne (ev_blt (ea_cons (ev_compQ0 (G := (fun i12 => (andB (isI i12) (isSomeB (x_turn (asI i12)))))) (T := (fun i12 => (.int (getO (Int.ofNat 0) (x_turn (asI i12)))))) (ρ' := fun i12 => [s0, .tp, .im (.int p2), .im p3, .im (.tuple x2), s5, s6, s7, s8, s9, s10, s11, s12, s13, .im i12]) (ea_cons (ev_var rfl) ea_nil) it_0T (andB_l (andB_r (selF h21 t20))) (andB_l (selF h21 t20)) rfl (fun i12 h15 => tg_1 rfl) (fun _ => rfl) (fun i12 h15 => (ev_call (r := Nx.rI (getO (Int.ofNat 0) (x_turn (asI i12)))) (ea_cons (ev_to (isI_eq (andB_l h15)) (ev_var rfl)) ea_nil) (call_eq (ds := [(.int (asI i12))]) e_1 (x_turn_φe (isSome_eq (z := (Int.ofNat 0)) (andB_r h15)))) rfl))) ea_nil) (bl_sum (andB_r (andB_r (selF h21 t20))))) (ev_blt (ea_cons (ev_eq (ev_var rfl) ev_cst) ea_nil) bl_intB)))) ?_ ?_
  · exact ok_none
  · refine ok_nil ?_
    refine nx_sq ?_
    refine ok_g fun h30 => ?_
    refine ok_g fun h31 => ?_
    refine ok_g fun h32 => ?_
    refine ok_bnd fun x34 h33 => ?_
    refine ok_g fun h48 => ?_
    refine st_ite (ev_dis (ev_ne (ev_blt (ea_cons (ev_compQ0 (G := (fun i22 => (andB (isI i22) (andB (isSomeB (x_turn (asI i22))) (andB (isI i22) (andB (divQ (asI i22)) (mulQ (getO (Int.ofNat 0) (x_turn (asI i22))) (fdivZ p2 (asI i22))))))))) (T := (fun i22 => (.int (mulZ (getO (Int.ofNat 0) (x_turn (asI i22))) (fdivZ p2 (asI i22)))))) (ρ' := fun i22 => [s0, .tp, .im (.int p2), .im p3, .im (.tuple x2), s5, s6, s7, s8, s9, s10, s11, s12, s13, .im i22]) (ea_cons (ev_var rfl) ea_nil) it_0T h31 h30 rfl (fun i22 h28 => tg_1 rfl) (fun _ => rfl) (fun i22 h28 => (ev_mul (mulQ_eq (andB_r (andB_r (andB_r (andB_r h28))))) (ev_call (r := Nx.rI (getO (Int.ofNat 0) (x_turn (asI i22)))) (ea_cons (ev_to (isI_eq (andB_l h28)) (ev_var rfl)) ea_nil) (call_eq (ds := [(.int (asI i22))]) e_1 (x_turn_φe (isSome_eq (z := (Int.ofNat 0)) (andB_l (andB_r h28))))) rfl) (ev_fdiv (divQ_eq (andB_l (andB_r (andB_r (andB_r h28))))) (ev_var rfl) (ev_to (isI_eq (andB_l (andB_r (andB_r h28)))) (ev_var rfl)))))) ea_nil) (bl_sum h32)) (ev_call (r := Nx.rI x34) (ea_cons (ev_var rfl) ea_nil) (call_eq (ds := [(.int p2)]) e_3 (x_units_φe h33)) rfl)) (fun t47 => (ev_ne (ev_blt (ea_cons (ev_compQ0 (G := (fun i35 => (andB (isI i35) (andB (divQ (asI i35)) (andB (isSomeB (x_turn (fdivZ p2 (asI i35)))) (andB (isI i35) (andB (isSomeB (x_sum_of_divisors (asI i35) (.ofNat 1))) (mulQ (getO (Int.ofNat 0) (x_turn (fdivZ p2 (asI i35)))) (getO (Int.ofNat 0) (x_sum_of_divisors (asI i35) (.ofNat 1))))))))))) (T := (fun i35 => (.int (mulZ (getO (Int.ofNat 0) (x_turn (fdivZ p2 (asI i35)))) (getO (Int.ofNat 0) (x_sum_of_divisors (asI i35) (.ofNat 1))))))) (ρ' := fun i35 => [s0, .tp, .im (.int p2), .im p3, .im (.tuple x2), s5, s6, s7, s8, s9, s10, s11, s12, s13, .im i35]) (ea_cons (ev_var rfl) ea_nil) it_0T (andB_l (andB_r (selF h48 t47))) (andB_l (selF h48 t47)) rfl (fun i35 h42 => tg_1 rfl) (fun _ => rfl) (fun i35 h42 => (ev_mul (mulQ_eq (andB_r (andB_r (andB_r (andB_r (andB_r h42)))))) (ev_call (r := Nx.rI (getO (Int.ofNat 0) (x_turn (fdivZ p2 (asI i35))))) (ea_cons (ev_fdiv (divQ_eq (andB_l (andB_r h42))) (ev_var rfl) (ev_to (isI_eq (andB_l h42)) (ev_var rfl))) ea_nil) (call_eq (ds := [(.int (fdivZ p2 (asI i35)))]) e_1 (x_turn_φe (isSome_eq (z := (Int.ofNat 0)) (andB_l (andB_r (andB_r h42)))))) rfl) (ev_call (r := Nx.rI (getO (Int.ofNat 0) (x_sum_of_divisors (asI i35) (.ofNat 1)))) (ea_cons (ev_to (isI_eq (andB_l (andB_r (andB_r (andB_r h42))))) (ev_var rfl)) (ea_cons ev_cst ea_nil)) (call_eq (ds := [(.int (asI i35)), (.int (.ofNat 1))]) e_2 (x_sum_of_divisors_φe (isSome_eq (z := (Int.ofNat 0)) (andB_l (andB_r (andB_r (andB_r (andB_r h42)))))))) rfl)))) ea_nil) (bl_sum (andB_r (andB_r (selF h48 t47))))) (ev_var rfl)))) ?_ ?_
    · exact ok_none
    · refine ok_nil ?_
      refine nx_sq ?_
      refine ok_g fun h58 => ?_
      refine ok_g fun h59 => ?_
      refine ok_g fun h60 => ?_
      refine ok_g fun h75 => ?_
      refine st_ite (ev_dis (ev_ne (ev_blt (ea_cons (ev_compQ0 (G := (fun i49 => (andB (isI i49) (andB (isSomeB (x_turn (asI i49))) (andB (isI i49) (andB (divQ (asI i49)) (andB (isSomeB (x_sum_of_divisors (fdivZ p2 (asI i49)) (.ofNat 0))) (mulQ (getO (Int.ofNat 0) (x_turn (asI i49))) (getO (Int.ofNat 0) (x_sum_of_divisors (fdivZ p2 (asI i49)) (.ofNat 0))))))))))) (T := (fun i49 => (.int (mulZ (getO (Int.ofNat 0) (x_turn (asI i49))) (getO (Int.ofNat 0) (x_sum_of_divisors (fdivZ p2 (asI i49)) (.ofNat 0))))))) (ρ' := fun i49 => [s0, .tp, .im (.int p2), .im p3, .im (.tuple x2), s5, s6, s7, s8, s9, s10, s11, s12, s13, .im i49]) (ea_cons (ev_var rfl) ea_nil) it_0T h59 h58 rfl (fun i49 h56 => tg_1 rfl) (fun _ => rfl) (fun i49 h56 => (ev_mul (mulQ_eq (andB_r (andB_r (andB_r (andB_r (andB_r h56)))))) (ev_call (r := Nx.rI (getO (Int.ofNat 0) (x_turn (asI i49)))) (ea_cons (ev_to (isI_eq (andB_l h56)) (ev_var rfl)) ea_nil) (call_eq (ds := [(.int (asI i49))]) e_1 (x_turn_φe (isSome_eq (z := (Int.ofNat 0)) (andB_l (andB_r h56))))) rfl) (ev_call (r := Nx.rI (getO (Int.ofNat 0) (x_sum_of_divisors (fdivZ p2 (asI i49)) (.ofNat 0)))) (ea_cons (ev_fdiv (divQ_eq (andB_l (andB_r (andB_r (andB_r h56))))) (ev_var rfl) (ev_to (isI_eq (andB_l (andB_r (andB_r h56)))) (ev_var rfl))) (ea_cons ev_cst ea_nil)) (call_eq (ds := [(.int (fdivZ p2 (asI i49))), (.int (.ofNat 0))]) e_2 (x_sum_of_divisors_φe (isSome_eq (z := (Int.ofNat 0)) (andB_l (andB_r (andB_r (andB_r (andB_r h56)))))))) rfl)))) ea_nil) (bl_sum h60)) ev_cst) (fun t74 => (ev_ne (ev_blt (ea_cons (ev_compQ0 (G := (fun i61 => (andB (isI i61) (andB (isSomeB (x_sum_of_divisors (asI i61) (.ofNat 0))) (andB (isI i61) (andB (divQ (asI i61)) (andB (isSomeB (x_units (fdivZ p2 (asI i61)))) (mulQ (getO (Int.ofNat 0) (x_sum_of_divisors (asI i61) (.ofNat 0))) (getO (Int.ofNat 0) (x_units (fdivZ p2 (asI i61)))))))))))) (T := (fun i61 => (.int (mulZ (getO (Int.ofNat 0) (x_sum_of_divisors (asI i61) (.ofNat 0))) (getO (Int.ofNat 0) (x_units (fdivZ p2 (asI i61)))))))) (ρ' := fun i61 => [s0, .tp, .im (.int p2), .im p3, .im (.tuple x2), s5, s6, s7, s8, s9, s10, s11, s12, s13, .im i61]) (ea_cons (ev_var rfl) ea_nil) it_0T (andB_l (andB_r (selF h75 t74))) (andB_l (selF h75 t74)) rfl (fun i61 h68 => tg_1 rfl) (fun _ => rfl) (fun i61 h68 => (ev_mul (mulQ_eq (andB_r (andB_r (andB_r (andB_r (andB_r h68)))))) (ev_call (r := Nx.rI (getO (Int.ofNat 0) (x_sum_of_divisors (asI i61) (.ofNat 0)))) (ea_cons (ev_to (isI_eq (andB_l h68)) (ev_var rfl)) (ea_cons ev_cst ea_nil)) (call_eq (ds := [(.int (asI i61)), (.int (.ofNat 0))]) e_2 (x_sum_of_divisors_φe (isSome_eq (z := (Int.ofNat 0)) (andB_l (andB_r h68))))) rfl) (ev_call (r := Nx.rI (getO (Int.ofNat 0) (x_units (fdivZ p2 (asI i61))))) (ea_cons (ev_fdiv (divQ_eq (andB_l (andB_r (andB_r (andB_r h68))))) (ev_var rfl) (ev_to (isI_eq (andB_l (andB_r (andB_r h68)))) (ev_var rfl))) ea_nil) (call_eq (ds := [(.int (fdivZ p2 (asI i61)))]) e_3 (x_units_φe (isSome_eq (z := (Int.ofNat 0)) (andB_l (andB_r (andB_r (andB_r (andB_r h68)))))))) rfl)))) ea_nil) (bl_sum (andB_l (andB_r (andB_r (selF h75 t74)))))) (ev_call (r := Nx.rI (getO (Int.ofNat 0) (x_sum_of_divisors p2 (.ofNat 1)))) (ea_cons (ev_var rfl) (ea_cons ev_cst ea_nil)) (call_eq (ds := [(.int p2), (.int (.ofNat 1))]) e_2 (x_sum_of_divisors_φe (isSome_eq (z := (Int.ofNat 0)) (andB_r (andB_r (andB_r (selF h75 t74))))))) rfl)))) ?_ ?_
      · exact ok_none
      · refine ok_nil ?_
        refine nx_sq ?_
        refine ok_nil ?_
        exact seg_end (Ψ := Ψ) rfl
open Nx
noncomputable def x_sgB_J1 (p2 : Int) (p3 : Int) (p4 : Ev.D) (x5 : Int) (x7 : Int) : Option (List Ev.D) := (bndO (x_units p2) fun x42 => (bndO (x_units p3) fun x44 => (iteB (mulQ x42 x44) (iteB (mulQ (mulZ x42 x44) x5) (iteB (mulQ p2 p3) (bndO (x_units (mulZ p2 p3)) fun x49 => (bndO (x_units x5) fun x51 => (iteB (mulQ x49 x51) (iteB (iteB (notB (eqZ (mulZ (mulZ x42 x44) x5) (mulZ x49 x51))) true (andB (isSomeB (x_units x7)) (andB (isSomeB (x_units x5)) (andB (mulQ (getO (Int.ofNat 0) (x_units x7)) (getO (Int.ofNat 0) (x_units x5))) (andB (isSomeB (x_units p2)) (andB (isSomeB (x_units p3)) (mulQ (getO (Int.ofNat 0) (x_units p2)) (getO (Int.ofNat 0) (x_units p3))))))))) (iteB (iteB (notB (eqZ (mulZ (mulZ x42 x44) x5) (mulZ x49 x51))) true (notB (eqZ (mulZ (getO (Int.ofNat 0) (x_units x7)) (getO (Int.ofNat 0) (x_units x5))) (mulZ (getO (Int.ofNat 0) (x_units p2)) (getO (Int.ofNat 0) (x_units p3)))))) none (some [(.int p2), p4])) none) none))) none) none) none)))
noncomputable def x_sgB (p2 : Int) (p3 : Int) (p4 : Ev.D) : Option (List Ev.D) := (bndO (x_gcd_of (.tuple [(.int p2), (.int p3)])) fun x2 => (iteB (nlK x2) (dInt x2 none fun x5 => (bndO (x_lcm_of (.tuple [(.int p2), (.int p3)])) fun x7 => (iteB (mulQ x5 x7) (iteB (mulQ p2 p3) (iteB (notB (eqZ (mulZ x5 x7) (mulZ p2 p3))) none (iteB (eqZ x5 (.ofNat 1)) (iteB (mulQ p2 p3) (bndO (x_units (mulZ p2 p3)) fun x64 => (bndO (x_units p2) fun x66 => (bndO (x_units p3) fun x68 => (iteB (mulQ x66 x68) (iteB (iteB (notB (eqZ x64 (mulZ x66 x68))) true (andB (mulQ p2 p3) (andB (isSomeB (x_turn (mulZ p2 p3))) (andB (isSomeB (x_turn p2)) (andB (isSomeB (x_turn p3)) (andB (mulQ (getO (Int.ofNat 0) (x_turn p2)) (getO (Int.ofNat 0) (x_turn p3))) (iteB (notB (eqZ (getO (Int.ofNat 0) (x_turn (mulZ p2 p3))) (mulZ (getO (Int.ofNat 0) (x_turn p2)) (getO (Int.ofNat 0) (x_turn p3))))) true (andB (mulQ p2 p3) (andB (isSomeB (x_sum_of_divisors (mulZ p2 p3) (.ofNat 2))) (andB (isSomeB (x_sum_of_divisors p2 (.ofNat 2))) (andB (isSomeB (x_sum_of_divisors p3 (.ofNat 2))) (mulQ (getO (Int.ofNat 0) (x_sum_of_divisors p2 (.ofNat 2))) (getO (Int.ofNat 0) (x_sum_of_divisors p3 (.ofNat 2))))))))))))))) (iteB (iteB (notB (eqZ x64 (mulZ x66 x68))) true (iteB (notB (eqZ (getO (Int.ofNat 0) (x_turn (mulZ p2 p3))) (mulZ (getO (Int.ofNat 0) (x_turn p2)) (getO (Int.ofNat 0) (x_turn p3))))) true (notB (eqZ (getO (Int.ofNat 0) (x_sum_of_divisors (mulZ p2 p3) (.ofNat 2))) (mulZ (getO (Int.ofNat 0) (x_sum_of_divisors p2 (.ofNat 2))) (getO (Int.ofNat 0) (x_sum_of_divisors p3 (.ofNat 2)))))))) none (x_sgB_J1 p2 p3 p4 x5 x7)) none) none)))) none) (x_sgB_J1 p2 p3 p4 x5 x7))) none) none))) none))
set_option maxHeartbeats 0 in
theorem x_sgB_ok {Φ : Nat → List Ev.D → Option Ev.R} {Ψ : Nat → List Ev.D → Tp → Option (Ev.R × Tp)} {τ : Tp} (e_1 : Φ 1 = u_turn_φ) (e_2 : Φ 2 = u_sum_of_divisors_φ) (e_3 : Φ 3 = u_units_φ) (e_17 : Φ 17 = u_lcm_of_φ) (e_18 : Φ 18 = u_gcd_of_φ) (p2 : Int) (p3 : Int) (p4 : Ev.D) (s0 s5 s6 s7 s8 s9 s10 s11 s12 s13 s14 : Sl) : OkO id (evSs Φ Ψ 1000 [s0, .tp, .im (.int p2), .im (.int p3), .im p4, s5, s6, s7, s8, s9, s10, s11, s12, s13, s14] τ ((u_law_code.drop 6).take 5)) (Kend [2, 4] 13) (x_sgB p2 p3 p4) := by
  unfold x_sgB
  show OkO id (evSs Φ Ψ _ _ τ [(.set (.nm 5) (.call 18 [((.tup [((.var 2)), ((.var 3))]))])), (.set (.nm 6) (.call 17 [((.tup [((.var 2)), ((.var 3))]))])), (.ite (.cmp .ne (.bin .mul (.var 5) (.var 6)) (.bin .mul (.var 2) (.var 3))) [(.ret (.cst (.bool false)))] []), (.ite (.cmp .eq (.var 5) (.cst (.int 1))) [(.ite (.dis (.cmp .ne (.call 3 [((.bin .mul (.var 2) (.var 3)))]) (.bin .mul (.call 3 [((.var 2))]) (.call 3 [((.var 3))]))) (.dis (.cmp .ne (.call 1 [((.bin .mul (.var 2) (.var 3)))]) (.bin .mul (.call 1 [((.var 2))]) (.call 1 [((.var 3))]))) (.cmp .ne (.call 2 [((.bin .mul (.var 2) (.var 3))), ((.cst (.int 2)))]) (.bin .mul (.call 2 [((.var 2)), ((.cst (.int 2)))]) (.call 2 [((.var 3)), ((.cst (.int 2)))]))))) [(.ret (.cst (.bool false)))] [])] []), (.ite (.dis (.cmp .ne (.bin .mul (.bin .mul (.call 3 [((.var 2))]) (.call 3 [((.var 3))])) (.var 5)) (.bin .mul (.call 3 [((.bin .mul (.var 2) (.var 3)))]) (.call 3 [((.var 5))]))) (.cmp .ne (.bin .mul (.call 3 [((.var 6))]) (.call 3 [((.var 5))])) (.bin .mul (.call 3 [((.var 2))]) (.call 3 [((.var 3))])))) [(.ret (.cst (.bool false)))] [])]) _ _
  refine ok_bnd fun x2 h1 => ?_
  refine ok_g fun h3 => ?_
  refine ok_dInt fun x5 h4 => ?_
  refine st_set (ρ' := [s0, .tp, .im (.int p2), .im (.int p3), .im p4, .im (.int x5), s6, s7, s8, s9, s10, s11, s12, s13, s14]) (ev_to h4 (ev_call (r := Nx.rD x2) (ea_cons (ev_tup (ds := [(.int p2), (.int p3)]) (ea_cons (ev_var rfl) (ea_cons (ev_var rfl) ea_nil)) rfl rfl) ea_nil) (call_eq (ds := [(.tuple [(.int p2), (.int p3)])]) e_18 (x_gcd_of_φe h1)) (cl_D h3))) rfl ?_
  refine ok_bnd fun x7 h6 => ?_
  refine st_set (ρ' := [s0, .tp, .im (.int p2), .im (.int p3), .im p4, .im (.int x5), .im (.int x7), s7, s8, s9, s10, s11, s12, s13, s14]) (ev_call (r := Nx.rI x7) (ea_cons (ev_tup (ds := [(.int p2), (.int p3)]) (ea_cons (ev_var rfl) (ea_cons (ev_var rfl) ea_nil)) rfl rfl) ea_nil) (call_eq (ds := [(.tuple [(.int p2), (.int p3)])]) e_17 (x_lcm_of_φe h6)) rfl) rfl ?_
  refine ok_g fun h8 => ?_
  refine ok_g fun h9 => ?_
  refine st_ite (ev_ne (ev_mul (mulQ_eq h8) (ev_var rfl) (ev_var rfl)) (ev_mul (mulQ_eq h9) (ev_var rfl) (ev_var rfl))) ?_ ?_
  · exact ok_none
  · refine ok_nil ?_
    refine nx_sq ?_
    refine st_iteJ (fun ρ n => ∃ (g32 : Sl) (g33 : Sl) (g34 : Sl) (g35 : Sl) (g36 : Sl) (g37 : Sl) (g38 : Sl) (g39 : Sl) (g40 : Sl), ρ = [g32, .tp, .im (.int p2), .im (.int p3), .im p4, .im (.int x5), .im (.int x7), g33, g34, g35, g36, g37, g38, g39, g40] ∧ n = x_sgB_J1 p2 p3 p4 x5 x7) ?_ (ev_eq (ev_var rfl) ev_cst) (fun hj61 => ?_) (fun hj61 => ?_)
    · rintro ρ n ⟨g32, g33, g34, g35, g36, g37, g38, g39, g40, rfl, rfl⟩
      unfold x_sgB_J1
      refine ok_bnd fun x42 h41 => ?_
      refine ok_bnd fun x44 h43 => ?_
      refine ok_g fun h45 => ?_
      refine ok_g fun h46 => ?_
      refine ok_g fun h47 => ?_
      refine ok_bnd fun x49 h48 => ?_
      refine ok_bnd fun x51 h50 => ?_
      refine ok_g fun h52 => ?_
      refine ok_g fun h60 => ?_
      refine st_ite (ev_dis (ev_ne (ev_mul (mulQ_eq h46) (ev_mul (mulQ_eq h45) (ev_call (r := Nx.rI x42) (ea_cons (ev_var rfl) ea_nil) (call_eq (ds := [(.int p2)]) e_3 (x_units_φe h41)) rfl) (ev_call (r := Nx.rI x44) (ea_cons (ev_var rfl) ea_nil) (call_eq (ds := [(.int p3)]) e_3 (x_units_φe h43)) rfl)) (ev_var rfl)) (ev_mul (mulQ_eq h52) (ev_call (r := Nx.rI x49) (ea_cons (ev_mul (mulQ_eq h47) (ev_var rfl) (ev_var rfl)) ea_nil) (call_eq (ds := [(.int (mulZ p2 p3))]) e_3 (x_units_φe h48)) rfl) (ev_call (r := Nx.rI x51) (ea_cons (ev_var rfl) ea_nil) (call_eq (ds := [(.int x5)]) e_3 (x_units_φe h50)) rfl))) (fun t59 => (ev_ne (ev_mul (mulQ_eq (andB_l (andB_r (andB_r (selF h60 t59))))) (ev_call (r := Nx.rI (getO (Int.ofNat 0) (x_units x7))) (ea_cons (ev_var rfl) ea_nil) (call_eq (ds := [(.int x7)]) e_3 (x_units_φe (isSome_eq (z := (Int.ofNat 0)) (andB_l (selF h60 t59))))) rfl) (ev_call (r := Nx.rI (getO (Int.ofNat 0) (x_units x5))) (ea_cons (ev_var rfl) ea_nil) (call_eq (ds := [(.int x5)]) e_3 (x_units_φe (isSome_eq (z := (Int.ofNat 0)) (andB_l (andB_r (selF h60 t59)))))) rfl)) (ev_mul (mulQ_eq (andB_r (andB_r (andB_r (andB_r (andB_r (selF h60 t59))))))) (ev_call (r := Nx.rI (getO (Int.ofNat 0) (x_units p2))) (ea_cons (ev_var rfl) ea_nil) (call_eq (ds := [(.int p2)]) e_3 (x_units_φe (isSome_eq (z := (Int.ofNat 0)) (andB_l (andB_r (andB_r (andB_r (selF h60 t59)))))))) rfl) (ev_call (r := Nx.rI (getO (Int.ofNat 0) (x_units p3))) (ea_cons (ev_var rfl) ea_nil) (call_eq (ds := [(.int p3)]) e_3 (x_units_φe (isSome_eq (z := (Int.ofNat 0)) (andB_l (andB_r (andB_r (andB_r (andB_r (selF h60 t59))))))))) rfl))))) ?_ ?_
      · exact ok_none
      · refine ok_nil ?_
        refine nx_sq ?_
        refine ok_nil ?_
        exact seg_end (Ψ := Ψ) rfl
    · refine ok_g fun h62 => ?_
      refine ok_bnd fun x64 h63 => ?_
      refine ok_bnd fun x66 h65 => ?_
      refine ok_bnd fun x68 h67 => ?_
      refine ok_g fun h69 => ?_
      refine ok_g fun h83 => ?_
      refine st_ite (ev_dis (ev_ne (ev_call (r := Nx.rI x64) (ea_cons (ev_mul (mulQ_eq h62) (ev_var rfl) (ev_var rfl)) ea_nil) (call_eq (ds := [(.int (mulZ p2 p3))]) e_3 (x_units_φe h63)) rfl) (ev_mul (mulQ_eq h69) (ev_call (r := Nx.rI x66) (ea_cons (ev_var rfl) ea_nil) (call_eq (ds := [(.int p2)]) e_3 (x_units_φe h65)) rfl) (ev_call (r := Nx.rI x68) (ea_cons (ev_var rfl) ea_nil) (call_eq (ds := [(.int p3)]) e_3 (x_units_φe h67)) rfl))) (fun t82 => (ev_dis (ev_ne (ev_call (r := Nx.rI (getO (Int.ofNat 0) (x_turn (mulZ p2 p3)))) (ea_cons (ev_mul (mulQ_eq (andB_l (selF h83 t82))) (ev_var rfl) (ev_var rfl)) ea_nil) (call_eq (ds := [(.int (mulZ p2 p3))]) e_1 (x_turn_φe (isSome_eq (z := (Int.ofNat 0)) (andB_l (andB_r (selF h83 t82)))))) rfl) (ev_mul (mulQ_eq (andB_l (andB_r (andB_r (andB_r (andB_r (selF h83 t82))))))) (ev_call (r := Nx.rI (getO (Int.ofNat 0) (x_turn p2))) (ea_cons (ev_var rfl) ea_nil) (call_eq (ds := [(.int p2)]) e_1 (x_turn_φe (isSome_eq (z := (Int.ofNat 0)) (andB_l (andB_r (andB_r (selF h83 t82))))))) rfl) (ev_call (r := Nx.rI (getO (Int.ofNat 0) (x_turn p3))) (ea_cons (ev_var rfl) ea_nil) (call_eq (ds := [(.int p3)]) e_1 (x_turn_φe (isSome_eq (z := (Int.ofNat 0)) (andB_l (andB_r (andB_r (andB_r (selF h83 t82)))))))) rfl))) (fun t80 => (ev_ne (ev_call (r := Nx.rI (getO (Int.ofNat 0) (x_sum_of_divisors (mulZ p2 p3) (.ofNat 2)))) (ea_cons (ev_mul (mulQ_eq (andB_l (selF (andB_r (andB_r (andB_r (andB_r (andB_r (selF h83 t82)))))) t80))) (ev_var rfl) (ev_var rfl)) (ea_cons ev_cst ea_nil)) (call_eq (ds := [(.int (mulZ p2 p3)), (.int (.ofNat 2))]) e_2 (x_sum_of_divisors_φe (isSome_eq (z := (Int.ofNat 0)) (andB_l (andB_r (selF (andB_r (andB_r (andB_r (andB_r (andB_r (selF h83 t82)))))) t80)))))) rfl) (ev_mul (mulQ_eq (andB_r (andB_r (andB_r (andB_r (selF (andB_r (andB_r (andB_r (andB_r (andB_r (selF h83 t82)))))) t80)))))) (ev_call (r := Nx.rI (getO (Int.ofNat 0) (x_sum_of_divisors p2 (.ofNat 2)))) (ea_cons (ev_var rfl) (ea_cons ev_cst ea_nil)) (call_eq (ds := [(.int p2), (.int (.ofNat 2))]) e_2 (x_sum_of_divisors_φe (isSome_eq (z := (Int.ofNat 0)) (andB_l (andB_r (andB_r (selF (andB_r (andB_r (andB_r (andB_r (andB_r (selF h83 t82)))))) t80))))))) rfl) (ev_call (r := Nx.rI (getO (Int.ofNat 0) (x_sum_of_divisors p3 (.ofNat 2)))) (ea_cons (ev_var rfl) (ea_cons ev_cst ea_nil)) (call_eq (ds := [(.int p3), (.int (.ofNat 2))]) e_2 (x_sum_of_divisors_φe (isSome_eq (z := (Int.ofNat 0)) (andB_l (andB_r (andB_r (andB_r (selF (andB_r (andB_r (andB_r (andB_r (andB_r (selF h83 t82)))))) t80)))))))) rfl))))))) ?_ ?_
      · exact ok_none
      · refine ok_nil ?_
        refine nx_sq ?_
        refine ok_nil ?_
        exact hj61 _ _ ⟨_, _, _, _, _, _, _, _, _, rfl, rfl⟩
    · refine ok_nil ?_
      exact hj61 _ _ ⟨_, _, _, _, _, _, _, _, _, rfl, rfl⟩
open Nx
noncomputable def x_sgC_K2 (p2 : Int) (p4 : Ev.D) (x53 : List Ev.D) (v76 : Int) : Option (List Ev.D) := (iteB (iteB (notB (eqZ (lenZ x53) v76)) true (andB (isQ p4) (andB (allQ (fun i80 => (andB (isI i80) (andB (isSomeB (x_turn (asI i80))) (andB (isI i80) (andB (isSomeB (x_turn (asI i80))) (mulQ (getO (Int.ofNat 0) (x_turn (asI i80))) (getO (Int.ofNat 0) (x_turn (asI i80))))))))) (asQ p4)) (andB (shB (asQ p4)) (intsB (mapQ (fun i80 => (.int (mulZ (getO (Int.ofNat 0) (x_turn (asI i80))) (getO (Int.ofNat 0) (x_turn (asI i80)))))) (asQ p4))))))) (iteB (iteB (notB (eqZ (lenZ x53) v76)) true (notB (eqZ (sumK (mapQ (fun i80 => (.int (mulZ (getO (Int.ofNat 0) (x_turn (asI i80))) (getO (Int.ofNat 0) (x_turn (asI i80)))))) (asQ p4)) (.ofNat 0)) v76))) none (some [(.int p2)])) none)
noncomputable def x_sgC_B2 (p2 : Int) (p4 : Ev.D) (x53 : List Ev.D) (ih2 : Int → Option (List Ev.D)) (d97 : Ev.D) (v65 : Int) : Option (List Ev.D) := (dT2 d97 none fun x99 x100 => (dInt x99 none fun x102 => (dInt x100 none fun x104 => (iteB (mulQ (.ofNat 2) v65) (frcI (mulZ (.ofNat 2) v65) fun x107 => (ih2 x107)) none))))
noncomputable def x_sgC_L2 (p2 : Int) (p4 : Ev.D) (x53 : List Ev.D) (l : List Ev.D) : Int → Option (List Ev.D) := @List.rec Ev.D (fun _ => Int → Option (List Ev.D)) (fun v65 => (x_sgC_K2 p2 p4 x53 v65)) (fun d _ ih => x_sgC_B2 p2 p4 x53 ih d) l
noncomputable def x_sgC_K1 (p2 : Int) (p4 : Ev.D) (v20 : Int) : Option (List Ev.D) := (iteB (isQ p4) (iteB (iteB (notB (eqZ (lenZ (asQ p4)) v20)) true (andB (isSomeB (x_sum_of_divisors p2 (.ofNat 0))) (iteB (notB (eqZ (getO (Int.ofNat 0) (x_sum_of_divisors p2 (.ofNat 0))) v20)) true (andB (isQ p4) (andB (allQ (fun i30 => (andB (isI i30) (divQ (asI i30)))) (asQ p4)) (andB (shB (asQ p4)) (andB (isQ p4) (andB (shK (.list (mapQ (fun i30 => (.int (fdivZ p2 (asI i30)))) (asQ p4))) 8) (shK (.list (revK (asQ p4))) 8))))))))) (iteB (iteB (notB (eqZ (lenZ (asQ p4)) v20)) true (iteB (notB (eqZ (getO (Int.ofNat 0) (x_sum_of_divisors p2 (.ofNat 0))) v20)) true (notB (eqK (.list (mapQ (fun i30 => (.int (fdivZ p2 (asI i30)))) (asQ p4))) (.list (revK (asQ p4))))))) none (iteB (isQ p4) (iteB (allQ (fun i45 => (andB (isI i45) (isSomeB (x_turn (asI i45))))) (asQ p4)) (iteB (shB (fltQ (fun i45 => (notB (eqZ (getO (Int.ofNat 0) (x_turn (asI i45))) (.ofNat 0)))) (fun i45 => i45) (asQ p4))) (frcLL (fltQ (fun i45 => (notB (eqZ (getO (Int.ofNat 0) (x_turn (asI i45))) (.ofNat 0)))) (fun i45 => i45) (asQ p4)) fun x53 => (bndO (x_factors p2) fun x56 => (iteB (nlL x56) (x_sgC_L2 p2 p4 x53 x56 (.ofNat 1)) none))) none) none) none)) none) none)
noncomputable def x_sgC_B1 (p2 : Int) (p4 : Ev.D) (ih1 : Int → Option (List Ev.D)) (d112 : Ev.D) (v8 : Int) : Option (List Ev.D) := (dT2 d112 none fun x114 x115 => (dInt x114 none fun x117 => (dInt x115 none fun x119 => (iteB (mulQ v8 (addZ x119 (.ofNat 1))) (frcI (mulZ v8 (addZ x119 (.ofNat 1))) fun x122 => (bndO (x_valuation p2 x117) fun x125 => (iteB (nlL x125) (bndO (ixK x125 (.ofNat 0)) fun x128 => (iteB (shK x128 8) (iteB (iteB (notB (eqK x128 (.int x119))) true (isSomeB (x_is_prime x117))) (iteB (iteB (notB (eqK x128 (.int x119))) true (notB (eqB (getO false (x_is_prime x117)) true))) none (ih1 x122)) none) none)) none))) none))))
noncomputable def x_sgC_L1 (p2 : Int) (p4 : Ev.D) (l : List Ev.D) : Int → Option (List Ev.D) := @List.rec Ev.D (fun _ => Int → Option (List Ev.D)) (fun v8 => (x_sgC_K1 p2 p4 v8)) (fun d _ ih => x_sgC_B1 p2 p4 ih d) l
noncomputable def x_sgC (p2 : Int) (p4 : Ev.D) : Option (List Ev.D) := (bndO (x_factors p2) fun x2 => (iteB (nlL x2) (x_sgC_L1 p2 p4 x2 (.ofNat 1)) none))
set_option maxHeartbeats 0 in
theorem x_sgC_ok {Φ : Nat → List Ev.D → Option Ev.R} {Ψ : Nat → List Ev.D → Tp → Option (Ev.R × Tp)} {τ : Tp} (e_1 : Φ 1 = u_turn_φ) (e_2 : Φ 2 = u_sum_of_divisors_φ) (e_5 : Φ 5 = u_factors_φ) (e_10 : Φ 10 = u_is_prime_φ) (e_14 : Φ 14 = u_valuation_φ) (p2 : Int) (p4 : Ev.D) (s0 s3 s5 s6 s7 s8 s9 s10 s11 s12 s13 s14 : Sl) : OkO id (evSs Φ Ψ 1000 [s0, .tp, .im (.int p2), s3, .im p4, s5, s6, s7, s8, s9, s10, s11, s12, s13, s14] τ ((u_law_code.drop 11).take 7)) (Kend [2] 13) (x_sgC p2 p4) := by
  unfold x_sgC
  show OkO id (evSs Φ Ψ _ _ τ [(.set (.nm 7) (.cst (.int 1))), (.for_ (.tu [(8), (9)]) 0 [((.call 5 [((.var 2))]))] [(.set (.nm 7) (.bin .mul (.var 7) (.bin .add (.var 9) (.cst (.int 1))))), (.ite (.dis (.cmp .ne (.idx (.call 14 [((.var 2)), ((.var 8))]) (.cst (.int 0))) (.var 9)) (.notB (.call 10 [((.var 8))]) (.cst (.bool true)))) [(.ret (.cst (.bool false)))] [])]), (.ite (.dis (.cmp .ne (.blt .len [((.var 4))]) (.var 7)) (.dis (.cmp .ne (.call 2 [((.var 2)), ((.cst (.int 0)))]) (.var 7)) (.cmp .ne (.comp (.bin .fdiv (.var 2) (.var 14)) (.nm 14) 0 [((.var 4))] []) (.rev (.blt .list [((.var 4))]))))) [(.ret (.cst (.bool false)))] []), (.set (.nm 10) (.comp (.var 14) (.nm 14) 0 [((.var 4))] [((.cmp .ne (.call 1 [((.var 14))]) (.cst (.int 0))))])), (.set (.nm 11) (.cst (.int 1))), (.for_ (.tu [(8), (9)]) 0 [((.call 5 [((.var 2))]))] [(.set (.nm 11) (.bin .mul (.cst (.int 2)) (.var 11)))]), (.ite (.dis (.cmp .ne (.blt .len [((.var 10))]) (.var 11)) (.cmp .ne (.blt .sum [((.comp (.bin .mul (.call 1 [((.var 14))]) (.call 1 [((.var 14))])) (.nm 14) 0 [((.var 4))] []))]) (.var 11))) [(.ret (.cst (.bool false)))] [])]) _ _
  refine st_set (ρ' := [s0, .tp, .im (.int p2), s3, .im p4, s5, s6, .im (.int (.ofNat 1)), s8, s9, s10, s11, s12, s13, s14]) ev_cst rfl ?_
  refine ok_bnd fun x2 h1 => ?_
  refine ok_g fun h3 => ?_
  refine st_for (ea_cons (ev_call (r := Nx.rT x2) (ea_cons (ev_var rfl) ea_nil) (call_eq (ds := [(.int p2)]) e_5 (x_factors_φe h1)) (cl_T h3)) ea_nil) rfl it_0T ?_
  refine fo_L (fun ρ n => ∃ (v20 : Int) (g16 : Sl) (g17 : Sl) (g18 : Sl) (g19 : Sl) (g21 : Sl) (g22 : Sl) (g23 : Sl) (g24 : Sl) (g25 : Sl) (g26 : Sl) (g27 : Sl), ρ = [g16, .tp, .im (.int p2), g17, .im p4, g18, g19, .im (.int v20), g21, g22, g23, g24, g25, g26, g27] ∧ n = x_sgC_K1 p2 p4 v20) (fun l ρ n => ∃ (v8 : Int) (g4 : Sl) (g5 : Sl) (g6 : Sl) (g7 : Sl) (g9 : Sl) (g10 : Sl) (g11 : Sl) (g12 : Sl) (g13 : Sl) (g14 : Sl) (g15 : Sl), ρ = [g4, .tp, .im (.int p2), g5, .im p4, g6, g7, .im (.int v8), g9, g10, g11, g12, g13, g14, g15] ∧ n = x_sgC_L1 p2 p4 l v8) ?_ ⟨_, _, _, _, _, _, _, _, _, _, _, _, rfl, rfl⟩ ?_ ?_
  · rintro ρ n ⟨v20, g16, g17, g18, g19, g21, g22, g23, g24, g25, g26, g27, rfl, rfl⟩
    unfold x_sgC_K1
    refine ok_g fun h28 => ?_
    refine ok_g fun h44 => ?_
    refine st_ite (ev_dis (ev_ne (ev_blt (ea_cons (ev_var rfl) ea_nil) (bl_lenD h28)) (ev_var rfl)) (fun t43 => (ev_dis (ev_ne (ev_call (r := Nx.rI (getO (Int.ofNat 0) (x_sum_of_divisors p2 (.ofNat 0)))) (ea_cons (ev_var rfl) (ea_cons ev_cst ea_nil)) (call_eq (ds := [(.int p2), (.int (.ofNat 0))]) e_2 (x_sum_of_divisors_φe (isSome_eq (z := (Int.ofNat 0)) (andB_l (selF h44 t43))))) rfl) (ev_var rfl)) (fun t41 => (ev_cmp (x := (.list (mapQ (fun i30 => (.int (fdivZ p2 (asI i30)))) (asQ p4)))) (y := (.list (revK (asQ p4)))) (ev_compQ0 (G := (fun i30 => (andB (isI i30) (divQ (asI i30))))) (T := (fun i30 => (.int (fdivZ p2 (asI i30))))) (ρ' := fun i30 => [g16, .tp, .im (.int p2), g17, .im p4, g18, g19, .im (.int v20), g21, g22, g23, g24, g25, g26, .im i30]) (ea_cons (ev_var rfl) ea_nil) (it_0D (andB_l (selF (andB_r (selF h44 t43)) t41))) (andB_l (andB_r (andB_r (selF (andB_r (selF h44 t43)) t41)))) (andB_l (andB_r (selF (andB_r (selF h44 t43)) t41))) rfl (fun i30 h34 => tg_1 rfl) (fun _ => rfl) (fun i30 h34 => (ev_fdiv (divQ_eq (andB_r h34)) (ev_var rfl) (ev_to (isI_eq (andB_l h34)) (ev_var rfl))))) (ev_rev (ev_blt (ea_cons (ev_var rfl) ea_nil) (bl_lstD (andB_l (andB_r (andB_r (andB_r (selF (andB_r (selF h44 t43)) t41))))))) rv_L) (cmpD_ne (andB_l (andB_r (andB_r (andB_r (andB_r (selF (andB_r (selF h44 t43)) t41)))))) (andB_r (andB_r (andB_r (andB_r (andB_r (selF (andB_r (selF h44 t43)) t41)))))))))))) ?_ ?_
    · exact ok_none
    · refine ok_nil ?_
      refine nx_sq ?_
      refine ok_g fun h46 => ?_
      refine ok_g fun h51 => ?_
      refine ok_g fun h52 => ?_
      refine ok_frcL fun x53 h54 => ?_
      refine st_setL (ρ' := [g16, .tp, .im (.int p2), g17, .im p4, g18, g19, .im (.int v20), g21, g22, .ow x53, g24, g25, g26, g27]) (ev_to (congrArg PyData.list h54) (ev_compQ (C := (fun i45 => (notB (eqZ (getO (Int.ofNat 0) (x_turn (asI i45))) (.ofNat 0))))) (G := (fun i45 => (andB (isI i45) (isSomeB (x_turn (asI i45)))))) (T := (fun i45 => i45)) (ρ' := fun i45 => [g16, .tp, .im (.int p2), g17, .im p4, g18, g19, .im (.int v20), g21, g22, g23, g24, g25, g26, .im i45]) (ea_cons (ev_var rfl) ea_nil) (it_0D h46) h52 h51 rfl (fun i45 h49 => tg_1 rfl) (fun _ => rfl) (fun i45 h49 => (ec_one (ev_ne (ev_call (r := Nx.rI (getO (Int.ofNat 0) (x_turn (asI i45)))) (ea_cons (ev_to (isI_eq (andB_l h49)) (ev_var rfl)) ea_nil) (call_eq (ds := [(.int (asI i45))]) e_1 (x_turn_φe (isSome_eq (z := (Int.ofNat 0)) (andB_r h49)))) rfl) ev_cst))) (fun i45 h49 h50 => (ev_var rfl)))) rfl ?_
      refine st_set (ρ' := [g16, .tp, .im (.int p2), g17, .im p4, g18, g19, .im (.int v20), g21, g22, .ow x53, .im (.int (.ofNat 1)), g25, g26, g27]) ev_cst rfl ?_
      refine ok_bnd fun x56 h55 => ?_
      refine ok_g fun h57 => ?_
      refine st_for (ea_cons (ev_call (r := Nx.rT x56) (ea_cons (ev_var rfl) ea_nil) (call_eq (ds := [(.int p2)]) e_5 (x_factors_φe h55)) (cl_T h57)) ea_nil) rfl it_0T ?_
      refine fo_L (fun ρ n => ∃ (v76 : Int) (g69 : Sl) (g70 : Sl) (g71 : Sl) (g72 : Sl) (g73 : Sl) (g74 : Sl) (g75 : Sl) (g77 : Sl) (g78 : Sl) (g79 : Sl), ρ = [g69, .tp, .im (.int p2), g70, .im p4, g71, g72, g73, g74, g75, .ow x53, .im (.int v76), g77, g78, g79] ∧ n = x_sgC_K2 p2 p4 x53 v76) (fun l ρ n => ∃ (v65 : Int) (g58 : Sl) (g59 : Sl) (g60 : Sl) (g61 : Sl) (g62 : Sl) (g63 : Sl) (g64 : Sl) (g66 : Sl) (g67 : Sl) (g68 : Sl), ρ = [g58, .tp, .im (.int p2), g59, .im p4, g60, g61, g62, g63, g64, .ow x53, .im (.int v65), g66, g67, g68] ∧ n = x_sgC_L2 p2 p4 x53 l v65) ?_ ⟨_, _, _, _, _, _, _, _, _, _, _, rfl, rfl⟩ ?_ ?_
      · rintro ρ n ⟨v76, g69, g70, g71, g72, g73, g74, g75, g77, g78, g79, rfl, rfl⟩
        unfold x_sgC_K2
        refine ok_g fun h93 => ?_
        refine st_ite (ev_dis (ev_ne (ev_blt (ea_cons (ev_varL rfl) ea_nil) bl_lenL) (ev_var rfl)) (fun t92 => (ev_ne (ev_blt (ea_cons (ev_compQ0 (G := (fun i80 => (andB (isI i80) (andB (isSomeB (x_turn (asI i80))) (andB (isI i80) (andB (isSomeB (x_turn (asI i80))) (mulQ (getO (Int.ofNat 0) (x_turn (asI i80))) (getO (Int.ofNat 0) (x_turn (asI i80)))))))))) (T := (fun i80 => (.int (mulZ (getO (Int.ofNat 0) (x_turn (asI i80))) (getO (Int.ofNat 0) (x_turn (asI i80))))))) (ρ' := fun i80 => [g69, .tp, .im (.int p2), g70, .im p4, g71, g72, g73, g74, g75, .ow x53, .im (.int v76), g77, g78, .im i80]) (ea_cons (ev_var rfl) ea_nil) (it_0D (andB_l (selF h93 t92))) (andB_l (andB_r (andB_r (selF h93 t92)))) (andB_l (andB_r (selF h93 t92))) rfl (fun i80 h87 => tg_1 rfl) (fun _ => rfl) (fun i80 h87 => (ev_mul (mulQ_eq (andB_r (andB_r (andB_r (andB_r h87))))) (ev_call (r := Nx.rI (getO (Int.ofNat 0) (x_turn (asI i80)))) (ea_cons (ev_to (isI_eq (andB_l h87)) (ev_var rfl)) ea_nil) (call_eq (ds := [(.int (asI i80))]) e_1 (x_turn_φe (isSome_eq (z := (Int.ofNat 0)) (andB_l (andB_r h87))))) rfl) (ev_call (r := Nx.rI (getO (Int.ofNat 0) (x_turn (asI i80)))) (ea_cons (ev_to (isI_eq (andB_l (andB_r (andB_r h87)))) (ev_var rfl)) ea_nil) (call_eq (ds := [(.int (asI i80))]) e_1 (x_turn_φe (isSome_eq (z := (Int.ofNat 0)) (andB_l (andB_r (andB_r (andB_r h87))))))) rfl)))) ea_nil) (bl_sum (andB_r (andB_r (andB_r (selF h93 t92)))))) (ev_var rfl)))) ?_ ?_
        · exact ok_none
        · refine ok_nil ?_
          refine nx_sq ?_
          refine ok_nil ?_
          exact seg_end (Ψ := Ψ) rfl
      · rintro hk94 ρ n ⟨v65, g58, g59, g60, g61, g62, g63, g64, g66, g67, g68, rfl, rfl⟩
        exact hk94 _ _ ⟨_, _, _, _, _, _, _, _, _, _, _, rfl, rfl⟩
      · rintro hk94 d97 l98 hi95 ρ n ⟨v65, g58, g59, g60, g61, g62, g63, g64, g66, g67, g68, rfl, rfl⟩
        show OkO _ _ _ (x_sgC_B2 p2 p4 x53 (x_sgC_L2 p2 p4 x53 l98) d97 v65)
        unfold x_sgC_B2
        refine ok_dT2 fun x99 x100 h101 => ?_
        refine ok_dInt fun x102 h103 => ?_
        refine ok_dInt fun x104 h105 => ?_
        refine fo_cons (ρ1 := [g58, .tp, .im (.int p2), g59, .im p4, g60, g61, g62, .im (.int x102), .im (.int x104), .ow x53, .im (.int v65), g66, g67, g68]) (by rw [h101, h103, h105]; rfl) ?_
        refine ok_g fun h106 => ?_
        refine ok_frcI fun x107 h108 => ?_
        refine st_set (ρ' := [g58, .tp, .im (.int p2), g59, .im p4, g60, g61, g62, .im (.int x102), .im (.int x104), .ow x53, .im (.int x107), g66, g67, g68]) (ev_to (congrArg PyData.int h108) (ev_mul (mulQ_eq h106) ev_cst (ev_var rfl))) rfl ?_
        refine ok_nil ?_
        exact nx_fp (hi95 _ _ ⟨_, _, _, _, _, _, _, _, _, _, _, rfl, rfl⟩)
  · rintro hk109 ρ n ⟨v8, g4, g5, g6, g7, g9, g10, g11, g12, g13, g14, g15, rfl, rfl⟩
    exact hk109 _ _ ⟨_, _, _, _, _, _, _, _, _, _, _, _, rfl, rfl⟩
  · rintro hk109 d112 l113 hi110 ρ n ⟨v8, g4, g5, g6, g7, g9, g10, g11, g12, g13, g14, g15, rfl, rfl⟩
    show OkO _ _ _ (x_sgC_B1 p2 p4 (x_sgC_L1 p2 p4 l113) d112 v8)
    unfold x_sgC_B1
    refine ok_dT2 fun x114 x115 h116 => ?_
    refine ok_dInt fun x117 h118 => ?_
    refine ok_dInt fun x119 h120 => ?_
    refine fo_cons (ρ1 := [g4, .tp, .im (.int p2), g5, .im p4, g6, g7, .im (.int v8), .im (.int x117), .im (.int x119), g11, g12, g13, g14, g15]) (by rw [h116, h118, h120]; rfl) ?_
    refine ok_g fun h121 => ?_
    refine ok_frcI fun x122 h123 => ?_
    refine st_set (ρ' := [g4, .tp, .im (.int p2), g5, .im p4, g6, g7, .im (.int x122), .im (.int x117), .im (.int x119), g11, g12, g13, g14, g15]) (ev_to (congrArg PyData.int h123) (ev_mul (mulQ_eq h121) (ev_var rfl) (ev_add (ev_var rfl) ev_cst))) rfl ?_
    refine ok_bnd fun x125 h124 => ?_
    refine ok_g fun h126 => ?_
    refine ok_bnd fun x128 h127 => ?_
    refine ok_g fun h129 => ?_
    refine ok_g fun h132 => ?_
    refine st_ite (ev_dis (ev_cmp (x := x128) (y := (.int x119)) (ev_idx (ev_call (r := Nx.rT x125) (ea_cons (ev_var rfl) (ea_cons (ev_var rfl) ea_nil)) (call_eq (ds := [(.int p2), (.int x117)]) e_14 (x_valuation_φe h124)) (cl_T h126)) ev_cst (ix_T h127)) (ev_var rfl) (cmpD_ne h129 rfl)) (fun t131 => (ev_notB (ev_call (r := Nx.rB (getO false (x_is_prime x117))) (ea_cons (ev_var rfl) ea_nil) (call_eq (ds := [(.int x117)]) e_10 (x_is_prime_φe (isSome_eq (z := false) (selF h132 t131)))) rfl) ev_cst))) ?_ ?_
    · exact ok_none
    · refine ok_nil ?_
      refine nx_sq ?_
      refine ok_nil ?_
      exact nx_fp (hi110 _ _ ⟨_, _, _, _, _, _, _, _, _, _, _, _, rfl, rfl⟩)
open Nx
noncomputable def x_sgD_K1 (p12 : Int) (v26 : Int) : Option (Bool) := (iteB (iteB (eqZ v26 (.ofNat 1)) (andB (isSomeB (x_sieve p12)) (andB (nlL (getO ([] : List Ev.D) (x_sieve p12))) (andB (rfB (.ofNat 2) (addZ p12 (.ofNat 1))) (andB (Nat.ble (natZ (subZ (addZ p12 (.ofNat 1)) (.ofNat 2))) 16777215) (allR (fun i30 => (andB (isSomeB (x_divisors i30)) (nlL (getO ([] : List Ev.D) (x_divisors i30))))) (natZ (subZ (addZ p12 (.ofNat 1)) (.ofNat 2))) (.ofNat 2)))))) true) (frcB (iteB (eqZ v26 (.ofNat 1)) (eqZ (lenZ (getO ([] : List Ev.D) (x_sieve p12))) (lenZ (fltR (fun i30 => (eqZ (lenZ (getO ([] : List Ev.D) (x_divisors i30))) (.ofNat 2))) (fun i30 => (.int i30)) (natZ (subZ (addZ p12 (.ofNat 1)) (.ofNat 2))) (.ofNat 2)))) false) fun x40 => (some x40)) none)
noncomputable def x_sgD_B1 (p12 : Int) (ih1 : Int → Option (Bool)) (i45 : Int) (v13 : Int) : Option (Bool) := (frcI i45 fun x46 => (bndO (x_turn x46) fun x49 => (iteB (divQ x46) (iteB (mulQ x49 (fdivZ p12 x46)) (frcI (addZ v13 (mulZ x49 (fdivZ p12 x46))) fun x52 => (ih1 x52)) none) none)))
noncomputable def x_sgD_L1 (p12 : Int) (m : Nat) : Int → Int → Option (Bool) := @Nat.rec (fun _ => Int → Int → Option (Bool)) (fun _ v13 => (x_sgD_K1 p12 v13)) (fun _ ih i => x_sgD_B1 p12 (ih (addZ i (.ofNat 1))) i) m
noncomputable def x_sgD (p12 : Int) : Option (Bool) := (iteB (rfB (.ofNat 1) (addZ p12 (.ofNat 1))) (x_sgD_L1 p12 (natZ (subZ (addZ p12 (.ofNat 1)) (.ofNat 1))) (.ofNat 1) (.ofNat 0)) none)
set_option maxHeartbeats 0 in
theorem x_sgD_ok {Φ : Nat → List Ev.D → Option Ev.R} {Ψ : Nat → List Ev.D → Tp → Option (Ev.R × Tp)} {τ : Tp} (e_0 : Φ 0 = u_sieve_φ) (e_1 : Φ 1 = u_turn_φ) (e_4 : Φ 4 = u_divisors_φ) (p12 : Int) (s0 s2 s3 s4 s5 s6 s7 s8 s9 s10 s11 s13 s14 : Sl) : OkO Nx.rB (evSs Φ Ψ 1000 [s0, .tp, s2, s3, s4, s5, s6, s7, s8, s9, s10, s11, .im (.int p12), s13, s14] τ ((u_law_code.drop 19).take 3)) retOf (x_sgD p12) := by
  unfold x_sgD
  show OkO Nx.rB (evSs Φ Ψ _ _ τ [(.set (.nm 13) (.cst (.int 0))), (.for_ (.nm 14) 2 [((.cst (.int 1))), ((.bin .add (.var 12) (.cst (.int 1))))] [(.set (.nm 13) (.bin .add (.var 13) (.bin .mul (.call 1 [((.var 14))]) (.bin .fdiv (.var 12) (.var 14)))))]), (.ret (.con (.cmp .eq (.var 13) (.cst (.int 1))) (.cmp .eq (.blt .len [((.call 0 [((.var 12))]))]) (.blt .len [((.comp (.var 14) (.nm 14) 2 [((.cst (.int 2))), ((.bin .add (.var 12) (.cst (.int 1))))] [((.cmp .eq (.blt .len [((.call 4 [((.var 14))]))]) (.cst (.int 2))))]))]))))]) _ _
  refine st_set (ρ' := [s0, .tp, s2, s3, s4, s5, s6, s7, s8, s9, s10, s11, .im (.int p12), .im (.int (.ofNat 0)), s14]) ev_cst rfl ?_
  refine ok_g fun h1 => ?_
  refine st_for (ea_cons ev_cst (ea_cons (ev_add (ev_var rfl) ev_cst) ea_nil)) rfl (it_2 h1) ?_
  refine fo_R (fun ρ n => ∃ (v26 : Int) (g15 : Sl) (g16 : Sl) (g17 : Sl) (g18 : Sl) (g19 : Sl) (g20 : Sl) (g21 : Sl) (g22 : Sl) (g23 : Sl) (g24 : Sl) (g25 : Sl) (g27 : Sl), ρ = [g15, .tp, g16, g17, g18, g19, g20, g21, g22, g23, g24, g25, .im (.int p12), .im (.int v26), g27] ∧ n = x_sgD_K1 p12 v26) (fun m i ρ n => ∃ (v13 : Int) (g2 : Sl) (g3 : Sl) (g4 : Sl) (g5 : Sl) (g6 : Sl) (g7 : Sl) (g8 : Sl) (g9 : Sl) (g10 : Sl) (g11 : Sl) (g12 : Sl) (g14 : Sl), ρ = [g2, .tp, g3, g4, g5, g6, g7, g8, g9, g10, g11, g12, .im (.int p12), .im (.int v13), g14] ∧ n = x_sgD_L1 p12 m i v13) ?_ ⟨_, _, _, _, _, _, _, _, _, _, _, _, _, rfl, rfl⟩ ?_ ?_
  · rintro ρ n ⟨v26, g15, g16, g17, g18, g19, g20, g21, g22, g23, g24, g25, g27, rfl, rfl⟩
    unfold x_sgD_K1
    refine ok_g fun h39 => ?_
    refine ok_frcB fun x40 h41 => ?_
    refine st_ret (ev_to (congrArg PyData.bool h41) (ev_con (ev_eq (ev_var rfl) ev_cst) (fun t38 => (ev_eq (ev_blt (ea_cons (ev_call (r := Nx.rT (getO ([] : List Ev.D) (x_sieve p12))) (ea_cons (ev_var rfl) ea_nil) (call_eq (ds := [(.int p12)]) e_0 (x_sieve_φe (isSome_eq (z := ([] : List Ev.D)) (andB_l (selT h39 t38))))) (cl_T (andB_l (andB_r (selT h39 t38))))) ea_nil) bl_lenT) (ev_blt (ea_cons (ev_compR (C := (fun i30 => (eqZ (lenZ (getO ([] : List Ev.D) (x_divisors i30))) (.ofNat 2)))) (G := (fun i30 => (andB (isSomeB (x_divisors i30)) (nlL (getO ([] : List Ev.D) (x_divisors i30)))))) (T := (fun i30 => (.int i30))) (ρ' := fun i30 => [g15, .tp, g16, g17, g18, g19, g20, g21, g22, g23, g24, g25, .im (.int p12), .im (.int v26), .im (.int i30)]) (ea_cons ev_cst (ea_cons (ev_add (ev_var rfl) ev_cst) ea_nil)) (it_2 (andB_l (andB_r (andB_r (selT h39 t38))))) (andB_l (andB_r (andB_r (andB_r (selT h39 t38))))) (andB_r (andB_r (andB_r (andB_r (selT h39 t38))))) rfl (fun _ => rfl) (fun _ => rfl) (fun i30 h35 => (ec_one (ev_eq (ev_blt (ea_cons (ev_call (r := Nx.rT (getO ([] : List Ev.D) (x_divisors i30))) (ea_cons (ev_var rfl) ea_nil) (call_eq (ds := [(.int i30)]) e_4 (x_divisors_φe (isSome_eq (z := ([] : List Ev.D)) (andB_l h35)))) (cl_T (andB_r h35))) ea_nil) bl_lenT) ev_cst))) (fun i30 h35 h36 => (ev_var rfl))) ea_nil) bl_lenL))))) rfl ?_
    exact rt_end rfl
  · rintro hk42 i ρ n ⟨v13, g2, g3, g4, g5, g6, g7, g8, g9, g10, g11, g12, g14, rfl, rfl⟩
    exact hk42 _ _ ⟨_, _, _, _, _, _, _, _, _, _, _, _, _, rfl, rfl⟩
  · rintro hk42 m44 i45 hi43 ρ n ⟨v13, g2, g3, g4, g5, g6, g7, g8, g9, g10, g11, g12, g14, rfl, rfl⟩
    show OkO _ _ _ (x_sgD_B1 p12 (x_sgD_L1 p12 m44 (addZ i45 (.ofNat 1))) i45 v13)
    unfold x_sgD_B1
    refine ok_frcI fun x46 h47 => ?_
    refine fo_cons (ρ1 := [g2, .tp, g3, g4, g5, g6, g7, g8, g9, g10, g11, g12, .im (.int p12), .im (.int v13), .im (.int x46)]) (by rw [h47]; rfl) ?_
    refine ok_bnd fun x49 h48 => ?_
    refine ok_g fun h50 => ?_
    refine ok_g fun h51 => ?_
    refine ok_frcI fun x52 h53 => ?_
    refine st_set (ρ' := [g2, .tp, g3, g4, g5, g6, g7, g8, g9, g10, g11, g12, .im (.int p12), .im (.int x52), .im (.int x46)]) (ev_to (congrArg PyData.int h53) (ev_add (ev_var rfl) (ev_mul (mulQ_eq h51) (ev_call (r := Nx.rI x49) (ea_cons (ev_var rfl) ea_nil) (call_eq (ds := [(.int x46)]) e_1 (x_turn_φe h48)) rfl) (ev_fdiv (divQ_eq h50) (ev_var rfl) (ev_var rfl))))) rfl ?_
    refine ok_nil ?_
    exact nx_fp (hi43 _ _ ⟨_, _, _, _, _, _, _, _, _, _, _, _, _, rfl, rfl⟩)
/-! the tape -/
abbrev beg_st : Stmt := topS 27
theorem beg_sc : FnScope ["script", "seed", "cell"] ["script"] (defScope beg_st) := ⟨rfl, rfl, rfl, by decide +kernel, rfl, by decide +kernel, by decide +kernel⟩
abbrev tak_st : Stmt := topS 28
theorem tak_sc : FnScope ["d", "many", "small", "digit"] ["d", "many"] (defScope tak_st) := ⟨rfl, rfl, rfl, by decide +kernel, rfl, by decide +kernel, by decide +kernel⟩
section
variable {P : Program} {w : World} {K : PySem.W.Frag} {mg : Str → Option Value} {base : Heap}
theorem beg_ok {f : Addr} {fd : FuncData} (F : Fun K "_law_begin" "_law_begin" beg_st f fd) (mi : mg "int" = none) (ml : mg "list" = none) : FnOk P w K mg base CX0 1 f fd ["script"] (spBegin K) := by
  refine F.ok beg_sc (fun vs H Q E h => ?_) (fun cdv A outer s H vs Q E hr h => ⟨tBegin K, ?_, begin_run rfl h⟩)
  · obtain ⟨a, ns, rfl, _⟩ := h
    rfl
  · exact pss_cons (ps_set (i := 1) beg_sc.nd rfl (.inl rfl) pe_int)
      (pss_cons (ps_for PassesOwn.never rfl (pi_list (pv 0)) (pg_name (i := 2) beg_sc.nd rfl (.inl rfl)) (pss_one (ps_set (i := 1) beg_sc.nd rfl (.inl rfl)
        (pe_op op_modN (pe_op op_add (pe_op op_add (pe_op op_mul (pv 1) pe_int) (pe_op op_modN (pe_callTy call_int1 (by rfl) mi PyProof.Rows.boot_int (pa_cons (pv 2) pa_nil)) pe_int)) pe_int) pe_int))))
      (pss_one (ps_ret (pe_lst (pa_cons (pe_callTy call_list_of (by rfl) ml PyProof.Rows.boot_list (pa_cons (pv 0) pa_nil)) (pa_cons pe_int (pa_cons pe_int (pa_cons (pv 1) pa_nil))))))))
theorem tak_ok {f : Addr} {fd : FuncData} (F : Fun K "_law_take" "_law_take" tak_st f fd) (mi : mg "int" = none) (ma : mg "abs" = none) (ml : mg "len" = none) : FnOk P w K mg base CX0 1 f fd ["d", "many"] (spT K takeF) := by
  refine F.ok tak_sc (fun vs H Q E h => ?_) (fun cdv A outer s H vs Q E hr h => ⟨tTake K, ?_, ?_⟩)
  · obtain ⟨a, b, vs', ds, τ, r, τ', rfl, _, h1, h2, _⟩ := h
    unfold takeF at h2
    split at h2
    · show vs'.length + 1 = 2
      rw [h1.length]
      rfl
    · cases h2
  · have ix : ∀ {X : Cx} {a : Expr} {ta : TE} {i : Int} {k : Nat} {p q : Pos}, PE X a ta → PE X (.Subscript a (.Constant (.int i) k p) q) (tOp (rIx X.K) ta (tC (.int i))) := fun h => pe_ix ix_seq h pe_int (fun _ _ => rfl)
    exact pss_cons (ps_if (PW.pt (pw_and (pt_cmpR op_eq (ix (pv 0)) pe_int (nomark _)) (pw_and1 (pt_cmpR op_lt (ix (pv 0)) (pe_callB call_len_seq (by rfl) ml PySem.boot_len (pa_cons (ix (pv 0)) pa_nil)) (nomark _)))))
        (pss_cons (ps_asg (pe_callB call_abs (by rfl) ma PyProof.Rows.boot_abs (pa_cons (pe_callTy call_int1 (by rfl) mi PyProof.Rows.boot_int (pa_cons (pe_ix ix_seq (ix (pv 0)) (ix (pv 0)) (fun _ _ => rfl)) pa_nil)) pa_nil)) (pg_sub (pv 0) pe_int set_list))
        (pss_cons (ps_asg (pe_op op_add (ix (pv 0)) pe_int) (pg_sub (pv 0) pe_int set_list))
        (pss_one (ps_if (pt_cmpR op_lt (ix (pv 0)) (pe_op op_pow pe_int pe_int) (nomark _))
          (pss_cons (ps_set (i := 2) tak_sc.nd rfl (.inl rfl) (pe_callTy call_int1 (by rfl) mi PyProof.Rows.boot_int (pa_cons (ix (pv 0)) pa_nil)))
          (pss_cons (ps_asg pe_int (pg_sub (pv 0) pe_int set_list))
          (pss_one (ps_ret (pe_op op_modN (pv 2) (pv 1)))))) pss_nil)))) pss_nil)
      (pss_cons (ps_if (pt_cmpR op_gt (ix (pv 0)) pe_int (nomark _))
        (pss_cons (ps_set (i := 3) tak_sc.nd rfl (.inl rfl) (pe_op op_modN (pe_callTy call_int1 (by rfl) mi PyProof.Rows.boot_int (pa_cons (ix (pv 0)) pa_nil)) (pv 1)))
        (pss_cons (ps_asg (pe_op op_fdivN (pe_callTy call_int1 (by rfl) mi PyProof.Rows.boot_int (pa_cons (ix (pv 0)) pa_nil)) (pv 1)) (pg_sub (pv 0) pe_int set_list))
        (pss_one (ps_ret (pv 3))))) pss_nil)
      (pss_cons (ps_asg (pe_op op_modN (pe_callTy call_int1 (by rfl) mi PyProof.Rows.boot_int (pa_cons (pe_op op_add (pe_op op_mul (ix (pv 0)) pe_int) pe_int) pa_nil)) pe_int) (pg_sub (pv 0) pe_int set_list))
      (pss_one (ps_ret (pe_op op_modN (pe_callTy call_int1 (by rfl) mi PyProof.Rows.boot_int (pa_cons (pe_op op_fdivN (ix (pv 0)) pe_int) pa_nil)) (pv 1))))))
  · obtain ⟨a, b, vs', ds, τ, r, τ', rfl, ht, h1, h2, hcl, hQ⟩ := h
    unfold takeF at h2
    split at h2
    · rename_i m
      split at h2
      · rename_i hm
        cases h2
        obtain ⟨x, r, rfl, e2, rfl⟩ := h1
        have e2' : x = V.int m := e2
        subst e2'
        exact take_run ht hm fun H' s1 t1 => hQ _ H' s1 t1 rfl
      · cases h2
    · cases h2
end
/-! the law, from what its statements come to -/
def LawHolds : Prop := ∀ (ns : List Int) (seed : Int), ∃ M τ', evSs (Φof u_law_φs) (Ψof [takeF]) M (.un :: .tp :: List.replicate 13 .un) ⟨ns, 0, 0, seed⟩ u_law_code = some (.rt ⟨.S, .bool true⟩ τ')
set_option maxHeartbeats 0 in
theorem all_mk {l : PySem.W.OpenLaw} {w : World} {K : PySem.W.Frag} {h : Heap} {mg : Str → Option Value} {fa f0 f1 f2 f3 f4 f5 f6 f7 f8 f9 f10 f11 f12 f13 f14 f15 f16 f17 f18 f19 f20 f21 f22 : Addr} (hL : LawHolds) (X : K.In h) (G : h.Ns mainGlobals mg) (hfa : mg "law" = some (.ref fa))
    {od0 an0 od1 an1 od2 an2 od3 an3 od4 an4 od5 an5 od6 an6 od7 an7 od8 an8 od9 an9 od10 an10 od11 an11 od12 an12 od13 an13 od14 an14 od15 an15 od16 an16 od17 an17 od18 an18 od19 an19 od20 an20 od21 an21 od22 an22 : Option Addr} {sl0 sl1 sl2 sl3 sl4 sl5 sl6 sl7 sl8 sl9 sl10 sl11 sl12 sl13 sl14 sl15 sl16 sl17 sl18 sl19 sl20 sl21 sl22 : Array (Option Value)} {oc0 kV0 dc0 pm0 cd0 ct0 oc1 kV1 dc1 pm1 cd1 ct1 oc2 kV2 dc2 pm2 cd2 ct2 oc3 kV3 dc3 pm3 cd3 ct3 oc4 kV4 dc4 pm4 cd4 ct4 oc5 kV5 dc5 pm5 cd5 ct5 oc6 kV6 dc6 pm6 cd6 ct6 oc7 kV7 dc7 pm7 cd7 ct7 oc8 kV8 dc8 pm8 cd8 ct8 oc9 kV9 dc9 pm9 cd9 ct9 oc10 kV10 dc10 pm10 cd10 ct10 oc11 kV11 dc11 pm11 cd11 ct11 oc12 kV12 dc12 pm12 cd12 ct12 oc13 kV13 dc13 pm13 cd13 ct13 oc14 kV14 dc14 pm14 cd14 ct14 oc15 kV15 dc15 pm15 cd15 ct15 oc16 kV16 dc16 pm16 cd16 ct16 oc17 kV17 dc17 pm17 cd17 ct17 oc18 kV18 dc18 pm18 cd18 ct18 oc19 kV19 dc19 pm19 cd19 ct19 oc20 kV20 dc20 pm20 cd20 ct20 oc21 kV21 dc21 pm21 cd21 ct21 oc22 kV22 dc22 pm22 cd22 ct22 : Value}
    (a0 : PySem.W.nsIn K mainGlobals "common" = some (some (.ref f0)))
    (l0 : K.lookup f0 = some ⟨oc0, od0, .func (PySem.W.fnOf "common" "common" (defArgs u_common_st) (defBody u_common_st) (defScope u_common_st) .none kV0 dc0 pm0 an0 cd0 ct0), sl0⟩) (c0 : PySem.W.codeIn K cd0 "common" = true) (k0 : PySem.W.keepIn K (.ref f0) = true)
    (a1 : PySem.W.nsIn K mainGlobals "gcd_of" = some (some (.ref f1)))
    (l1 : K.lookup f1 = some ⟨oc1, od1, .func (PySem.W.fnOf "gcd_of" "gcd_of" (defArgs u_gcd_of_st) (defBody u_gcd_of_st) (defScope u_gcd_of_st) .none kV1 dc1 pm1 an1 cd1 ct1), sl1⟩) (c1 : PySem.W.codeIn K cd1 "gcd_of" = true) (k1 : PySem.W.keepIn K (.ref f1) = true)
    (a2 : PySem.W.nsIn K mainGlobals "lcm_of" = some (some (.ref f2)))
    (l2 : K.lookup f2 = some ⟨oc2, od2, .func (PySem.W.fnOf "lcm_of" "lcm_of" (defArgs u_lcm_of_st) (defBody u_lcm_of_st) (defScope u_lcm_of_st) .none kV2 dc2 pm2 an2 cd2 ct2), sl2⟩) (c2 : PySem.W.codeIn K cd2 "lcm_of" = true) (k2 : PySem.W.keepIn K (.ref f2) = true)
    (a3 : PySem.W.nsIn K mainGlobals "power" = some (some (.ref f3)))
    (l3 : K.lookup f3 = some ⟨oc3, od3, .func (PySem.W.fnOf "power" "power" (defArgs u_power_st) (defBody u_power_st) (defScope u_power_st) .none kV3 dc3 pm3 an3 cd3 ct3), sl3⟩) (c3 : PySem.W.codeIn K cd3 "power" = true) (k3 : PySem.W.keepIn K (.ref f3) = true)
    (a4 : PySem.W.nsIn K mainGlobals "tower" = some (some (.ref f4)))
    (l4 : K.lookup f4 = some ⟨oc4, od4, .func (PySem.W.fnOf "tower" "tower" (defArgs u_tower_st) (defBody u_tower_st) (defScope u_tower_st) .none kV4 dc4 pm4 an4 cd4 ct4), sl4⟩) (c4 : PySem.W.codeIn K cd4 "tower" = true) (k4 : PySem.W.keepIn K (.ref f4) = true)
    (a5 : PySem.W.nsIn K mainGlobals "valuation" = some (some (.ref f5)))
    (l5 : K.lookup f5 = some ⟨oc5, od5, .func (PySem.W.fnOf "valuation" "valuation" (defArgs u_valuation_st) (defBody u_valuation_st) (defScope u_valuation_st) .none kV5 dc5 pm5 an5 cd5 ct5), sl5⟩) (c5 : PySem.W.codeIn K cd5 "valuation" = true) (k5 : PySem.W.keepIn K (.ref f5) = true)
    (a6 : PySem.W.nsIn K mainGlobals "check_number" = some (some (.ref f6)))
    (l6 : K.lookup f6 = some ⟨oc6, od6, .func (PySem.W.fnOf "check_number" "check_number" (defArgs u_check_number_st) (defBody u_check_number_st) (defScope u_check_number_st) .none kV6 dc6 pm6 an6 cd6 ct6), sl6⟩) (c6 : PySem.W.codeIn K cd6 "check_number" = true) (k6 : PySem.W.keepIn K (.ref f6) = true)
    (a7 : PySem.W.nsIn K mainGlobals "has_witness" = some (some (.ref f7)))
    (l7 : K.lookup f7 = some ⟨oc7, od7, .func (PySem.W.fnOf "has_witness" "has_witness" (defArgs u_has_witness_st) (defBody u_has_witness_st) (defScope u_has_witness_st) .none kV7 dc7 pm7 an7 cd7 ct7), sl7⟩) (c7 : PySem.W.codeIn K cd7 "has_witness" = true) (k7 : PySem.W.keepIn K (.ref f7) = true)
    (a8 : PySem.W.nsIn K mainGlobals "prime" = some (some (.ref f8)))
    (l8 : K.lookup f8 = some ⟨oc8, od8, .func (PySem.W.fnOf "prime" "prime" (defArgs u_prime_st) (defBody u_prime_st) (defScope u_prime_st) .none kV8 dc8 pm8 an8 cd8 ct8), sl8⟩) (c8 : PySem.W.codeIn K cd8 "prime" = true) (k8 : PySem.W.keepIn K (.ref f8) = true)
    (a9 : PySem.W.nsIn K mainGlobals "is_prime" = some (some (.ref f9)))
    (l9 : K.lookup f9 = some ⟨oc9, od9, .func (PySem.W.fnOf "is_prime" "is_prime" (defArgs u_is_prime_st) (defBody u_is_prime_st) (defScope u_is_prime_st) .none kV9 dc9 pm9 an9 cd9 ct9), sl9⟩) (c9 : PySem.W.codeIn K cd9 "is_prime" = true) (k9 : PySem.W.keepIn K (.ref f9) = true)
    (a10 : PySem.W.nsIn K mainGlobals "small_divisor" = some (some (.ref f10)))
    (l10 : K.lookup f10 = some ⟨oc10, od10, .func (PySem.W.fnOf "small_divisor" "small_divisor" (defArgs u_small_divisor_st) (defBody u_small_divisor_st) (defScope u_small_divisor_st) .none kV10 dc10 pm10 an10 cd10 ct10), sl10⟩) (c10 : PySem.W.codeIn K cd10 "small_divisor" = true) (k10 : PySem.W.keepIn K (.ref f10) = true)
    (a11 : PySem.W.nsIn K mainGlobals "divisor_of" = some (some (.ref f11)))
    (l11 : K.lookup f11 = some ⟨oc11, od11, .func (PySem.W.fnOf "divisor_of" "divisor_of" (defArgs u_divisor_of_st) (defBody u_divisor_of_st) (defScope u_divisor_of_st) .none kV11 dc11 pm11 an11 cd11 ct11), sl11⟩) (c11 : PySem.W.codeIn K cd11 "divisor_of" = true) (k11 : PySem.W.keepIn K (.ref f11) = true)
    (a12 : PySem.W.nsIn K mainGlobals "prime_parts" = some (some (.ref f12)))
    (l12 : K.lookup f12 = some ⟨oc12, od12, .func (PySem.W.fnOf "prime_parts" "prime_parts" (defArgs u_prime_parts_st) (defBody u_prime_parts_st) (defScope u_prime_parts_st) .none kV12 dc12 pm12 an12 cd12 ct12), sl12⟩) (c12 : PySem.W.codeIn K cd12 "prime_parts" = true) (k12 : PySem.W.keepIn K (.ref f12) = true)
    (a13 : PySem.W.nsIn K mainGlobals "powers_in" = some (some (.ref f13)))
    (l13 : K.lookup f13 = some ⟨oc13, od13, .func (PySem.W.fnOf "powers_in" "powers_in" (defArgs u_powers_in_st) (defBody u_powers_in_st) (defScope u_powers_in_st) .none kV13 dc13 pm13 an13 cd13 ct13), sl13⟩) (c13 : PySem.W.codeIn K cd13 "powers_in" = true) (k13 : PySem.W.keepIn K (.ref f13) = true)
    (a14 : PySem.W.nsIn K mainGlobals "factors" = some (some (.ref f14)))
    (l14 : K.lookup f14 = some ⟨oc14, od14, .func (PySem.W.fnOf "factors" "factors" (defArgs u_factors_st) (defBody u_factors_st) (defScope u_factors_st) .none kV14 dc14 pm14 an14 cd14 ct14), sl14⟩) (c14 : PySem.W.codeIn K cd14 "factors" = true) (k14 : PySem.W.keepIn K (.ref f14) = true)
    (a15 : PySem.W.nsIn K mainGlobals "divisors" = some (some (.ref f15)))
    (l15 : K.lookup f15 = some ⟨oc15, od15, .func (PySem.W.fnOf "divisors" "divisors" (defArgs u_divisors_st) (defBody u_divisors_st) (defScope u_divisors_st) .none kV15 dc15 pm15 an15 cd15 ct15), sl15⟩) (c15 : PySem.W.codeIn K cd15 "divisors" = true) (k15 : PySem.W.keepIn K (.ref f15) = true)
    (a16 : PySem.W.nsIn K mainGlobals "units" = some (some (.ref f16)))
    (l16 : K.lookup f16 = some ⟨oc16, od16, .func (PySem.W.fnOf "units" "units" (defArgs u_units_st) (defBody u_units_st) (defScope u_units_st) .none kV16 dc16 pm16 an16 cd16 ct16), sl16⟩) (c16 : PySem.W.codeIn K cd16 "units" = true) (k16 : PySem.W.keepIn K (.ref f16) = true)
    (a17 : PySem.W.nsIn K mainGlobals "sum_of_divisors" = some (some (.ref f17)))
    (l17 : K.lookup f17 = some ⟨oc17, od17, .func (PySem.W.fnOf "sum_of_divisors" "sum_of_divisors" (defArgs u_sum_of_divisors_st) (defBody u_sum_of_divisors_st) (defScope u_sum_of_divisors_st) .none kV17 dc17 pm17 an17 cd17 ct17), sl17⟩) (c17 : PySem.W.codeIn K cd17 "sum_of_divisors" = true) (k17 : PySem.W.keepIn K (.ref f17) = true)
    (a18 : PySem.W.nsIn K mainGlobals "turn" = some (some (.ref f18)))
    (l18 : K.lookup f18 = some ⟨oc18, od18, .func (PySem.W.fnOf "turn" "turn" (defArgs u_turn_st) (defBody u_turn_st) (defScope u_turn_st) .none kV18 dc18 pm18 an18 cd18 ct18), sl18⟩) (c18 : PySem.W.codeIn K cd18 "turn" = true) (k18 : PySem.W.keepIn K (.ref f18) = true)
    (a19 : PySem.W.nsIn K mainGlobals "sieve" = some (some (.ref f19)))
    (l19 : K.lookup f19 = some ⟨oc19, od19, .func (PySem.W.fnOf "sieve" "sieve" (defArgs u_sieve_st) (defBody u_sieve_st) (defScope u_sieve_st) .none kV19 dc19 pm19 an19 cd19 ct19), sl19⟩) (c19 : PySem.W.codeIn K cd19 "sieve" = true) (k19 : PySem.W.keepIn K (.ref f19) = true)
    (a20 : PySem.W.nsIn K mainGlobals "_law_begin" = some (some (.ref f20)))
    (l20 : K.lookup f20 = some ⟨oc20, od20, .func (PySem.W.fnOf "_law_begin" "_law_begin" (defArgs beg_st) (defBody beg_st) (defScope beg_st) .none kV20 dc20 pm20 an20 cd20 ct20), sl20⟩) (c20 : PySem.W.codeIn K cd20 "_law_begin" = true) (k20 : PySem.W.keepIn K (.ref f20) = true)
    (a21 : PySem.W.nsIn K mainGlobals "_law_take" = some (some (.ref f21)))
    (l21 : K.lookup f21 = some ⟨oc21, od21, .func (PySem.W.fnOf "_law_take" "_law_take" (defArgs tak_st) (defBody tak_st) (defScope tak_st) .none kV21 dc21 pm21 an21 cd21 ct21), sl21⟩) (c21 : PySem.W.codeIn K cd21 "_law_take" = true) (k21 : PySem.W.keepIn K (.ref f21) = true)
    (a22 : PySem.W.nsIn K mainGlobals "law" = some (some (.ref f22)))
    (l22 : K.lookup f22 = some ⟨oc22, od22, .func (PySem.W.fnOf "law" "law" (defArgs u_law_st) (defBody u_law_st) (defScope u_law_st) .none kV22 dc22 pm22 an22 cd22 ct22), sl22⟩) (c22 : PySem.W.codeIn K cd22 "law" = true) (k22 : PySem.W.keepIn K (.ref f22) = true)
    (z_abs : PySem.W.nsIn K mainGlobals "abs" = some none)
    (z_any : PySem.W.nsIn K mainGlobals "any" = some none)
    (z_int : PySem.W.nsIn K mainGlobals "int" = some none)
    (z_len : PySem.W.nsIn K mainGlobals "len" = some none)
    (z_list : PySem.W.nsIn K mainGlobals "list" = some none)
    (z_range : PySem.W.nsIn K mainGlobals "range" = some none)
    (z_sorted : PySem.W.nsIn K mainGlobals "sorted" = some none)
    (z_sum : PySem.W.nsIn K mainGlobals "sum" = some none)
    (z_tuple : PySem.W.nsIn K mainGlobals "tuple" = some none)
    {g_BASES : Addr} {n_BASES : Nat} {o1_BASES : Option Addr} {o2_BASES : Array (Option Value)} {t0_BASES : Tok} {t1_BASES : Tok} {t2_BASES : Tok} {t3_BASES : Tok} {t4_BASES : Tok} {t5_BASES : Tok} {t6_BASES : Tok} {t7_BASES : Tok} {t8_BASES : Tok} {t9_BASES : Tok} {t10_BASES : Tok} {t11_BASES : Tok} (q_BASES : PySem.W.nsIn K mainGlobals "BASES" = some (some (.ref g_BASES))) (r_BASES : K.lookup g_BASES = some ⟨.type "tuple", o1_BASES, .seq #[.int 2 t0_BASES, .int 3 t1_BASES, .int 5 t2_BASES, .int 7 t3_BASES, .int 11 t4_BASES, .int 13 t5_BASES, .int 17 t6_BASES, .int 19 t7_BASES, .int 23 t8_BASES, .int 29 t9_BASES, .int 31 t10_BASES, .int 37 t11_BASES] n_BASES, o2_BASES⟩)
    {t_MOST : Tok} (q_MOST : PySem.W.nsIn K mainGlobals "MOST" = some (some (.int 100000000000000 t_MOST)))
    : ∃ fd : FuncData, (∀ (s : Shared) (v : Value), BindsTo s fd ⟨[v], []⟩ [("script", v)]) ∧ ∀ base : Heap, K.In base → base.Ns mainGlobals mg → FnOk l.prog w K mg base CX0 21 fa fd ["script"] (spLaw K) := by
  have e := hfa.symm.trans (PySem.W.mg_of X G a22)
  cases e
  have F0 := fun_mk (st := u_common_st) l0 c0 k0
  have b0 := F0.binds (ps := ["one", "other"]) fun _ _ _ _ _ _ us hl => match us, hl with | [_, _], _ => rfl
  have m0 := PySem.W.mg_of X G a0
  have F1 := fun_mk (st := u_gcd_of_st) l1 c1 k1
  have b1 := F1.binds (ps := ["numbers"]) fun _ _ _ _ _ _ us hl => match us, hl with | [_], _ => rfl
  have m1 := PySem.W.mg_of X G a1
  have F2 := fun_mk (st := u_lcm_of_st) l2 c2 k2
  have b2 := F2.binds (ps := ["numbers"]) fun _ _ _ _ _ _ us hl => match us, hl with | [_], _ => rfl
  have m2 := PySem.W.mg_of X G a2
  have F3 := fun_mk (st := u_power_st) l3 c3 k3
  have b3 := F3.binds (ps := ["base", "times", "whole"]) fun _ _ _ _ _ _ us hl => match us, hl with | [_, _, _], _ => rfl
  have m3 := PySem.W.mg_of X G a3
  have F4 := fun_mk (st := u_tower_st) l4 c4 k4
  have b4 := F4.binds (ps := ["base", "times"]) fun _ _ _ _ _ _ us hl => match us, hl with | [_, _], _ => rfl
  have m4 := PySem.W.mg_of X G a4
  have F5 := fun_mk (st := u_valuation_st) l5 c5 k5
  have b5 := F5.binds (ps := ["number", "base"]) fun _ _ _ _ _ _ us hl => match us, hl with | [_, _], _ => rfl
  have m5 := PySem.W.mg_of X G a5
  have F6 := fun_mk (st := u_check_number_st) l6 c6 k6
  have b6 := F6.binds (ps := ["number"]) fun _ _ _ _ _ _ us hl => match us, hl with | [_], _ => rfl
  have m6 := PySem.W.mg_of X G a6
  have F7 := fun_mk (st := u_has_witness_st) l7 c7 k7
  have b7 := F7.binds (ps := ["number", "base"]) fun _ _ _ _ _ _ us hl => match us, hl with | [_, _], _ => rfl
  have m7 := PySem.W.mg_of X G a7
  have F8 := fun_mk (st := u_prime_st) l8 c8 k8
  have b8 := F8.binds (ps := ["number"]) fun _ _ _ _ _ _ us hl => match us, hl with | [_], _ => rfl
  have m8 := PySem.W.mg_of X G a8
  have F9 := fun_mk (st := u_is_prime_st) l9 c9 k9
  have b9 := F9.binds (ps := ["number"]) fun _ _ _ _ _ _ us hl => match us, hl with | [_], _ => rfl
  have m9 := PySem.W.mg_of X G a9
  have F10 := fun_mk (st := u_small_divisor_st) l10 c10 k10
  have b10 := F10.binds (ps := ["number"]) fun _ _ _ _ _ _ us hl => match us, hl with | [_], _ => rfl
  have m10 := PySem.W.mg_of X G a10
  have F11 := fun_mk (st := u_divisor_of_st) l11 c11 k11
  have b11 := F11.binds (ps := ["number"]) fun _ _ _ _ _ _ us hl => match us, hl with | [_], _ => rfl
  have m11 := PySem.W.mg_of X G a11
  have F12 := fun_mk (st := u_prime_parts_st) l12 c12 k12
  have b12 := F12.binds (ps := ["number"]) fun _ _ _ _ _ _ us hl => match us, hl with | [_], _ => rfl
  have m12 := PySem.W.mg_of X G a12
  have F13 := fun_mk (st := u_powers_in_st) l13 c13 k13
  have b13 := F13.binds (ps := ["number"]) fun _ _ _ _ _ _ us hl => match us, hl with | [_], _ => rfl
  have m13 := PySem.W.mg_of X G a13
  have F14 := fun_mk (st := u_factors_st) l14 c14 k14
  have b14 := F14.binds (ps := ["number"]) fun _ _ _ _ _ _ us hl => match us, hl with | [_], _ => rfl
  have m14 := PySem.W.mg_of X G a14
  have F15 := fun_mk (st := u_divisors_st) l15 c15 k15
  have b15 := F15.binds (ps := ["number"]) fun _ _ _ _ _ _ us hl => match us, hl with | [_], _ => rfl
  have m15 := PySem.W.mg_of X G a15
  have F16 := fun_mk (st := u_units_st) l16 c16 k16
  have b16 := F16.binds (ps := ["number"]) fun _ _ _ _ _ _ us hl => match us, hl with | [_], _ => rfl
  have m16 := PySem.W.mg_of X G a16
  have F17 := fun_mk (st := u_sum_of_divisors_st) l17 c17 k17
  have b17 := F17.binds (ps := ["number", "times"]) fun _ _ _ _ _ _ us hl => match us, hl with | [_, _], _ => rfl
  have m17 := PySem.W.mg_of X G a17
  have F18 := fun_mk (st := u_turn_st) l18 c18 k18
  have b18 := F18.binds (ps := ["number"]) fun _ _ _ _ _ _ us hl => match us, hl with | [_], _ => rfl
  have m18 := PySem.W.mg_of X G a18
  have F19 := fun_mk (st := u_sieve_st) l19 c19 k19
  have b19 := F19.binds (ps := ["most"]) fun _ _ _ _ _ _ us hl => match us, hl with | [_], _ => rfl
  have m19 := PySem.W.mg_of X G a19
  have F20 := fun_mk (st := beg_st) l20 c20 k20
  have b20 := F20.binds (ps := ["script"]) fun _ _ _ _ _ _ us hl => match us, hl with | [_], _ => rfl
  have m20 := PySem.W.mg_of X G a20
  have F21 := fun_mk (st := tak_st) l21 c21 k21
  have b21 := F21.binds (ps := ["d", "many"]) fun _ _ _ _ _ _ us hl => match us, hl with | [_, _], _ => rfl
  have m21 := PySem.W.mg_of X G a21
  have F22 := fun_mk (st := u_law_st) l22 c22 k22
  have b22 := F22.binds (ps := ["script"]) fun _ _ _ _ _ _ us hl => match us, hl with | [_], _ => rfl
  have y_abs := PySem.W.mg_none_of X G z_abs
  have y_any := PySem.W.mg_none_of X G z_any
  have y_int := PySem.W.mg_none_of X G z_int
  have y_len := PySem.W.mg_none_of X G z_len
  have y_list := PySem.W.mg_none_of X G z_list
  have y_range := PySem.W.mg_none_of X G z_range
  have y_sorted := PySem.W.mg_none_of X G z_sorted
  have y_sum := PySem.W.mg_none_of X G z_sum
  have y_tuple := PySem.W.mg_none_of X G z_tuple
  have hcon : ∀ x d, cons.lookup x = some d → ∃ v u, mg x = some u ∧ RelV v u ∧ ∀ H, Rp K H v d := by
    refine con_all ?_
    intro p hp
    simp only [cons, List.mem_cons, List.not_mem_nil, or_false] at hp
    rcases hp with rfl | rfl
    · exact con_tup (ns := [2, 3, 5, 7, 11, 13, 17, 19, 23, 29, 31, 37]) (PySem.W.mg_of X G q_BASES) r_BASES (by show 12 ≤ PySem.sizeLine; decide) (.cons ⟨_, rfl⟩ (.cons ⟨_, rfl⟩ (.cons ⟨_, rfl⟩ (.cons ⟨_, rfl⟩ (.cons ⟨_, rfl⟩ (.cons ⟨_, rfl⟩ (.cons ⟨_, rfl⟩ (.cons ⟨_, rfl⟩ (.cons ⟨_, rfl⟩ (.cons ⟨_, rfl⟩ (.cons ⟨_, rfl⟩ (.cons ⟨_, rfl⟩ .nil))))))))))))
    · exact ⟨.int 100000000000000, _, PySem.W.mg_of X G q_MOST, ⟨t_MOST, rfl⟩, fun _ => rfl⟩
  have hbl : ∀ x, blts.contains x = true → mg x = none := by
    intro x hx
    simp only [blts, List.contains_iff_mem, List.mem_cons, List.not_mem_nil, or_false] at hx
    rcases hx with rfl | rfl | rfl | rfl | rfl | rfl | rfl | rfl | rfl
    · exact y_abs
    · exact y_any
    · exact y_int
    · exact y_len
    · exact y_list
    · exact y_range
    · exact y_sorted
    · exact y_sum
    · exact y_tuple
  refine ⟨PySem.W.fnOf "law" "law" (defArgs u_law_st) (defBody u_law_st) (defScope u_law_st) .none kV22 dc22 pm22 an22 cd22 ct22, fun s v => .of_eq rfl, fun base _ _ => ?_⟩
  have p0 : Paired (FOk l.prog w K mg base 0) [] [] := .nil
  have o0 : FOk l.prog w K mg base 1 "common" u_common_φ := (own_ok (c := u_common_cc) (φs := u_common_φs) (code := u_common_code) (fuel := 100) u_common_φ (env_mk hcon hbl p0 .nil) F0 m0 b0 u_common_sc rfl u_common_comp (by decide) x_common_own).mono (by decide)
  have p1 := Paired.cons o0 (fns_mono p0 (Nat.le_succ 0))
  have o1 : FOk l.prog w K mg base 2 "gcd_of" u_gcd_of_φ := (own_ok (c := u_gcd_of_cc) (φs := u_gcd_of_φs) (code := u_gcd_of_code) (fuel := 100) u_gcd_of_φ (env_mk hcon hbl p1 .nil) F1 m1 b1 u_gcd_of_sc rfl u_gcd_of_comp (by decide) x_gcd_of_own).mono (by decide)
  have p2 := Paired.cons o1 (fns_mono p1 (Nat.le_succ 1))
  have o2 : FOk l.prog w K mg base 3 "lcm_of" u_lcm_of_φ := (own_ok (c := u_lcm_of_cc) (φs := u_lcm_of_φs) (code := u_lcm_of_code) (fuel := 100) u_lcm_of_φ (env_mk hcon hbl p2 .nil) F2 m2 b2 u_lcm_of_sc rfl u_lcm_of_comp (by decide) x_lcm_of_own).mono (by decide)
  have p3 := Paired.cons o2 (fns_mono p2 (Nat.le_succ 2))
  have o3 : FOk l.prog w K mg base 4 "power" u_power_φ := (own_ok (c := u_power_cc) (φs := u_power_φs) (code := u_power_code) (fuel := 100) u_power_φ (env_mk hcon hbl p3 .nil) F3 m3 b3 u_power_sc rfl u_power_comp (by decide) x_power_own).mono (by decide)
  have p4 := Paired.cons o3 (fns_mono p3 (Nat.le_succ 3))
  have o4 : FOk l.prog w K mg base 5 "tower" u_tower_φ := (own_ok (c := u_tower_cc) (φs := u_tower_φs) (code := u_tower_code) (fuel := 100) u_tower_φ (env_mk hcon hbl p4 .nil) F4 m4 b4 u_tower_sc rfl u_tower_comp (by decide) x_tower_own).mono (by decide)
  have p5 := Paired.cons o4 (fns_mono p4 (Nat.le_succ 4))
  have o5 : FOk l.prog w K mg base 6 "valuation" u_valuation_φ := (own_ok (c := u_valuation_cc) (φs := u_valuation_φs) (code := u_valuation_code) (fuel := 100) u_valuation_φ (env_mk hcon hbl p5 .nil) F5 m5 b5 u_valuation_sc rfl u_valuation_comp (by decide) x_valuation_own).mono (by decide)
  have p6 := Paired.cons o5 (fns_mono p5 (Nat.le_succ 5))
  have o6 : FOk l.prog w K mg base 7 "check_number" u_check_number_φ := (own_ok (c := u_check_number_cc) (φs := u_check_number_φs) (code := u_check_number_code) (fuel := 100) u_check_number_φ (env_mk hcon hbl p6 .nil) F6 m6 b6 u_check_number_sc rfl u_check_number_comp (by decide) x_check_number_own).mono (by decide)
  have p7 := Paired.cons o6 (fns_mono p6 (Nat.le_succ 6))
  have o7 : FOk l.prog w K mg base 8 "has_witness" u_has_witness_φ := (own_ok (c := u_has_witness_cc) (φs := u_has_witness_φs) (code := u_has_witness_code) (fuel := 100) u_has_witness_φ (env_mk hcon hbl p7 .nil) F7 m7 b7 u_has_witness_sc rfl u_has_witness_comp (by decide) x_has_witness_own).mono (by decide)
  have p8 := Paired.cons o7 (fns_mono p7 (Nat.le_succ 7))
  have o8 : FOk l.prog w K mg base 9 "prime" u_prime_φ := (own_ok (c := u_prime_cc) (φs := u_prime_φs) (code := u_prime_code) (fuel := 100) u_prime_φ (env_mk hcon hbl p8 .nil) F8 m8 b8 u_prime_sc rfl u_prime_comp (by decide) x_prime_own).mono (by decide)
  have p9 := Paired.cons o8 (fns_mono p8 (Nat.le_succ 8))
  have o9 : FOk l.prog w K mg base 10 "is_prime" u_is_prime_φ := (own_ok (c := u_is_prime_cc) (φs := u_is_prime_φs) (code := u_is_prime_code) (fuel := 100) u_is_prime_φ (env_mk hcon hbl p9 .nil) F9 m9 b9 u_is_prime_sc rfl u_is_prime_comp (by decide) x_is_prime_own).mono (by decide)
  have p10 := Paired.cons o9 (fns_mono p9 (Nat.le_succ 9))
  have o10 : FOk l.prog w K mg base 11 "small_divisor" u_small_divisor_φ := (own_ok (c := u_small_divisor_cc) (φs := u_small_divisor_φs) (code := u_small_divisor_code) (fuel := 100) u_small_divisor_φ (env_mk hcon hbl p10 .nil) F10 m10 b10 u_small_divisor_sc rfl u_small_divisor_comp (by decide) x_small_divisor_own).mono (by decide)
  have p11 := Paired.cons o10 (fns_mono p10 (Nat.le_succ 10))
  have o11 : FOk l.prog w K mg base 12 "divisor_of" u_divisor_of_φ := (own_ok (c := u_divisor_of_cc) (φs := u_divisor_of_φs) (code := u_divisor_of_code) (fuel := 100) u_divisor_of_φ (env_mk hcon hbl p11 .nil) F11 m11 b11 u_divisor_of_sc rfl u_divisor_of_comp (by decide) x_divisor_of_own).mono (by decide)
  have p12 := Paired.cons o11 (fns_mono p11 (Nat.le_succ 11))
  have o12 : FOk l.prog w K mg base 13 "prime_parts" u_prime_parts_φ := (own_ok (c := u_prime_parts_cc) (φs := u_prime_parts_φs) (code := u_prime_parts_code) (fuel := 100) u_prime_parts_φ (env_mk hcon hbl p12 .nil) F12 m12 b12 u_prime_parts_sc rfl u_prime_parts_comp (by decide) x_prime_parts_own).mono (by decide)
  have p13 := Paired.cons o12 (fns_mono p12 (Nat.le_succ 12))
  have o13 : FOk l.prog w K mg base 14 "powers_in" u_powers_in_φ := (own_ok (c := u_powers_in_cc) (φs := u_powers_in_φs) (code := u_powers_in_code) (fuel := 100) u_powers_in_φ (env_mk hcon hbl p13 .nil) F13 m13 b13 u_powers_in_sc rfl u_powers_in_comp (by decide) x_powers_in_own).mono (by decide)
  have p14 := Paired.cons o13 (fns_mono p13 (Nat.le_succ 13))
  have o14 : FOk l.prog w K mg base 15 "factors" u_factors_φ := (own_ok (c := u_factors_cc) (φs := u_factors_φs) (code := u_factors_code) (fuel := 100) u_factors_φ (env_mk hcon hbl p14 .nil) F14 m14 b14 u_factors_sc rfl u_factors_comp (by decide) x_factors_own).mono (by decide)
  have p15 := Paired.cons o14 (fns_mono p14 (Nat.le_succ 14))
  have o15 : FOk l.prog w K mg base 16 "divisors" u_divisors_φ := (own_ok (c := u_divisors_cc) (φs := u_divisors_φs) (code := u_divisors_code) (fuel := 100) u_divisors_φ (env_mk hcon hbl p15 .nil) F15 m15 b15 u_divisors_sc rfl u_divisors_comp (by decide) x_divisors_own).mono (by decide)
  have p16 := Paired.cons o15 (fns_mono p15 (Nat.le_succ 15))
  have o16 : FOk l.prog w K mg base 17 "units" u_units_φ := (own_ok (c := u_units_cc) (φs := u_units_φs) (code := u_units_code) (fuel := 100) u_units_φ (env_mk hcon hbl p16 .nil) F16 m16 b16 u_units_sc rfl u_units_comp (by decide) x_units_own).mono (by decide)
  have p17 := Paired.cons o16 (fns_mono p16 (Nat.le_succ 16))
  have o17 : FOk l.prog w K mg base 18 "sum_of_divisors" u_sum_of_divisors_φ := (own_ok (c := u_sum_of_divisors_cc) (φs := u_sum_of_divisors_φs) (code := u_sum_of_divisors_code) (fuel := 100) u_sum_of_divisors_φ (env_mk hcon hbl p17 .nil) F17 m17 b17 u_sum_of_divisors_sc rfl u_sum_of_divisors_comp (by decide) x_sum_of_divisors_own).mono (by decide)
  have p18 := Paired.cons o17 (fns_mono p17 (Nat.le_succ 17))
  have o18 : FOk l.prog w K mg base 19 "turn" u_turn_φ := (own_ok (c := u_turn_cc) (φs := u_turn_φs) (code := u_turn_code) (fuel := 100) u_turn_φ (env_mk hcon hbl p18 .nil) F18 m18 b18 u_turn_sc rfl u_turn_comp (by decide) x_turn_own).mono (by decide)
  have p19 := Paired.cons o18 (fns_mono p18 (Nat.le_succ 18))
  have o19 : FOk l.prog w K mg base 20 "sieve" u_sieve_φ := (own_ok (c := u_sieve_cc) (φs := u_sieve_φs) (code := u_sieve_code) (fuel := 100) u_sieve_φ (env_mk hcon hbl p19 .nil) F19 m19 b19 u_sieve_sc rfl u_sieve_comp (by decide) x_sieve_own).mono (by decide)
  have p20 := Paired.cons o19 (fns_mono p19 (Nat.le_succ 19))
  have ot : TOk l.prog w K mg base 20 "_law_take" takeF := ⟨takeF_cells, f21, _, _, (tak_ok F21 y_int y_abs y_len).mono (by decide), m21, k21, b21⟩
  exact law_ev (c := u_law_cc) (env_mk (φs := u_law_φs) (ψs := [takeF]) hcon hbl p20 (.cons ot .nil)) F22 u_law_sc rfl rfl (by decide +kernel) (visB_ok (by decide +kernel)) (by decide +kernel) ((beg_ok F20 y_int y_list).mono (by decide)) m20 k20 b20 rfl u_law_comp hL
open Nx
open Nt
/-! ### power -/
theorem power_L {c : Nat} (hc : 0 < c) (hb : c ≤ 1000000000) : ∀ (m k t b f : Nat), t < 2 ^ k → k < m → b < c → f < c → ∃ r, r < c ∧ x_power_L1 (.ofNat c) m (.ofNat b) (.ofNat t) (.ofNat f) = some (.ofNat r)
  | 0, k, t, b, f, _, h, _, _ => absurd h (Nat.not_lt_zero _)
  | m + 1, k, t, b, f, ht, hk, h1, h2 => by
    have e : x_power_L1 (.ofNat c) (m + 1) (.ofNat b) (.ofNat t) (.ofNat f) = x_power_B1 (.ofNat c) (x_power_L1 (.ofNat c) m) (.ofNat b) (.ofNat t) (.ofNat f) := rfl
    rw [e]
    unfold x_power_B1
    rw [lt_n, iteB_d]
    by_cases h0 : 0 < t
    · rw [if_pos h0, fmod_n, eq_n, iteB_d, mulQ_n (by omega) (by omega), iteB_t, eq_n, notB_d, decide_eq_true (show ¬ c = 0 by omega), iteB_t]
      have k0 : k ≠ 0 := fun z => by subst z; omega
      have ht2 : t / 2 < 2 ^ (k - 1) := by
        rw [Nat.div_lt_iff_lt_mul (by omega), ← Nat.pow_succ, show (k - 1).succ = k by omega]
        exact ht
      have J : ∀ g, g < c → ∃ r, r < c ∧ x_power_J2 (x_power_L1 (.ofNat c) m) (.ofNat b) (.ofNat t) (.ofNat c) (.ofNat g) = some (.ofNat r) := by
        intro g hg
        unfold x_power_J2
        rw [mulQ_n (by omega) (by omega), iteB_t, eq_n, notB_d, decide_eq_true (show ¬ c = 0 by omega), iteB_t, mul_n, fmod_n, fdiv_n, frcI_eq, frcI_eq]
        exact power_L hc hb m (k - 1) (t / 2) _ g ht2 (by omega) (Nat.mod_lt _ hc) hg
      split
      · rw [mul_n, fmod_n, frcI_eq]
        exact J _ (Nat.mod_lt _ hc)
      · exact J f h2
    · rw [if_neg h0]
      exact ⟨f, h2, rfl⟩
theorem power_some {c b t : Nat} (hc : 0 < c) (hb : c ≤ 1000000000) (ht : t < 2 ^ 900) : ∃ r, r < c ∧ x_power (.ofNat b) (.ofNat t) (.ofNat c) = some (.ofNat r) := by
  unfold x_power
  rw [lt_n, iteB_d, if_neg (by omega), lt_n, iteB_d, if_neg (by omega), eq_n, notB_d, decide_eq_true (show ¬ c = 0 by omega), iteB_t, fmod_n, frcI_eq, iteB_t, fmod_n, frcI_eq]
  exact power_L hc hb 1000 900 t _ _ ht (by omega) (Nat.mod_lt _ hc) (Nat.mod_lt _ hc)
/-! ### witnesses -/
theorem wit_L2 {c : Nat} (hc : 2 ≤ c) (hb : c ≤ 1000000000) : ∀ (m i v : Nat), v < c → ∃ w, x_has_witness_L2 (.ofNat c) m (.ofNat i) (.ofNat v) = some w
  | 0, i, v, _ => ⟨true, rfl⟩
  | m + 1, i, v, hv => by
    have e : x_has_witness_L2 (.ofNat c) (m + 1) (.ofNat i) (.ofNat v) = x_has_witness_B2 (.ofNat c) (x_has_witness_L2 (.ofNat c) m (addZ (.ofNat i) (.ofNat 1))) (.ofNat i) (.ofNat v) := rfl
    rw [e]
    unfold x_has_witness_B2
    rw [frcI_eq, mulQ_n (by omega) (by omega), iteB_t, eq_n, notB_d, decide_eq_true (show ¬ c = 0 by omega), iteB_t, mul_n, fmod_n, frcI_eq, sub_n (by omega), eq_n, iteB_d, add_n]
    split
    · exact ⟨_, rfl⟩
    · exact wit_L2 hc hb m (i + 1) _ (Nat.mod_lt _ (by omega))
theorem wit_K1 {c b o t : Nat} (hc : 2 ≤ c) (hb : c ≤ 1000000000) (ho : o < 2 ^ 900) (ht : t < 1000000) : ∃ w, x_has_witness_K1 (.ofNat c) (.ofNat b) (.ofNat o) (.ofNat t) = some w := by
  obtain ⟨r, hr, e⟩ := power_some (c := c) (b := b) (by omega) hb ho
  unfold x_has_witness_K1
  rw [e, bndO_some]
  have i1 : intsB [.int (.ofNat 1), .int (subZ (.ofNat c) (.ofNat 1))] = true := rfl
  rw [i1, iteB_t]
  cases h : anyZ [.int (.ofNat 1), .int (subZ (.ofNat c) (.ofNat 1))] (.ofNat r) with
  | true => exact ⟨_, rfl⟩
  | false =>
    rw [iteB_f]
    by_cases h0 : t = 0
    · subst h0
      exact ⟨true, rfl⟩
    · rw [sub_n (show 1 ≤ t by omega), rfB_n (by omega) (by omega), iteB_t, natZ_n]
      exact wit_L2 hc hb _ 0 r hr
theorem wit_L1 {c b : Nat} (hc : 2 ≤ c) (hb : c ≤ 1000000000) : ∀ (m k o t : Nat), o < 2 ^ k → k < m → k ≤ 900 → 0 < o → t + k < 1000000 → ∃ w, x_has_witness_L1 (.ofNat c) (.ofNat b) m (.ofNat o) (.ofNat t) = some w
  | 0, _, _, _, _, h, _, _, _ => absurd h (Nat.not_lt_zero _)
  | m + 1, k, o, t, ho, hk, hk2, h0, ht => by
    have e : x_has_witness_L1 (.ofNat c) (.ofNat b) (m + 1) (.ofNat o) (.ofNat t) = x_has_witness_B1 (.ofNat c) (.ofNat b) (x_has_witness_L1 (.ofNat c) (.ofNat b) m) (.ofNat o) (.ofNat t) := rfl
    rw [e]
    unfold x_has_witness_B1
    rw [fmod_n, eq_n, iteB_d]
    have k0 : k ≠ 0 := fun z => by subst z; omega
    split
    · rw [fdiv_n, add_n, frcI_eq, frcI_eq]
      have ht2 : o / 2 < 2 ^ (k - 1) := by
        rw [Nat.div_lt_iff_lt_mul (by omega), ← Nat.pow_succ, show (k - 1).succ = k by omega]
        exact ho
      exact wit_L1 hc hb m (k - 1) (o / 2) (t + 1) ht2 (by omega) (by omega) (by omega) (by omega)
    · exact wit_K1 hc hb (Nat.lt_of_lt_of_le ho (Nat.pow_le_pow_right (by omega) hk2)) (by omega)
theorem wit_some {c b : Nat} (hc : 2 ≤ c) (hb : c ≤ 1000000000) : ∃ w, x_has_witness (.ofNat c) (.ofNat b) = some w := by
  unfold x_has_witness
  rw [sub_n (by omega), frcI_eq]
  exact wit_L1 hc hb 1000 30 (c - 1) 0 (by omega) (by omega) (by omega) (by omega) (by omega)
/-! ### the test for primes -/
def bases : List Nat := [2, 3, 5, 7, 11, 13, 17, 19, 23, 29, 31, 37]
def nD (n : Nat) : Ev.D := .int (.ofNat n)
theorem prime_L {c : Nat} : ∀ l : List Nat, (∀ q ∈ l, 0 < q) → (∀ q ∈ l, ¬ q ∣ c) ∧ x_prime_L1 (.ofNat c) (l.map nD) = x_prime_K1 (.ofNat c) ∨ (∃ q ∈ l, q ∣ c ∧ x_prime_L1 (.ofNat c) (l.map nD) = some (decide (c = q)))
  | [], _ => .inl ⟨fun _ h => absurd h List.not_mem_nil, rfl⟩
  | q :: l, h => by
    have e : x_prime_L1 (.ofNat c) ((q :: l).map nD) = x_prime_B1 (.ofNat c) (x_prime_L1 (.ofNat c) (l.map nD)) (.int (.ofNat q)) := rfl
    have hq := h q List.mem_cons_self
    rw [e]
    unfold x_prime_B1
    rw [dInt_i, eq_n, notB_d, decide_eq_true (show ¬ q = 0 by omega), iteB_t, fmod_n, eq_n, iteB_d]
    by_cases hd : c % q = 0
    · rw [if_pos hd, frcB_eq, eq_n]
      exact .inr ⟨q, List.mem_cons_self, Nat.dvd_of_mod_eq_zero hd, rfl⟩
    · rw [if_neg hd]
      rcases prime_L (c := c) l fun q hq => h q (List.mem_cons_of_mem _ hq) with ⟨h1, h2⟩ | ⟨p, h1, h2, h3⟩
      · refine .inl ⟨fun z hz => ?_, h2⟩
        rcases List.mem_cons.mp hz with rfl | hz
        · exact fun w => hd (Nat.mod_eq_zero_of_dvd w)
        · exact h1 z hz
      · exact .inr ⟨p, List.mem_cons_of_mem _ h1, h2, h3⟩
theorem anyK_map (g : Nat → Bool) : ∀ {l : List Nat}, (∃ q ∈ l, g q = true) → anyK (l.map fun q => PyData.bool (g q)) = true
  | q :: l, h => by
    show iteB (g q) true (anyK (l.map fun q => PyData.bool (g q))) = true
    cases hq : g q with
    | true => rfl
    | false =>
      obtain ⟨p, hp, e⟩ := h
      rcases List.mem_cons.mp hp with rfl | hp
      · rw [hq] at e; cases e
      · exact anyK_map g ⟨p, hp, e⟩
theorem boosB_map (g : Nat → Bool) : ∀ l : List Nat, boosB (l.map fun q => PyData.bool (g q)) = true
  | [] => rfl
  | q :: l => boosB_map g l
theorem mapQ_map (T : Ev.D → Ev.D) : ∀ l : List Nat, mapQ T (l.map nD) = l.map fun q => T (nD q)
  | [] => rfl
  | q :: l => by show T (nD q) :: mapQ T (l.map nD) = _; rw [mapQ_map T l]; rfl
theorem allQ_map (G : Ev.D → Bool) : ∀ {l : List Nat}, (∀ q ∈ l, G (nD q) = true) → allQ G (l.map nD) = true
  | [], _ => rfl
  | q :: l, h => by
    show iteB (G (nD q)) (allQ G (l.map nD)) false = true
    rw [h q List.mem_cons_self, iteB_t]
    exact allQ_map G fun q hq => h q (List.mem_cons_of_mem _ hq)
theorem prime_K1 {c : Nat} (hc : 2 ≤ c) (hb : c ≤ 1000000000) (h : ∃ q ∈ bases, x_has_witness (.ofNat c) (.ofNat q) = some true) : x_prime_K1 (.ofNat c) = some false := by
  have e1 : allQ (fun i3 => andB (isI i3) (isSomeB (x_has_witness (.ofNat c) (asI i3)))) (bases.map nD) = true := allQ_map _ fun q hq => by
    obtain ⟨w, e⟩ := wit_some (c := c) (b := q) hc hb
    show andB true (isSomeB (x_has_witness (.ofNat c) (.ofNat q))) = true
    rw [e]; rfl
  have e2 : mapQ (fun i3 => PyData.bool (getO false (x_has_witness (.ofNat c) (asI i3)))) (bases.map nD) = bases.map fun q => PyData.bool (getO false (x_has_witness (.ofNat c) (.ofNat q))) := mapQ_map _ _
  have e3 : anyK (bases.map fun q => PyData.bool (getO false (x_has_witness (.ofNat c) (.ofNat q)))) = true := anyK_map (fun q => getO false (x_has_witness (.ofNat c) (.ofNat q))) (by
    obtain ⟨q, hq, e⟩ := h
    refine ⟨q, hq, ?_⟩
    show getO false _ = true
    rw [e]; rfl)
  unfold x_prime_K1
  rw [show [PyData.int (.ofNat 2), .int (.ofNat 3), .int (.ofNat 5), .int (.ofNat 7), .int (.ofNat 11), .int (.ofNat 13), .int (.ofNat 17), .int (.ofNat 19), .int (.ofNat 23), .int (.ofNat 29), .int (.ofNat 31), .int (.ofNat 37)] = bases.map nD from rfl]
  rw [e1, iteB_t, e2, e3, boosB_map (fun q => getO false (x_has_witness (.ofNat c) (.ofNat q)))]
  rfl
theorem prime_false {c : Nat} (hc : 2 ≤ c) (hb : c ≤ 1000000000) (hn : c ∉ bases) (h : (∃ q ∈ bases, q ∣ c) ∨ ∃ q ∈ bases, x_has_witness (.ofNat c) (.ofNat q) = some true) : x_prime (.ofNat c) = some false := by
  unfold x_prime
  rw [lt_n, iteB_d, if_neg (by omega)]
  rw [show [PyData.int (.ofNat 2), .int (.ofNat 3), .int (.ofNat 5), .int (.ofNat 7), .int (.ofNat 11), .int (.ofNat 13), .int (.ofNat 17), .int (.ofNat 19), .int (.ofNat 23), .int (.ofNat 29), .int (.ofNat 31), .int (.ofNat 37)] = bases.map nD from rfl]
  rcases prime_L (c := c) bases (by decide) with ⟨h1, h2⟩ | ⟨q, h1, h2, h3⟩
  · rw [h2]
    rcases h with ⟨q, hq, hd⟩ | h
    · exact absurd hd (h1 q hq)
    · exact prime_K1 hc hb h
  · rw [h3, decide_eq_false (show ¬ c = q from fun z => hn (by rw [z]; exact h1))]
/-! ### the least divisor -/
theorem small_L {c d0 : Nat} (hb : c ≤ 1000000000) (h1 : d0 * d0 ≤ c) (h2 : d0 ∣ c) (h3 : 2 ≤ d0) : ∀ (m i : Nat), 2 ≤ i → i ≤ d0 → d0 < i + m → i + m ≤ 2000 → ∃ d, 2 ≤ d ∧ d ∣ c ∧ d < c ∧ d ≤ d0 ∧ x_small_divisor_L1 (.ofNat c) m (.ofNat i) = some (.int (.ofNat d))
  | 0, i, _, _, _, _ => by omega
  | m + 1, i, hi, hd, hm, hm2 => by
    have e : x_small_divisor_L1 (.ofNat c) (m + 1) (.ofNat i) = x_small_divisor_B1 (.ofNat c) (x_small_divisor_L1 (.ofNat c) m (addZ (.ofNat i) (.ofNat 1))) (.ofNat i) := rfl
    rw [e]
    have hs : i * i ≤ d0 * d0 := Nat.mul_le_mul hd hd
    unfold x_small_divisor_B1
    rw [frcI_eq, mulQ_n (by omega) (by omega), iteB_t, mul_n, lt_n, iteB_d, if_neg (by omega), eq_n, notB_d, decide_eq_true (show ¬ i = 0 by omega), iteB_t, fmod_n, eq_n, iteB_d]
    by_cases hz : c % i = 0
    · rw [if_pos hz]
      have : i * 2 ≤ i * i := Nat.mul_le_mul_left i hi
      exact ⟨i, hi, Nat.dvd_of_mod_eq_zero hz, by omega, hd, rfl⟩
    · rw [if_neg hz, add_n]
      have : i ≠ d0 := fun z => hz (z ▸ Nat.mod_eq_zero_of_dvd h2)
      exact small_L hb h1 h2 h3 m (i + 1) (by omega) (by omega) (by omega) (by omega)
theorem small_some {c d0 : Nat} (hb : c ≤ 1000000000) (h1 : d0 * d0 ≤ c) (h2 : d0 ∣ c) (h3 : 2 ≤ d0) (h4 : d0 ≤ 1000) : ∃ d, 2 ≤ d ∧ d ∣ c ∧ d < c ∧ x_small_divisor (.ofNat c) = some (.int (.ofNat d)) := by
  unfold x_small_divisor
  rw [rfB_n (by omega) (by omega), iteB_t, sub_n (by omega), natZ_n]
  obtain ⟨d, a1, a2, a3, _, a4⟩ := small_L hb h1 h2 h3 (1001 - 2) 2 (by omega) h3 (by omega) (by omega)
  exact ⟨d, a1, a2, a3, a4⟩
theorem divisor_some {c d0 : Nat} (hb : c ≤ 1000000000) (h1 : d0 * d0 ≤ c) (h2 : d0 ∣ c) (h3 : 2 ≤ d0) (h4 : d0 ≤ 1000) : ∃ d, 2 ≤ d ∧ d ∣ c ∧ d < c ∧ x_divisor_of (nD c) = some (.int (.ofNat d)) := by
  obtain ⟨d, a1, a2, a3, a4⟩ := small_some hb h1 h2 h3 h4
  refine ⟨d, a1, a2, a3, ?_⟩
  show bndO (x_small_divisor (.ofNat c)) _ = _
  rw [a4]
  rfl
/-! ### the prime parts -/
/-- a number all of whose divisors the test for primes knows right -/
structure Good (N : Nat) : Prop where
  pos : 0 < N
  le : N ≤ 1000000000
  ok : ∀ c, 2 ≤ c → c ∣ N → (Pr c ∧ x_prime (.ofNat c) = some true) ∨ (x_prime (.ofNat c) = some false ∧ ∃ d, d * d ≤ c ∧ d ∣ c ∧ 2 ≤ d ∧ d ≤ 1000)
theorem Good.dvd {N c : Nat} (h : Good N) (hd : c ∣ N) : Good c :=
  ⟨Nat.pos_of_dvd_of_pos hd h.pos, Nat.le_trans (Nat.le_of_dvd h.pos hd) h.le, fun e he hc => h.ok e he (Nat.dvd_trans hc hd)⟩
def prodN : List Nat → Nat
  | [] => 1
  | a :: l => a * prodN l
theorem prodN_app : ∀ a b, prodN (a ++ b) = prodN a * prodN b
  | [], b => by show prodN b = 1 * prodN b; rw [Nat.one_mul]
  | x :: a, b => by show x * prodN (a ++ b) = x * prodN a * prodN b; rw [prodN_app a b, Nat.mul_assoc]
theorem prodN_perm {a b : List Nat} (h : a.Perm b) : prodN a = prodN b := by
  induction h with
  | nil => rfl
  | cons x _ ih => show x * _ = x * _; rw [ih]
  | swap x y l => show y * (x * prodN l) = x * (y * prodN l); rw [← Nat.mul_assoc, ← Nat.mul_assoc, Nat.mul_comm y x]
  | trans _ _ i j => rw [i, j]
theorem neB_app {α : Type} (l : List α) (x : α) : neB (l ++ [x]) = true := by cases l <;> rfl
theorem shB_le {l : List Ev.D} (h : l.length ≤ 16777215) : shB l = true := by
  unfold shB
  rw [lenK_eq]
  exact Nat.ble_eq_true_of_le (by omega)
theorem pp_step {c m : Nat} {ws f : List Ev.D} : x_prime_parts_L1 (m + 1) (ws ++ [nD c]) f = bndO (x_prime (.ofNat c)) fun b => iteB b (iteB (shB f) (x_prime_parts_L1 m ws (f ++ [nD c])) none) (bndO (x_divisor_of (nD c)) fun x32 => (iteB (nlK x32) (dInt x32 none fun x35 => (iteB (divQ x35) (iteB (shB (ws ++ [(.int x35), (.int (fdivZ (.ofNat c) x35))])) (x_prime_parts_L1 m (ws ++ [(.int x35), (.int (fdivZ (.ofNat c) x35))]) f) none) none)) none)) := by
  have e : x_prime_parts_L1 (m + 1) (ws ++ [nD c]) f = x_prime_parts_B1 (x_prime_parts_L1 m) (ws ++ [nD c]) f := rfl
  rw [e]
  unfold x_prime_parts_B1
  rw [neB_app, iteB_t, lasK_eq, iniK_eq, List.getLast?_concat, List.dropLast_concat, bndO_some, frcLL_eq]
  simp only [appK_eq, frcLL_eq]
  rfl
theorem pp_loop : ∀ (c : Nat), 2 ≤ c → Good c → ∃ k ps, 1 ≤ k ∧ 2 ^ (k + 1) ≤ c * c ∧ (∀ p ∈ ps, Pr p) ∧ prodN ps = c ∧ ps.length ≤ k ∧
    ∀ m ws f, ws.length + k ≤ 16000000 → f.length + k ≤ 16000000 → x_prime_parts_L1 (m + k) (ws ++ [nD c]) f = x_prime_parts_L1 m ws (f ++ ps.map nD) := by
  intro c
  induction c using Nat.strongRecOn with
  | ind c ih =>
    intro hc hg
    rcases hg.ok c hc (Nat.dvd_refl c) with ⟨hp, e⟩ | ⟨e, d0, a1, a2, a3, a4⟩
    · refine ⟨1, [c], Nat.le_refl 1, Nat.mul_le_mul hc hc, fun p hp' => by rw [List.mem_singleton.mp hp']; exact hp, Nat.mul_one c, Nat.le_refl 1, fun m ws f h1 h2 => ?_⟩
      rw [pp_step, e, bndO_some, iteB_t, shB_le (by omega), iteB_t]
      rfl
    · obtain ⟨d, b1, ⟨q, b2⟩, b3, b4⟩ := divisor_some hg.le a1 a2 a3 a4
      have q0 : q ≠ 0 := fun z => by subst z; omega
      have q1 : q ≠ 1 := fun z => by subst z; omega
      have hq : c / d = q := by rw [b2]; exact Nat.mul_div_cancel_left q (by omega)
      have dc : d ∣ c := ⟨q, b2⟩
      have qc : q ∣ c := ⟨d, by rw [b2, Nat.mul_comm]⟩
      have ql : q < c := by
        have := Nat.mul_le_mul_right q b1
        omega
      obtain ⟨k1, p1, s1, s2, s3, s4, s5, s6⟩ := ih d b3 b1 (hg.dvd dc)
      obtain ⟨k2, p2, t1, t2, t3, t4, t5, t6⟩ := ih q ql (by omega) (hg.dvd qc)
      refine ⟨k1 + k2 + 1, p2 ++ p1, by omega, ?_, fun p hp => ?_, ?_, ?_, fun m ws f h1 h2 => ?_⟩
      · have : 2 ^ (k1 + k2 + 1 + 1) = 2 ^ (k1 + 1) * 2 ^ (k2 + 1) := by rw [← Nat.pow_add]; congr 1; omega
        rw [this]
        have := Nat.mul_le_mul s2 t2
        have e2 : c * c = d * d * (q * q) := by rw [b2]; ac_rfl
        omega
      · rcases List.mem_append.mp hp with h | h
        · exact t3 p h
        · exact s3 p h
      · rw [prodN_app, t4, s4, b2, Nat.mul_comm]
      · rw [List.length_append]; omega
      · rw [show m + (k1 + k2 + 1) = (m + k1 + k2) + 1 by omega, pp_step, e, bndO_some, iteB_f, b4, bndO_some, show nlK (.int (.ofNat d)) = true from rfl, iteB_t, dInt_i, divQ_n (by omega) (by have := hg.le; omega), iteB_t, fdiv_n, hq]
        rw [shB_le (by rw [List.length_append]; show ws.length + 2 ≤ _; omega), iteB_t]
        have e1 : ws ++ [PyData.int (.ofNat d), .int (.ofNat q)] = (ws ++ [nD d]) ++ [nD q] := by rw [List.append_assoc]; rfl
        rw [e1, t6 (m + k1) (ws ++ [nD d]) f (by rw [List.length_append]; show ws.length + 1 + k2 ≤ _; omega) (by omega), s6 m ws _ (by omega) (by rw [List.length_append, List.length_map]; omega), List.map_append, List.append_assoc]
/-! ### in order -/
def insN (x : Nat) : List Nat → List Nat
  | [] => [x]
  | y :: r => if x ≤ y then x :: y :: r else y :: insN x r
def sortN : List Nat → List Nat
  | [] => []
  | x :: r => insN x (sortN r)
theorem insN_perm (x : Nat) : ∀ l, (insN x l).Perm (x :: l)
  | [] => List.Perm.refl _
  | y :: r => by
    unfold insN
    split
    · exact List.Perm.refl _
    · exact ((insN_perm x r).cons y).trans (List.Perm.swap x y r)
theorem sortN_perm : ∀ l, (sortN l).Perm l
  | [] => List.Perm.refl _
  | x :: r => (insN_perm x _).trans ((sortN_perm r).cons x)
theorem insN_sorted (x : Nat) : ∀ {l : List Nat}, l.Pairwise (· ≤ ·) → (insN x l).Pairwise (· ≤ ·)
  | [], _ => by unfold insN; exact List.pairwise_singleton _ _
  | y :: r, h => by
    unfold insN
    have hc := List.pairwise_cons.mp h
    split
    · rename_i hxy
      refine List.pairwise_cons.mpr ⟨fun z hz => ?_, h⟩
      rcases List.mem_cons.mp hz with rfl | hz
      · exact hxy
      · exact Nat.le_trans hxy (hc.1 z hz)
    · refine List.pairwise_cons.mpr ⟨fun z hz => ?_, insN_sorted x hc.2⟩
      rcases List.mem_cons.mp ((insN_perm x r).mem_iff.mp hz) with rfl | hz
      · omega
      · exact hc.1 z hz
theorem sortN_sorted : ∀ l, (sortN l).Pairwise (· ≤ ·)
  | [] => List.Pairwise.nil
  | x :: r => insN_sorted x (sortN_sorted r)
theorem insK_n (x : Nat) : ∀ l : List Nat, insI (Int.ofNat x) (l.map Int.ofNat) = (insN x l).map Int.ofNat
  | [] => rfl
  | y :: r => by
    show (if Int.ofNat x ≤ Int.ofNat y then _ else _) = (if x ≤ y then _ else _ : List Nat).map Int.ofNat
    by_cases h : x ≤ y
    · rw [if_pos h, if_pos (by rw [Int.ofNat_eq_natCast, Int.ofNat_eq_natCast]; omega)]; rfl
    · rw [if_neg h, if_neg (by rw [Int.ofNat_eq_natCast, Int.ofNat_eq_natCast]; omega), insK_n x r]; rfl
theorem sortI_n : ∀ l : List Nat, sortI (l.map Int.ofNat) = (sortN l).map Int.ofNat
  | [] => rfl
  | x :: r => by show insI (Int.ofNat x) (sortI (r.map Int.ofNat)) = _; rw [sortI_n r, insK_n]; rfl
theorem intsB_n : ∀ l : List Nat, intsB (l.map nD) = true
  | [] => rfl
  | _ :: r => intsB_n r
theorem intsK_n : ∀ l : List Nat, intsK (l.map nD) = l.map Int.ofNat
  | [] => rfl
  | x :: r => by show Int.ofNat x :: intsK (r.map nD) = _; rw [intsK_n r]; rfl
theorem sortK_n (l : List Nat) : sortK (l.map nD) = some ((sortN l).map nD) := by
  unfold sortK
  rw [intsB_n, iteB_t, intsK_n, srtK_eq, sortI_n, boxK_eq, List.map_map]
  rfl
theorem parts_some {N : Nat} (hg : Good N) : ∃ ps : List Nat, (∀ p ∈ ps, Pr p) ∧ prodN ps = N ∧ ps.Pairwise (· ≤ ·) ∧ ps.length ≤ 1000 ∧ x_prime_parts (.ofNat N) = some (ps.map nD) := by
  by_cases h1 : 1 < N
  · obtain ⟨k, ps, s1, s2, s3, s4, s5, s6⟩ := pp_loop N h1 hg
    have hk : k < 900 := by
      refine Classical.byContradiction fun z => ?_
      have a1 := Nat.pow_le_pow_right (n := 2) (by omega) (show 61 ≤ k + 1 by omega)
      have a2 := Nat.mul_le_mul hg.le hg.le
      omega
    refine ⟨sortN ps, fun p hp => s3 p ((sortN_perm ps).mem_iff.mp hp), by rw [prodN_perm (sortN_perm ps), s4], sortN_sorted ps, by rw [(sortN_perm ps).length_eq]; omega, ?_⟩
    unfold x_prime_parts
    rw [lt_n, decide_eq_true h1, iteB_t, frcLL_eq]
    have := s6 (1000 - k) [] [] (by simp; omega) (by simp; omega)
    rw [show 1000 - k + k = 1000 by omega] at this
    show x_prime_parts_L1 1000 ([] ++ [nD N]) [] = _
    rw [this, show 1000 - k = (999 - k) + 1 by omega]
    show bndO (sortK ([] ++ ps.map nD)) _ = _
    rw [List.nil_append, sortK_n]
    rfl
  · have : N = 1 := by have := hg.pos; omega
    subst this
    exact ⟨[], fun _ h => absurd h List.not_mem_nil, rfl, List.Pairwise.nil, Nat.zero_le _, rfl⟩
/-! ### rows -/
def eR (r : Nt.Row) : Ev.D := .tuple [nD r.1, nD r.2]
theorem prodR_app : ∀ (A B : List Nt.Row), prodR (A ++ B) = prodR A * prodR B
  | [], B => by show prodR B = 1 * prodR B; rw [Nat.one_mul]
  | r :: A, B => by show r.1 ^ r.2 * prodR (A ++ B) = r.1 ^ r.2 * prodR A * prodR B; rw [prodR_app A B, Nat.mul_assoc]
theorem ixK_last (l : List Ev.D) (x : Ev.D) : ixK (l ++ [x]) (negZ (.ofNat 1)) = some x := by
  rw [show negZ (.ofNat 1) = .negSucc 0 from rfl, ixK_eq]
  unfold atD atI ixN
  rw [if_neg (by decide), if_pos (by rw [List.length_append]; show -((l.length + 1 : Nat) : Int) ≤ Int.negSucc 0; omega), Option.bind_some, List.length_append]
  have : (Int.negSucc 0 + ((l.length + [x].length : Nat) : Int)).toNat = l.length := by
    show (Int.negSucc 0 + ((l.length + 1 : Nat) : Int)).toNat = _
    omega
  rw [this, List.getElem?_append_right (Nat.le_refl _), Nat.sub_self]
  rfl
theorem stK_last {α : Type} (d x : α) : ∀ l : List α, stK d (l ++ [x]) l.length = some (l ++ [d])
  | [] => rfl
  | a :: l => by
    show bndO (stK d (l ++ [x]) l.length) _ = _
    rw [stK_last d x l]
    rfl
theorem sxK_last (l : List Ev.D) (x d : Ev.D) : sxK (l ++ [x]) (negZ (.ofNat 1)) d = some (l ++ [d]) := by
  show iteB (Nat.ble 1 (lenK (l ++ [x]) 0)) (stK d (l ++ [x]) (Nat.sub (lenK (l ++ [x]) 0) 1)) none = _
  rw [lenK_eq, List.length_append]
  show iteB (Nat.ble 1 (l.length + 1)) (stK d (l ++ [x]) l.length) none = _
  rw [Nat.ble_eq_true_of_le (by omega), iteB_t, stK_last]
structure RowsOk (R : List Nt.Row) : Prop where
  sd : R.Pairwise fun a b => a.1 < b.1
  pr : ∀ r ∈ R, Pr r.1
  pos : ∀ r ∈ R, 1 ≤ r.2
theorem RowsOk.add {R : List Nt.Row} {p e : Nat} (hR : RowsOk R) (hp : Pr p) (he : 1 ≤ e) (hlt : ∀ r ∈ R, r.1 < p) : RowsOk (R ++ [(p, e)]) :=
  ⟨List.pairwise_append.mpr ⟨hR.sd, List.pairwise_singleton _ _, fun a ha b hb => by rw [List.mem_singleton.mp hb]; exact hlt a ha⟩,
    fun r hr => by
      rcases List.mem_append.mp hr with h | h
      · exact hR.pr r h
      · rw [List.mem_singleton.mp h]; exact hp,
    fun r hr => by
      rcases List.mem_append.mp hr with h | h
      · exact hR.pos r h
      · rw [List.mem_singleton.mp h]; exact he⟩
theorem RowsOk.ini {R : List Nt.Row} {r : Nt.Row} (h : RowsOk (R ++ [r])) : RowsOk R ∧ Pr r.1 ∧ 1 ≤ r.2 ∧ ∀ s ∈ R, s.1 < r.1 :=
  ⟨⟨(List.pairwise_append.mp h.sd).1, fun s hs => h.pr s (List.mem_append.mpr (.inl hs)), fun s hs => h.pos s (List.mem_append.mpr (.inl hs))⟩,
    h.pr r (List.mem_append.mpr (.inr List.mem_cons_self)), h.pos r (List.mem_append.mpr (.inr List.mem_cons_self)),
    fun s hs => (List.pairwise_append.mp h.sd).2.2 s hs r List.mem_cons_self⟩
theorem pw_nil {ih : List Ev.D → Option (List Ev.D)} {q : Nat} : x_powers_in_B1 ih (nD q) [] = ih [eR (q, 1)] := by
  unfold x_powers_in_B1
  show (frcLL [nD q, (.int (.ofNat 1))] fun x31 => (iteB (shB []) (frcLL (appK [] [(.tuple x31)]) fun x34 => ih x34) none)) = _
  rw [frcLL_eq, shB_le (Nat.zero_le _), iteB_t, frcLL_eq]
  rfl
theorem pw_step {ih : List Ev.D → Option (List Ev.D)} {p k q : Nat} {L : List Ev.D} (hl : L.length ≤ 16000000) : x_powers_in_B1 ih (nD q) (L ++ [eR (p, k)]) = if p = q then ih (L ++ [eR (q, k + 1)]) else ih (L ++ [eR (p, k)] ++ [eR (q, 1)]) := by
  unfold x_powers_in_B1
  rw [neB_app, ixK_last, iteB_t, iteB_t]
  rw [show getO PyData.none (some (eR (p, k))) = eR (p, k) from rfl]
  rw [show ixD (eR (p, k)) (.ofNat 0) = some (nD p) from rfl, show getO PyData.none (some (nD p)) = nD p from rfl]
  rw [show andB (isSomeB (some (eR (p, k)))) (andB (isSomeB (some (nD p))) (andB (shK (nD p) 8) (shK (nD q) 8))) = true from rfl, iteB_t]
  rw [show eqK (nD p) (nD q) = eqZ (.ofNat p) (.ofNat q) from rfl, eq_n, iteB_d, bndO_some, show ixD (eR (p, k)) (.ofNat 1) = some (nD k) from rfl, bndO_some]
  by_cases h : p = q
  · rw [if_pos h, if_pos h]
    show (frcLL [nD q, (.int (addZ (.ofNat k) (.ofNat 1)))] fun x27 => (bndO (sxK (L ++ [eR (p, k)]) (negZ (.ofNat 1)) (.tuple x27)) fun x30 => ih x30)) = _
    rw [frcLL_eq, sxK_last]
    rfl
  · rw [if_neg h, if_neg h, frcLL_eq, shB_le (by rw [List.length_append]; show L.length + 1 ≤ _; omega), iteB_t, frcLL_eq, appK_eq]
    rfl
theorem powers_L : ∀ (ps : List Nat) (R : List Nt.Row), ps.Pairwise (· ≤ ·) → (∀ p ∈ ps, Pr p) → RowsOk R → (∀ r ∈ R, ∀ p ∈ ps, r.1 ≤ p) → R.length + ps.length ≤ 1000000 →
    ∃ R', RowsOk R' ∧ prodR R' = prodR R * prodN ps ∧ R'.length ≤ R.length + ps.length ∧ x_powers_in_L1 (ps.map nD) (R.map eR) = some (R'.map eR)
  | [], R, _, _, hR, _, _ => ⟨R, hR, by show _ = prodR R * 1; rw [Nat.mul_one], Nat.le_refl _, rfl⟩
  | q :: ps, R, hs, hp, hR, hq, hl => by
    have e : x_powers_in_L1 ((q :: ps).map nD) (R.map eR) = x_powers_in_B1 (x_powers_in_L1 (ps.map nD)) (nD q) (R.map eR) := rfl
    have hc := List.pairwise_cons.mp hs
    have hqp := hp q List.mem_cons_self
    have hps : ∀ p ∈ ps, Pr p := fun p h => hp p (List.mem_cons_of_mem _ h)
    have hll : (q :: ps).length = ps.length + 1 := rfl
    have go : ∀ R1 : List Nt.Row, RowsOk R1 → prodR R1 = prodR R * q → (∀ r ∈ R1, ∀ p ∈ ps, r.1 ≤ p) → R1.length ≤ R.length + 1 → ∃ R', RowsOk R' ∧ prodR R' = prodR R * prodN (q :: ps) ∧ R'.length ≤ R.length + (q :: ps).length ∧ x_powers_in_L1 (ps.map nD) (R1.map eR) = some (R'.map eR) := by
      intro R1 h1 h2 h3 h4
      obtain ⟨R', a1, a2, a3, a4⟩ := powers_L ps R1 hc.2 hps h1 h3 (by omega)
      exact ⟨R', a1, by rw [a2, h2, Nat.mul_assoc]; rfl, by omega, a4⟩
    have lq : ∀ (A : List Nt.Row) (e : Nat), (∀ r ∈ A, r.1 ≤ q) → ∀ r ∈ A ++ [(q, e)], ∀ p ∈ ps, r.1 ≤ p := by
      intro A e hA r hr p hpp
      have := hc.1 p hpp
      rcases List.mem_append.mp hr with h | h
      · exact Nat.le_trans (hA r h) this
      · rw [List.mem_singleton.mp h]; exact this
    have hq1 : ∀ r ∈ R, r.1 ≤ q := fun r hr => hq r hr q List.mem_cons_self
    rw [e]
    rcases List.eq_nil_or_concat R with h0 | ⟨R0, ⟨p, k⟩, h0⟩
    · subst h0
      rw [List.map_nil, pw_nil]
      exact go [(q, 1)] (RowsOk.add hR hqp (Nat.le_refl 1) fun _ h => absurd h List.not_mem_nil) (by show q ^ 1 * 1 = 1 * q; rw [Nat.pow_one, Nat.mul_one, Nat.one_mul]) (lq [] 1 fun _ h => absurd h List.not_mem_nil) (Nat.le_refl 1)
    · rw [List.concat_eq_append] at h0
      subst h0
      obtain ⟨i1, i2, i3, i4⟩ := hR.ini
      have hpq : p ≤ q := hq1 (p, k) (List.mem_append.mpr (.inr List.mem_cons_self))
      have hlen : (R0 ++ [(p, k)]).length = R0.length + 1 := by rw [List.length_append]; rfl
      rw [show (R0 ++ [(p, k)]).map eR = R0.map eR ++ [eR (p, k)] by rw [List.map_append]; rfl, pw_step (by rw [List.length_map]; omega)]
      by_cases hpe : p = q
      · rw [if_pos hpe]
        subst hpe
        have := go (R0 ++ [(p, k + 1)]) (RowsOk.add i1 i2 (by omega) i4) (by
          rw [prodR_app, prodR_app]
          show prodR R0 * (p ^ (k + 1) * 1) = prodR R0 * (p ^ k * 1) * p
          rw [Nat.pow_succ, Nat.mul_one, Nat.mul_one, Nat.mul_assoc]) (lq R0 _ fun r hr => Nat.le_of_lt (i4 r hr)) (by rw [List.length_append, List.length_append]; exact Nat.le_succ _)
        rw [List.map_append] at this
        exact this
      · rw [if_neg hpe]
        have hlt : ∀ r ∈ R0 ++ [(p, k)], r.1 < q := fun r hr => by
          rcases List.mem_append.mp hr with h | h
          · have := i4 r h
            show r.1 < q
            have e3 : (p, k).1 = p := rfl
            omega
          · rw [List.mem_singleton.mp h]
            show p < q
            omega
        have := go (R0 ++ [(p, k)] ++ [(q, 1)]) (RowsOk.add hR hqp (Nat.le_refl 1) hlt) (by
          rw [prodR_app]
          show prodR (R0 ++ [(p, k)]) * (q ^ 1 * 1) = _
          rw [Nat.pow_one, Nat.mul_one]) (lq _ _ hq1) (by rw [List.length_append]; exact Nat.le_refl _)
        rw [List.map_append, List.map_append] at this
        exact this
theorem RowsOk.isF {R : List Nt.Row} (h : RowsOk R) : IsF (prodR R) R where
  nd := List.pairwise_map.mpr (h.sd.imp fun hab => Nat.ne_of_lt hab)
  pr := h.pr
  pos := h.pos
  eq := rfl
theorem nlL_n : ∀ l : List Nat, nlL (l.map nD) = true
  | [] => rfl
  | _ :: r => nlL_n r
theorem nlL_eR : ∀ l : List Nt.Row, nlL (l.map eR) = true
  | [] => rfl
  | _ :: r => nlL_eR r
theorem powers_some {N : Nat} (hg : Good N) : ∃ R : List Nt.Row, IsF N R ∧ R.length ≤ 1000 ∧ x_powers_in (.ofNat N) = some (R.map eR) := by
  obtain ⟨ps, h1, h2, h3, h4, h5⟩ := parts_some hg
  obtain ⟨R, a1, a2, a3, a4⟩ := powers_L ps [] h3 h1 ⟨List.Pairwise.nil, fun _ h => absurd h List.not_mem_nil, fun _ h => absurd h List.not_mem_nil⟩ (fun _ h => absurd h List.not_mem_nil) (by simp; omega)
  have e2 : prodR R = N := by rw [a2, h2]; exact Nat.one_mul N
  refine ⟨R, e2 ▸ a1.isF, by simp at a3; omega, ?_⟩
  unfold x_powers_in
  rw [h5, bndO_some, nlL_n, iteB_t]
  exact a4
/-! ### units, turn, sums of divisors, from the rows -/
theorem check_ok {N : Nat} (h0 : 0 < N) (h1 : N ≤ 100000000000000) : x_check_number (.ofNat N) = some .none := by
  unfold x_check_number
  rw [le_n, decide_eq_true (show 1 ≤ N from h0), le_n, decide_eq_true h1]
  rfl
def unR : List Nt.Row → Nat
  | [] => 1
  | r :: R => r.1 ^ (r.2 - 1) * (r.1 - 1) * unR R
theorem unR_eq : ∀ {R : List Nt.Row}, (∀ r ∈ R, Pr r.1) → (unR R : Int) = M uf R
  | [], _ => rfl
  | r :: R, h => by
    have h1 := (h r List.mem_cons_self).1
    show ((r.1 ^ (r.2 - 1) * (r.1 - 1) * unR R : Nat) : Int) = uf r.1 r.2 * M uf R
    rw [Int.natCast_mul, Int.natCast_mul, unR_eq fun r hr => h r (List.mem_cons_of_mem _ hr)]
    unfold uf
    rw [Int.natCast_pow, Int.natCast_sub (by omega)]
    rfl
theorem units_L : ∀ (R : List Nt.Row) (a : Nat), 1 ≤ a → (∀ r ∈ R, Pr r.1) → (∀ r ∈ R, 1 ≤ r.2) → a * prodR R ≤ 1000000000 → x_units_L1 (R.map eR) (.ofNat (a * prodR R)) = some (.ofNat (a * unR R))
  | [], a, _, _, _, _ => rfl
  | r :: R, a, ha, hp, h1, hb => by
    have e : x_units_L1 ((r :: R).map eR) (.ofNat (a * prodR (r :: R))) = x_units_B1 (x_units_L1 (R.map eR)) (eR r) (.ofNat (a * prodR (r :: R))) := rfl
    have h2 := (hp r List.mem_cons_self).1
    have he := h1 r List.mem_cons_self
    have hv : a * prodR (r :: R) = r.1 * (a * r.1 ^ (r.2 - 1) * prodR R) := by
      show a * (r.1 ^ r.2 * prodR R) = _
      have : r.1 ^ r.2 = r.1 ^ (r.2 - 1) * r.1 := by rw [← Nat.pow_succ]; congr 1; omega
      rw [this]
      ac_rfl
    have hd : a * prodR (r :: R) / r.1 = a * r.1 ^ (r.2 - 1) * prodR R := by rw [hv]; exact Nat.mul_div_cancel_left _ (by omega)
    have pp : 1 ≤ a * r.1 ^ (r.2 - 1) * prodR R := Nat.mul_pos (Nat.mul_pos ha (Nat.pow_pos (by omega))) (prodR_pos fun r hr => hp r (List.mem_cons_of_mem _ hr))
    have pr := Nat.mul_le_mul_left r.1 pp
    rw [← hv] at pr
    have hnew : a * r.1 ^ (r.2 - 1) * prodR R * (r.1 - 1) = a * (r.1 ^ (r.2 - 1) * (r.1 - 1)) * prodR R := by ac_rfl
    have hle : a * (r.1 ^ (r.2 - 1) * (r.1 - 1)) * prodR R ≤ 1000000000 := by
      rw [← hnew]
      refine Nat.le_trans ?_ hb
      rw [hv, Nat.mul_comm r.1]
      exact Nat.mul_le_mul_left _ (by omega)
    rw [e]
    unfold x_units_B1
    show (iteB (divQ (.ofNat r.1)) (iteB (mulQ (fdivZ (.ofNat (a * prodR (r :: R))) (.ofNat r.1)) (subZ (.ofNat r.1) (.ofNat 1))) (frcI (mulZ (fdivZ (.ofNat (a * prodR (r :: R))) (.ofNat r.1)) (subZ (.ofNat r.1) (.ofNat 1))) fun x27 => x_units_L1 (R.map eR) x27) none) none) = _
    have hr1 : r.1 ≤ 1000000000000000000000000000000 := by omega
    rw [divQ_n (by omega) hr1, iteB_t, fdiv_n, hd, sub_n (by omega), mulQ_n ?_ (by omega), iteB_t, mul_n, frcI_eq, hnew, units_L R _ (Nat.mul_pos ha (Nat.mul_pos (Nat.pow_pos (by omega)) (by omega))) (fun r hr => hp r (List.mem_cons_of_mem _ hr)) (fun r hr => h1 r (List.mem_cons_of_mem _ hr)) hle]
    · congr 2
      show _ = a * (r.1 ^ (r.2 - 1) * (r.1 - 1) * unR R)
      ac_rfl
    · rw [← hd]
      have := Nat.div_le_self (a * prodR (r :: R)) r.1
      omega
theorem units_some {N : Nat} {R : List Nt.Row} (hb : N ≤ 1000000000) (hR : IsF N R) (he : x_powers_in (.ofNat N) = some (R.map eR)) : x_units (.ofNat N) = some (M uf R) := by
  have h0 := hR.pos'
  unfold x_units
  rw [check_ok h0 (by omega), bndO_some, show nlK PyData.none = true from rfl, iteB_t, he, bndO_some, nlL_eR, iteB_t]
  have := units_L R 1 (Nat.le_refl 1) hR.pr hR.pos (by rw [hR.eq]; omega)
  rw [hR.eq, Nat.one_mul, Nat.one_mul] at this
  rw [this, ← unR_eq hR.pr]
  rfl
def tf (p e : Nat) : Int := if 1 < e then 0 else -1
theorem mapQ_R (T : Ev.D → Ev.D) : ∀ l : List Nt.Row, mapQ T (l.map eR) = l.map fun q => T (eR q)
  | [] => rfl
  | q :: l => by show T (eR q) :: mapQ T (l.map eR) = _; rw [mapQ_R T l]; rfl
theorem allQ_R (G : Ev.D → Bool) : ∀ {l : List Nt.Row}, (∀ q ∈ l, G (eR q) = true) → allQ G (l.map eR) = true
  | [], _ => rfl
  | q :: l, h => by
    show iteB (G (eR q)) (allQ G (l.map eR)) false = true
    rw [h q List.mem_cons_self, iteB_t]
    exact allQ_R G fun q hq => h q (List.mem_cons_of_mem _ hq)
theorem boosB_R (g : Nt.Row → Bool) : ∀ l : List Nt.Row, boosB (l.map fun q => PyData.bool (g q)) = true
  | [] => rfl
  | q :: l => boosB_R g l
theorem turn_any : ∀ {R : List Nt.Row}, anyK (R.map fun q => PyData.bool (ltZ (.ofNat 1) (.ofNat q.2))) = true → M tf R = 0
  | r :: R, h => by
    have h' : iteB (ltZ (.ofNat 1) (.ofNat r.2)) true (anyK (R.map fun q => PyData.bool (ltZ (.ofNat 1) (.ofNat q.2)))) = true := h
    show tf r.1 r.2 * M tf R = 0
    rw [lt_n, iteB_d] at h'
    unfold tf
    split at h'
    · rename_i h1
      rw [if_pos h1, Int.zero_mul]
    · have := turn_any h'
      unfold tf at this
      rw [this, Int.mul_zero]
theorem turn_none : ∀ {R : List Nt.Row}, anyK (R.map fun q => PyData.bool (ltZ (.ofNat 1) (.ofNat q.2))) = false → M tf R = if R.length % 2 = 0 then 1 else -1
  | [], h => rfl
  | r :: R, h => by
    have h' : iteB (ltZ (.ofNat 1) (.ofNat r.2)) true (anyK (R.map fun q => PyData.bool (ltZ (.ofNat 1) (.ofNat q.2)))) = false := h
    rw [lt_n, iteB_d] at h'
    have e : M tf (r :: R) = tf r.1 r.2 * M tf R := rfl
    have hl : (r :: R).length = R.length + 1 := rfl
    rw [e, hl]
    by_cases h1 : 1 < r.2
    · rw [if_pos h1] at h'; cases h'
    · rw [if_neg h1] at h'
      rw [turn_none h', show tf r.1 r.2 = -1 from if_neg h1]
      by_cases h2 : R.length % 2 = 0
      · rw [if_pos h2, if_neg (by omega)]; rfl
      · rw [if_neg h2, if_pos (by omega)]; rfl
theorem turn_some {N : Nat} {R : List Nt.Row} (hb : N ≤ 1000000000) (hl : R.length ≤ 1000) (hR : IsF N R) (he : x_powers_in (.ofNat N) = some (R.map eR)) : x_turn (.ofNat N) = some (M tf R) := by
  have h0 := hR.pos'
  unfold x_turn
  rw [check_ok h0 (by omega), bndO_some, show nlK PyData.none = true from rfl, iteB_t, he, bndO_some, nlL_eR, iteB_t]
  rw [allQ_R _ (fun _ _ => rfl), iteB_t, shB_le (by rw [List.length_map]; omega), iteB_t, mapQ_R]
  rw [show (R.map fun q => PyData.bool (ltZ (.ofNat 1) (asI (x21 (eR q))))) = R.map fun q => PyData.bool (ltZ (.ofNat 1) (.ofNat q.2)) from rfl]
  rw [boosB_R fun q => ltZ (.ofNat 1) (.ofNat q.2), iteB_t]
  cases h : anyK (R.map fun q => PyData.bool (ltZ (.ofNat 1) (.ofNat q.2))) with
  | true => rw [turn_any h]; rfl
  | false =>
    rw [turn_none h, iteB_f, frcI_eq]
    unfold Nx.lenZ
    rw [lenK_eq, List.length_map, Nat.add_zero, fmod_n, eq_n, iteB_d]
    rfl
/-! ### powers of whole numbers -/
theorem tower_L {B : Nat} (hB : B ≤ 1000000000000000) : ∀ (m k t b f : Nat), t < 2 ^ k → k < m → f * b ^ t ≤ B → 1 ≤ f → 1 ≤ b → x_tower_L1 m (.ofNat b) (.ofNat t) (.ofNat f) = some (.ofNat (f * b ^ t))
  | 0, k, t, b, f, _, h, _, _, _ => absurd h (Nat.not_lt_zero _)
  | m + 1, k, t, b, f, ht, hk, h1, h2, h3 => by
    have e : x_tower_L1 (m + 1) (.ofNat b) (.ofNat t) (.ofNat f) = x_tower_B1 (x_tower_L1 m) (.ofNat b) (.ofNat t) (.ofNat f) := rfl
    rw [e]
    unfold x_tower_B1
    rw [lt_n, iteB_d]
    by_cases h0 : 0 < t
    · have k0 : k ≠ 0 := fun z => by subst z; omega
      have ht2 : t / 2 < 2 ^ (k - 1) := by
        rw [Nat.div_lt_iff_lt_mul (by omega), ← Nat.pow_succ, show (k - 1).succ = k by omega]
        exact ht
      have fb : f * b ≤ f * b ^ t := Nat.mul_le_mul_left f (by
        have := Nat.pow_le_pow_right h3 (show 1 ≤ t from h0)
        rw [Nat.pow_one] at this
        exact this)
      have b1 : b ≤ f * b := Nat.le_mul_of_pos_left b h2
      have f1 : f ≤ f * b := Nat.le_mul_of_pos_right f h3
      rw [if_pos h0, fmod_n, eq_n, iteB_d]
      have J : ∀ g, 1 ≤ g → g * (b * b) ^ (t / 2) = f * b ^ t → x_tower_J2 (x_tower_L1 m) (.ofNat b) (.ofNat t) (.ofNat g) = some (.ofNat (f * b ^ t)) := by
        intro g hg e1
        unfold x_tower_J2
        rw [mulQ_n (by omega) (by omega), iteB_t, mul_n, frcI_eq, fdiv_n, frcI_eq, tower_L hB m (k - 1) (t / 2) (b * b) g ht2 (by omega) (by omega) hg (Nat.mul_pos h3 h3), e1]
      have sq : (b * b) ^ (t / 2) = b ^ (2 * (t / 2)) := by rw [Nat.pow_mul, Nat.pow_two]
      split
      · rename_i h4
        rw [mulQ_n (by omega) (by omega), iteB_t, mul_n, frcI_eq]
        refine J (f * b) (by omega) ?_
        rw [sq, Nat.mul_assoc, ← Nat.pow_succ']
        congr 2
        omega
      · rename_i h4
        refine J f h2 ?_
        rw [sq]
        congr 2
        omega
    · have : t = 0 := by omega
      subst this
      rw [if_neg h0, Nat.pow_zero, Nat.mul_one]
      rfl
theorem tower_some {b t : Nat} (h1 : 1 ≤ b) (ht : t < 1000000) (hb : b ^ t ≤ 1000000000000000) : x_tower (.ofNat b) (.ofNat t) = some (.ofNat (b ^ t)) := by
  have := tower_L (Nat.le_refl _) 1000 900 t b 1 (Nat.lt_of_lt_of_le ht (Nat.le_trans (show 1000000 ≤ 2 ^ 20 by decide) (Nat.pow_le_pow_right (by omega) (by omega)))) (by omega) (by rw [Nat.one_mul]; exact hb) (Nat.le_refl 1) h1
  rw [Nat.one_mul] at this
  exact this
/-! ### divisors -/
def extL (F : List Nat) (p : Nat) : Nat → Nat → List Nat
  | 0, _ => []
  | m + 1, i => (F.map fun x => x * p ^ i) ++ extL F p m (i + 1)
theorem extL_len (F : List Nat) (p : Nat) : ∀ m i, (extL F p m i).length = m * F.length
  | 0, i => by show 0 = _; rw [Nat.zero_mul]
  | m + 1, i => by
    show ((F.map fun x => x * p ^ i) ++ extL F p m (i + 1)).length = _
    rw [List.length_append, List.length_map, extL_len F p m, Nat.succ_mul, Nat.add_comm]
theorem extL_mem {F : List Nat} {p : Nat} : ∀ {m i y}, y ∈ extL F p m i → ∃ x ∈ F, ∃ j, j < i + m ∧ y = x * p ^ j
  | m + 1, i, y, h => by
    rcases List.mem_append.mp (show y ∈ (F.map fun x => x * p ^ i) ++ extL F p m (i + 1) from h) with h | h
    · obtain ⟨x, hx, rfl⟩ := List.mem_map.mp h
      exact ⟨x, hx, i, by omega, rfl⟩
    · obtain ⟨x, hx, j, hj, e⟩ := extL_mem h
      exact ⟨x, hx, j, by omega, e⟩
def SS : List Nat → Int
  | [] => 0
  | x :: l => (x : Int) * x + SS l
theorem SS_app : ∀ a b, SS (a ++ b) = SS a + SS b
  | [], b => by show SS b = 0 + SS b; rw [Int.zero_add]
  | x :: a, b => by show (x : Int) * x + SS (a ++ b) = (x : Int) * x + SS a + SS b; rw [SS_app a b, Int.add_assoc]
theorem SS_perm {a b : List Nat} (h : a.Perm b) : SS a = SS b := by
  induction h with
  | nil => rfl
  | cons x _ ih => show (x : Int) * x + _ = (x : Int) * x + _; rw [ih]
  | swap x y l => show (y : Int) * y + ((x : Int) * x + SS l) = (x : Int) * x + ((y : Int) * y + SS l); omega
  | trans _ _ i j => rw [i, j]
theorem SS_map (q : Nat) : ∀ F : List Nat, SS (F.map fun x => x * q) = SS F * ((q : Int) * q)
  | [] => by show (0 : Int) = 0 * _; rw [Int.zero_mul]
  | x :: F => by
    show ((x * q : Nat) : Int) * ((x * q : Nat) : Int) + SS (F.map fun x => x * q) = ((x : Int) * x + SS F) * ((q : Int) * q)
    rw [SS_map q F, Int.natCast_mul]
    grind
def gs (p : Nat) : Nat → Nat → Int
  | 0, _ => 0
  | m + 1, i => ((p ^ i : Nat) : Int) * ((p ^ i : Nat) : Int) + gs p m (i + 1)
theorem SS_ext (F : List Nat) (p : Nat) : ∀ m i, SS (extL F p m i) = SS F * gs p m i
  | 0, i => by show (0 : Int) = _ * 0; rw [Int.mul_zero]
  | m + 1, i => by
    show SS ((F.map fun x => x * p ^ i) ++ extL F p m (i + 1)) = SS F * (((p ^ i : Nat) : Int) * ((p ^ i : Nat) : Int) + gs p m (i + 1))
    rw [SS_app, SS_map, SS_ext F p m, Int.mul_add]
def sf (p e : Nat) : Int := gs p (e + 1) 0
theorem div_L2 {ih : List Ev.D → Option (List Ev.D)} {F : List Nat} {p : Nat} (hp : 1 ≤ p) (hF : ∀ x ∈ F, x ≤ 1000000000) (hFl : F.length ≤ 16000000) : ∀ (m i : Nat) (G : List Nat), (∀ j, j < i + m → p ^ j ≤ 1000000000) → i + m < 1000000 → G.length + m * F.length ≤ 16000000 →
    x_divisors_L2 ih (F.map nD) (.ofNat p) m (.ofNat i) (G.map nD) = ih ((G ++ extL F p m i).map nD)
  | 0, i, G, _, _, _ => by
    show ih (G.map nD) = ih ((G ++ []).map nD)
    rw [List.append_nil]
  | m + 1, i, G, hj, hm, hl => by
    have e : x_divisors_L2 ih (F.map nD) (.ofNat p) (m + 1) (.ofNat i) (G.map nD) = x_divisors_B2 ih (F.map nD) (.ofNat p) (x_divisors_L2 ih (F.map nD) (.ofNat p) m (addZ (.ofNat i) (.ofNat 1))) (.ofNat i) (G.map nD) := rfl
    have hpi := hj i (by omega)
    have ht := tower_some hp (show i < 1000000 by omega) (show p ^ i ≤ 1000000000000000 by omega)
    have hs : (m + 1) * F.length = m * F.length + F.length := Nat.succ_mul _ _
    rw [e]
    unfold x_divisors_B2
    rw [frcI_eq, ht, show getO (Int.ofNat 0) (some (Int.ofNat (p ^ i))) = .ofNat (p ^ i) from rfl]
    rw [allQ_map _ (fun x hx => by
      show andB true (andB true (mulQ (.ofNat x) (.ofNat (p ^ i)))) = true
      have := hF x hx
      rw [mulQ_n (by omega) (by omega)]; rfl), iteB_t, shB_le (by rw [List.length_map]; omega), iteB_t, mapQ_map]
    have e2 : appK (G.map nD) (F.map fun q => PyData.int (mulZ (asI (nD q)) (.ofNat (p ^ i)))) = (G ++ F.map fun x => x * p ^ i).map nD := by
      rw [appK_eq, List.map_append, List.map_map]; rfl
    rw [e2, shB_le (by rw [List.length_map, List.length_append, List.length_map]; omega), iteB_t, frcLL_eq, add_n, div_L2 hp hF hFl m (i + 1) _ (fun j h => hj j (by omega)) (by omega) (by rw [List.length_append, List.length_map]; omega), List.append_assoc]
    rfl
theorem lt_pow {p : Nat} (hp : 2 ≤ p) : ∀ e, e + 1 ≤ p ^ e
  | 0 => Nat.le_refl 1
  | e + 1 => by
    have := lt_pow hp e
    have := Nat.mul_le_mul this hp
    have e3 : p ^ (e + 1) = p ^ e * p := rfl
    omega
theorem div_L1 : ∀ (R : List Nt.Row) (F : List Nat) (a : Nat), (∀ r ∈ R, Pr r.1) → F.length ≤ a → (∀ x ∈ F, 1 ≤ x ∧ x ≤ a) → 1 ≤ a → a * prodR R ≤ 10000000 → ∃ G : List Nat, SS G = SS F * M sf R ∧ G.length ≤ a * prodR R ∧ (∀ x ∈ G, 1 ≤ x ∧ x ≤ a * prodR R) ∧ x_divisors_L1 (R.map eR) (F.map nD) = some (G.map nD)
  | [], F, a, _, h1, h2, _, _ => by
    refine ⟨sortN F, ?_, ?_, fun x hx => ?_, ?_⟩
    · show _ = SS F * 1
      rw [Int.mul_one, SS_perm (sortN_perm F)]
    · rw [(sortN_perm F).length_eq]
      show _ ≤ a * 1
      omega
    · have := h2 x ((sortN_perm F).mem_iff.mp hx)
      show 1 ≤ x ∧ x ≤ a * 1
      omega
    · show bndO (sortK (F.map nD)) _ = _
      rw [sortK_n]; rfl
  | r :: R, F, a, hp, h1, h2, h3, hb => by
    have e : x_divisors_L1 ((r :: R).map eR) (F.map nD) = x_divisors_B1 (x_divisors_L1 (R.map eR)) (eR r) (F.map nD) := rfl
    have hr := (hp r List.mem_cons_self).1
    have hpR : ∀ r ∈ R, Pr r.1 := fun r h => hp r (List.mem_cons_of_mem _ h)
    have hq := prodR_pos hpR
    have hx : a * prodR (r :: R) = a * r.1 ^ r.2 * prodR R := by
      show a * (r.1 ^ r.2 * prodR R) = _
      rw [Nat.mul_assoc]
    have hy : a * r.1 ^ r.2 ≤ 10000000 := by
      rw [hx] at hb
      exact Nat.le_trans (Nat.le_mul_of_pos_right _ hq) hb
    have hpe : r.1 ^ r.2 ≤ a * r.1 ^ r.2 := Nat.le_mul_of_pos_left _ h3
    have hlp := lt_pow hr r.2
    have hr2 : r.2 < 24 := by
      refine Classical.byContradiction fun z => ?_
      have z1 := Nat.pow_le_pow_right (n := 2) (by omega) (show 24 ≤ r.2 by omega)
      have z2 := Nat.pow_le_pow_left hr r.2
      omega
    have hal : (r.2 + 1) * F.length ≤ a * r.1 ^ r.2 := by
      rw [Nat.mul_comm a]
      exact Nat.mul_le_mul hlp h1
    have ha : a ≤ a * r.1 ^ r.2 := Nat.le_mul_of_pos_right a (Nat.pow_pos (by omega))
    have hpj : ∀ j, j < 0 + (r.2 + 1) → r.1 ^ j ≤ r.1 ^ r.2 := fun j hj => Nat.pow_le_pow_right (by omega) (by omega)
    rw [e]
    unfold x_divisors_B1
    show ∃ G : List Nat, _ ∧ _ ∧ _ ∧ iteB (rfB (.ofNat 0) (addZ (.ofNat r.2) (.ofNat 1))) (x_divisors_L2 (x_divisors_L1 (R.map eR)) (F.map nD) (.ofNat r.1) (natZ (addZ (.ofNat r.2) (.ofNat 1))) (.ofNat 0) []) none = some (G.map nD)
    rw [add_n, rfB_n (by omega) (by omega), iteB_t, natZ_n, show ([] : List Ev.D) = ([] : List Nat).map nD from rfl, div_L2 (by omega) (fun x hx => by have := h2 x hx; omega) (by omega) (r.2 + 1) 0 [] (fun j hj => by have := hpj j hj; omega) (by omega) (by rw [List.length_nil]; omega), List.nil_append]
    obtain ⟨G, g1, g2, g3, g4⟩ := div_L1 R (extL F r.1 (r.2 + 1) 0) (a * r.1 ^ r.2) hpR (by rw [extL_len]; exact hal) (fun y hy => by
      obtain ⟨x, hx, j, hj, e⟩ := extL_mem hy
      have h4 := h2 x hx
      have h5 := hpj j hj
      have h6 : 1 ≤ r.1 ^ j := Nat.pow_pos (by omega)
      rw [e]
      exact ⟨Nat.mul_pos h4.1 h6, Nat.mul_le_mul h4.2 h5⟩) (by omega) (by rw [← hx]; exact hb)
    rw [← hx] at g2 g3
    refine ⟨G, ?_, g2, g3, g4⟩
    rw [g1, SS_ext]
    show SS F * sf r.1 r.2 * M sf R = SS F * (sf r.1 r.2 * M sf R)
    rw [Int.mul_assoc]
theorem sumsq : ∀ l : List Nat, (intsK (l.map fun q => PyData.int (.ofNat (q ^ 2)))).sum = SS l
  | [] => rfl
  | x :: l => by
    show (Int.ofNat (x ^ 2) :: intsK (l.map fun q => PyData.int (.ofNat (q ^ 2)))).sum = (x : Int) * x + SS l
    rw [List.sum_cons, sumsq l, Int.ofNat_eq_natCast, Nat.pow_two, Int.natCast_mul]
theorem sum2_some {N : Nat} {R : List Nt.Row} (hb : N ≤ 10000000) (hR : IsF N R) (he : x_powers_in (.ofNat N) = some (R.map eR)) : x_sum_of_divisors (.ofNat N) (.ofNat 2) = some (M sf R) := by
  have h0 := hR.pos'
  obtain ⟨G, g1, g2, g3, g4⟩ := div_L1 R [1] 1 hR.pr (Nat.le_refl 1) (fun x hx => by rw [List.mem_singleton.mp hx]; exact ⟨Nat.le_refl 1, Nat.le_refl 1⟩) (Nat.le_refl 1) (by rw [hR.eq]; omega)
  rw [hR.eq, Nat.one_mul] at g2 g3
  have hd : x_divisors (.ofNat N) = some (G.map nD) := by
    unfold x_divisors
    rw [check_ok h0 (by omega), bndO_some, show nlK PyData.none = true from rfl, iteB_t, frcLL_eq, he, bndO_some, nlL_eR, iteB_t]
    exact g4
  unfold x_sum_of_divisors
  rw [lt_n, iteB_d, if_neg (by omega), hd, bndO_some, nlL_n, iteB_t]
  have ht : ∀ x ∈ G, x_tower (.ofNat x) (.ofNat 2) = some (.ofNat (x ^ 2)) := fun x hx => tower_some (g3 x hx).1 (by omega) (by
    have := (g3 x hx).2
    have := Nat.mul_le_mul (show x ≤ 10000000 by omega) (show x ≤ 10000000 by omega)
    rw [Nat.pow_two]
    omega)
  rw [allQ_map _ (fun x hx => by
    show andB true (isSomeB (x_tower (.ofNat x) (.ofNat 2))) = true
    rw [ht x hx]; rfl), iteB_t, shB_le (by rw [List.length_map]; omega), iteB_t, mapQ_map]
  have e2 : (G.map fun q => PyData.int (getO (Int.ofNat 0) (x_tower (asI (nD q)) (.ofNat 2)))) = G.map fun q => PyData.int (.ofNat (q ^ 2)) := List.map_congr_left fun x hx => by
    show PyData.int (getO (Int.ofNat 0) (x_tower (.ofNat x) (.ofNat 2))) = _
    rw [ht x hx]; rfl
  rw [e2]
  have e3 : ∀ l : List Nat, intsB (l.map fun q => PyData.int (.ofNat (q ^ 2))) = true := by
    intro l
    induction l with
    | nil => rfl
    | cons x l ih => exact ih
  rw [e3, iteB_t, frcI_eq, sumK_eq, sumsq, g1]
  congr 1
  show (0 : Int) + (1 + 0) * M sf R = _
  omega
/-! ### common divisors -/
theorem com_step {m r0 r1 : Nat} {x0 x1 y0 y1 : Int} (h0 : r0 ≤ 1000000000) (h1 : r1 ≤ 1000000000) (hx : x1.natAbs ≤ 1000000000000) (hy : y1.natAbs ≤ 1000000000000) :
    x_common_L1 (m + 1) [.int (.ofNat r0), .int x0, .int y0] [.int (.ofNat r1), .int x1, .int y1] = if r1 = 0 then some [.int (.ofNat r0), .int x0, .int y0] else x_common_L1 m [.int (.ofNat r1), .int x1, .int y1] [.int (.ofNat (r0 % r1)), .int (x0 - (r0 / r1 : Nat) * x1), .int (y0 - (r0 / r1 : Nat) * y1)] := by
  have e : x_common_L1 (m + 1) [.int (.ofNat r0), .int x0, .int y0] [.int (.ofNat r1), .int x1, .int y1] = x_common_B1 (x_common_L1 m) [.int (.ofNat r0), .int x0, .int y0] [.int (.ofNat r1), .int x1, .int y1] := rfl
  rw [e]
  unfold x_common_B1
  rw [show ixK [PyData.int (.ofNat r1), .int x1, .int y1] (.ofNat 0) = some (.int (.ofNat r1)) from rfl, bndO_some, show shK (.int (.ofNat r1)) 8 = true from rfl, iteB_t]
  rw [show eqK (.int (.ofNat r1)) (.int (.ofNat 0)) = eqZ (.ofNat r1) (.ofNat 0) from rfl, eq_n, notB_d, iteB_d]
  by_cases hz : r1 = 0
  · rw [if_pos hz, if_neg (by simpa using hz)]
    unfold x_common_K1
    rw [show ixK [PyData.int (.ofNat r0), .int x0, .int y0] (.ofNat 0) = some (.int (.ofNat r0)) from rfl, bndO_some, dInt_i, lt_n, decide_eq_false (show ¬ r0 < 0 by omega)]
    rw [iteB_f, iteB_f, iteB_t, frcLL_eq]
  · rw [if_neg hz, if_pos hz]
    have q1 : r0 / r1 ≤ r0 := Nat.div_le_self _ _
    have q2 : r1 * (r0 / r1) ≤ r0 := Nat.mul_div_le _ _
    rw [show ixK [PyData.int (.ofNat r0), .int x0, .int y0] (.ofNat 0) = some (.int (.ofNat r0)) from rfl, bndO_some, bndO_some, dInt_i, dInt_i]
    rw [divQ_n (by omega) (by omega), iteB_t, fdiv_n, frcI_eq, rfB_n (by omega) (by omega), iteB_t, show Nat.ble (natZ (.ofNat 3)) 16777215 = true from rfl, iteB_t]
    have g : allR (fun i51 => (andB (isSomeB (ixK [PyData.int (.ofNat r0), .int x0, .int y0] i51)) (andB (isSomeB (ixK [PyData.int (.ofNat r1), .int x1, .int y1] i51)) (andB (isI (getO PyData.none (ixK [PyData.int (.ofNat r1), .int x1, .int y1] i51))) (andB (mulQ (.ofNat (r0 / r1)) (asI (getO PyData.none (ixK [PyData.int (.ofNat r1), .int x1, .int y1] i51)))) (isI (getO PyData.none (ixK [PyData.int (.ofNat r0), .int x0, .int y0] i51)))))))) (natZ (.ofNat 3)) (.ofNat 0) = true := by
      show iteB (andB true (andB true (andB true (andB (mulQ (.ofNat (r0 / r1)) (.ofNat r1)) true)))) (iteB (andB true (andB true (andB true (andB (mulQ (.ofNat (r0 / r1)) x1) true)))) (iteB (andB true (andB true (andB true (andB (mulQ (.ofNat (r0 / r1)) y1) true)))) true false) false) false = true
      rw [mulQ_n (by omega) (by omega), mulQ_small (i := .ofNat (r0 / r1)) (j := x1) (by show r0 / r1 ≤ _; omega) (by omega), mulQ_small (i := .ofNat (r0 / r1)) (j := y1) (by show r0 / r1 ≤ _; omega) (by omega)]
      rfl
    rw [g, iteB_t, frcLL_eq]
    have e1 : subZ (.ofNat r0) (mulZ (.ofNat (r0 / r1)) (.ofNat r1)) = .ofNat (r0 % r1) := by
      rw [mul_n, sub_n (by rw [Nat.mul_comm]; exact q2)]
      congr 1
      have := Nat.div_add_mod r0 r1
      rw [Nat.mul_comm] at this
      omega
    show x_common_L1 m _ [.int (subZ (.ofNat r0) (mulZ (.ofNat (r0 / r1)) (.ofNat r1))), .int (subZ x0 (mulZ (.ofNat (r0 / r1)) x1)), .int (subZ y0 (mulZ (.ofNat (r0 / r1)) y1))] = _
    rw [e1, subZ_eq, subZ_eq, mulZ_eq, mulZ_eq]
    rfl
theorem com_inv {K r0 r1 : Nat} {x0 x1 : Int} (h : r0 * x1.natAbs + r1 * x0.natAbs ≤ K) (hr : r1 ≠ 0) : r1 * (x0 - (r0 / r1 : Nat) * x1).natAbs + r0 % r1 * x1.natAbs ≤ K ∧ (x0 - (r0 / r1 : Nat) * x1).natAbs ≤ K := by
  have a1 : (x0 - (r0 / r1 : Nat) * x1).natAbs ≤ x0.natAbs + (r0 / r1) * x1.natAbs := by
    have := Int.natAbs_sub_le x0 ((r0 / r1 : Nat) * x1)
    rw [Int.natAbs_mul, Int.natAbs_natCast] at this
    exact this
  have a2 := Nat.mul_le_mul_left r1 a1
  have a3 : r0 = r1 * (r0 / r1) + r0 % r1 := (Nat.div_add_mod r0 r1).symm
  have a4 : r1 * (x0.natAbs + r0 / r1 * x1.natAbs) + r0 % r1 * x1.natAbs = r0 * x1.natAbs + r1 * x0.natAbs := by
    rw [Nat.mul_add]
    have : r0 * x1.natAbs = r1 * (r0 / r1 * x1.natAbs) + r0 % r1 * x1.natAbs := by
      rw [← Nat.mul_assoc, ← Nat.add_mul, ← a3]
    omega
  have a5 : (x0 - (r0 / r1 : Nat) * x1).natAbs ≤ r1 * (x0 - (r0 / r1 : Nat) * x1).natAbs := Nat.le_mul_of_pos_left _ (by omega)
  omega
theorem com_L {K : Nat} (hK : K ≤ 1000000000000) : ∀ (m r0 r1 : Nat) (x0 x1 y0 y1 : Int), r1 < m → r0 ≤ 1000000000 → r1 ≤ 1000000000 → x1.natAbs ≤ K → y1.natAbs ≤ K → r0 * x1.natAbs + r1 * x0.natAbs ≤ K → r0 * y1.natAbs + r1 * y0.natAbs ≤ K →
    ∃ x y, x_common_L1 m [.int (.ofNat r0), .int x0, .int y0] [.int (.ofNat r1), .int x1, .int y1] = some [.int (.ofNat (Nat.gcd r0 r1)), .int x, .int y]
  | 0, _, _, _, _, _, _, h, _, _, _, _, _, _ => absurd h (Nat.not_lt_zero _)
  | m + 1, r0, r1, x0, x1, y0, y1, hm, h0, h1, hx, hy, kx, ky => by
    rw [com_step h0 h1 (by omega) (by omega)]
    by_cases hz : r1 = 0
    · subst hz
      rw [if_pos rfl, Nat.gcd_zero_right]
      exact ⟨_, _, rfl⟩
    · rw [if_neg hz]
      have i1 := com_inv kx hz
      have i2 := com_inv ky hz
      have hlt := Nat.mod_lt r0 (show 0 < r1 by omega)
      have := com_L hK m r1 (r0 % r1) x1 _ y1 _ (by omega) h1 (by omega) i1.2 i2.2 i1.1 i2.1
      rw [Nat.gcd_comm r1, ← Nat.gcd_rec, Nat.gcd_comm] at this
      exact this
theorem com_some {a b : Nat} (ha : a ≤ 1000000) (hb : b ≤ 1000000) (h : a ≤ 900 ∨ b ≤ 900) : ∃ x y, x_common (nD a) (nD b) = some [.int (.ofNat (Nat.gcd a b)), .int x, .int y] := by
  unfold x_common
  rw [frcLL_eq, frcLL_eq]
  by_cases hb9 : b ≤ 900
  · exact com_L (K := 1000001) (by omega) 1000 a b 1 0 0 1 (by omega) (by omega) (by omega) (by decide) (by show 1 ≤ 1000001; omega) (by show a * 0 + b * 1 ≤ _; omega) (by show a * 1 + b * 0 ≤ _; omega)
  · show ∃ x y, x_common_L1 (999 + 1) [.int (.ofNat a), .int 1, .int 0] [.int (.ofNat b), .int 0, .int 1] = _
    rw [com_step (by omega) (by omega) (by decide) (by decide), if_neg (by omega)]
    have ea : a / b = 0 := Nat.div_eq_of_lt (by omega)
    have em : a % b = a := Nat.mod_eq_of_lt (by omega)
    rw [ea, em]
    have := com_L (K := 1000001) (by omega) 999 b a 0 (1 - ((0 : Nat) : Int) * 0) 1 (0 - ((0 : Nat) : Int) * 1) (by omega) (by omega) (by omega) (by decide) (by decide) (by show b * 1 + a * 0 ≤ _; omega) (by show b * 0 + a * 1 ≤ _; omega)
    rw [Nat.gcd_comm b] at this
    exact this
theorem gcd_some {n m : Nat} (hn : n ≤ 1000000) (hm : m ≤ 900) : x_gcd_of (.tuple [nD n, nD m]) = some (nD (Nat.gcd n m)) := by
  obtain ⟨x1, y1, e1⟩ := com_some (a := 0) (b := n) (by omega) hn (.inl (by omega))
  obtain ⟨x2, y2, e2⟩ := com_some (a := n) (b := m) hn (by omega) (.inr hm)
  rw [Nat.gcd_zero_left] at e1
  unfold x_gcd_of
  show x_gcd_of_B1 (x_gcd_of_L1 [nD m]) (nD n) (nD 0) = _
  unfold x_gcd_of_B1
  rw [e1, bndO_some]
  show x_gcd_of_B1 (x_gcd_of_L1 []) (nD m) (nD n) = _
  unfold x_gcd_of_B1
  rw [e2]
  rfl
theorem lcm_B {n m : Nat} {ih : Int → Option Int} (hn : n ≤ 1000000) (hm : m ≤ 1000000) (hm0 : m ≠ 0) (h : n ≤ 900 ∨ m ≤ 900) : x_lcm_of_B1 ih (nD m) (.ofNat n) = ih (.ofNat (n * m / Nat.gcd n m)) := by
  obtain ⟨x, y, e⟩ := com_some hn hm h
  unfold x_lcm_of_B1
  rw [show shK (nD m) 8 = true from rfl, iteB_t, show eqK (nD m) (.int (.ofNat 0)) = eqZ (.ofNat m) (.ofNat 0) from rfl, eq_n, decide_eq_false hm0, iteB_f]
  show iteB (mulQ (.ofNat n) (.ofNat m)) (bndO (x_common (nD n) (nD m)) _) none = _
  have hg : 0 < Nat.gcd n m := Nat.gcd_pos_of_pos_right n (by omega)
  have hg2 : Nat.gcd n m ≤ m := Nat.gcd_le_right n (by omega)
  rw [mulQ_n (by omega) (by omega), iteB_t, e, bndO_some, show nlL [PyData.int (.ofNat (Nat.gcd n m)), .int x, .int y] = true from rfl, iteB_t]
  show iteB (divQ (.ofNat (Nat.gcd n m))) (frcI (fdivZ (absI (mulZ (.ofNat n) (.ofNat m))) (.ofNat (Nat.gcd n m))) _) none = _
  rw [divQ_n hg (by omega), iteB_t, frcI_eq]
  rfl
theorem lcm_some {n m : Nat} (hn : n ≤ 1000000) (hm : m ≤ 900) (hn0 : n ≠ 0) (hm0 : m ≠ 0) : x_lcm_of (.tuple [nD n, nD m]) = some (.ofNat (n * m / Nat.gcd n m)) := by
  unfold x_lcm_of
  show x_lcm_of_B1 (x_lcm_of_L1 [nD m]) (nD n) (.ofNat 1) = _
  rw [lcm_B (by omega) hn hn0 (.inl (by omega)), Nat.one_mul, Nat.gcd_one_left, Nat.div_one]
  show x_lcm_of_B1 (x_lcm_of_L1 []) (nD m) (.ofNat n) = _
  rw [lcm_B hn (by omega) hm0 (.inr hm)]
  rfl
/-! ### tables of small primes and of products -/
def W1 : List Nat := [41, 43, 47, 53, 59, 61, 67, 71, 73, 79, 83, 89, 97, 101, 103, 107, 109, 113, 127, 131, 137, 139, 149, 151, 157, 163, 167, 173, 179, 181, 191, 193, 197, 199, 211, 223, 227, 229, 233, 239, 241, 251, 257, 263, 269, 271, 277, 281, 283, 293, 307, 311, 313, 317, 331, 337, 347, 349, 353, 359, 367, 373, 379, 383, 389, 397, 401, 409, 419, 421, 431, 433, 439, 443, 449, 457, 461, 463, 467, 479, 487, 491, 499, 503, 509, 521, 523, 541, 547, 557, 563, 569, 571, 577, 587, 593, 599, 601, 607, 613, 617, 619, 631, 641, 643, 647, 653, 659, 661, 673, 677, 683, 691, 701, 709, 719, 727, 733, 739, 743, 751, 757, 761, 769, 773, 787, 797, 809, 811, 821, 823, 827, 829, 839, 853, 857, 859, 863, 877, 881, 883, 887, 907, 911, 919, 929, 937, 941, 947, 953, 967, 971, 977, 983, 991, 997, 1009, 1013, 1019, 1021, 1031, 1033, 1039, 1049, 1051, 1061, 1063, 1069, 1087, 1091, 1093, 1097, 1103, 1109, 1117, 1123, 1129, 1151, 1153, 1163, 1171, 1181, 1187, 1193, 1201, 1213, 1217, 1223, 1229, 1231, 1237, 1249, 1259, 1277, 1279, 1283, 1289, 1291, 1297, 1301, 1303, 1307, 1319, 1321, 1327, 1361, 1367, 1373, 1381, 1399, 1409, 1423, 1427, 1429, 1433, 1439, 1447, 1451, 1453, 1459, 1471, 1481, 1483, 1487, 1489, 1493, 1499, 1511, 1523, 1531, 1543, 1549, 1553, 1559, 1567, 1571, 1579, 1583, 1597, 1601, 1607, 1609, 1613, 1619, 1621, 1627, 1637, 1657, 1663, 1667, 1669, 1681, 1693, 1697, 1699, 1709, 1721, 1723, 1733, 1741, 1747, 1753, 1759, 1763, 1777, 1783, 1787, 1789, 1801, 1811, 1823, 1831, 1847, 1849, 1861, 1867, 1871, 1873, 1877, 1879, 1889, 1901, 1907, 1913, 1927, 1931, 1933, 1949, 1951, 1973, 1979, 1987, 1993, 1997, 1999, 2003, 2011, 2017, 2021, 2027, 2029, 2039, 2053, 2063, 2069, 2081, 2083, 2087, 2089, 2099, 2111, 2113, 2129, 2131, 2137, 2141, 2143, 2153, 2161, 2173, 2179, 2203, 2207, 2209, 2213, 2221, 2237, 2239, 2243, 2251, 2267, 2269, 2273, 2279, 2281, 2287, 2293, 2297, 2309, 2311, 2333, 2339, 2341, 2347, 2351, 2357, 2371, 2377, 2381, 2383, 2389, 2393, 2399, 2411, 2417, 2419, 2423, 2437, 2441, 2447, 2459, 2467, 2473, 2477, 2491, 2501, 2503, 2521, 2531, 2537, 2539, 2543, 2549, 2551, 2557, 2579, 2591, 2593, 2609, 2617, 2621, 2623, 2633, 2647, 2657, 2659, 2663, 2671, 2677, 2683, 2687, 2689, 2693, 2699, 2707, 2711, 2713, 2719, 2729, 2731, 2741, 2747, 2749, 2753, 2767, 2773, 2777, 2789, 2791, 2797, 2801, 2803, 2809, 2819, 2833, 2837, 2843, 2851, 2857, 2861, 2867, 2879, 2881, 2887, 2897, 2903, 2909, 2911, 2917, 2927, 2939, 2953, 2957, 2963, 2969, 2971, 2993, 2999, 3001, 3011, 3019, 3023, 3037, 3041, 3049, 3053, 3061, 3067, 3079, 3083, 3089, 3109, 3119, 3121, 3127, 3137, 3139, 3149, 3163, 3167, 3169, 3181, 3187, 3191, 3203, 3209, 3217, 3221, 3229, 3233, 3239, 3251, 3253, 3257, 3259, 3271, 3299, 3301, 3307, 3313, 3319, 3323, 3329, 3331, 3337, 3343, 3347, 3359, 3361, 3371, 3373, 3389, 3391, 3397, 3403, 3407, 3413, 3431, 3433, 3449, 3457, 3461, 3463, 3467, 3469, 3481, 3491, 3499, 3511, 3517, 3527, 3529, 3533, 3539, 3541, 3547, 3551, 3557, 3559, 3569, 3571, 3581, 3583, 3593]
def W2 : List Nat := [41, 43, 47, 53, 59, 61, 67, 71, 73, 79, 83, 89, 97, 101, 103, 107, 109, 113, 127, 131, 137, 139, 149, 151, 157, 163, 167, 173, 179, 181, 191, 193, 197, 199, 211, 223, 227, 229, 233, 239, 241, 251, 257, 263, 269, 271, 277, 281, 283, 293]
def TP : List Nat := [2, 3, 5, 7, 11, 13, 17, 19, 23, 29, 31, 37, 41, 43, 47, 53, 59]
noncomputable def anyN (f : Nat → Bool) (l : List Nat) : Bool := @List.rec Nat (fun _ => Bool) false (fun a _ ih => iteB (f a) true ih) l
noncomputable def alLN (f : Nat → Bool) (l : List Nat) : Bool := @List.rec Nat (fun _ => Bool) true (fun a _ ih => iteB (f a) ih false) l
theorem anyN_of {f : Nat → Bool} : ∀ {l : List Nat}, anyN f l = true → ∃ q ∈ l, f q = true
  | a :: l, h => by
    have h' : iteB (f a) true (anyN f l) = true := h
    cases e : f a with
    | true => exact ⟨a, List.mem_cons_self, e⟩
    | false =>
      rw [e] at h'
      obtain ⟨q, h1, h2⟩ := anyN_of h'
      exact ⟨q, List.mem_cons_of_mem _ h1, h2⟩
theorem alLN_of {f : Nat → Bool} : ∀ {l : List Nat}, alLN f l = true → ∀ q ∈ l, f q = true
  | a :: l, h, q, hq => by
    have h' : iteB (f a) (alLN f l) false = true := h
    cases e : f a with
    | false => rw [e] at h'; cases h'
    | true =>
      rw [e] at h'
      rcases List.mem_cons.mp hq with rfl | hq
      · exact e
      · exact alLN_of h' q hq
noncomputable def dvB (c d : Nat) : Bool := Nat.beq (Nat.mod c d) 0
theorem dvB_eq (c d : Nat) : dvB c d = decide (d ∣ c) := by
  unfold dvB
  rw [beq_dec]
  exact decide_eq_decide.mpr ⟨Nat.dvd_of_mod_eq_zero, Nat.mod_eq_zero_of_dvd⟩
noncomputable def tru (o : Option Bool) : Bool := @Option.rec Bool (fun _ => Bool) false (fun b => b) o
theorem tru_eq {o : Option Bool} (h : tru o = true) : o = some true := by
  cases o with
  | none => cases h
  | some b => have h' : b = true := h; rw [h']
noncomputable def hasD (c : Nat) : Bool := anyN (fun d => iteB (dvB c d) (notB (Nat.beq c d)) false) TP
noncomputable def chkP (c : Nat) : Bool := iteB (hasD c) true (tru (x_prime (.ofNat c)))
noncomputable def inW (a : Nat) : Bool := iteB (anyN (fun q => dvB a q) bases) true (anyN (fun q => Nat.beq q a) W1)
noncomputable def hit (c : Nat) : Bool := iteB (tru (x_has_witness (.ofNat c) (.ofNat 2))) true (tru (x_has_witness (.ofNat c) (.ofNat 3)))
noncomputable def chkW (b : Nat) : Bool := alLN (fun a => hit (Nat.mul a b)) W1
theorem tp0 : allN (fun k => chkP (Nat.add k 2)) 300 = true := by kernel_rfl
theorem tp1 : allN (fun k => chkP (Nat.add k 302)) 300 = true := by kernel_rfl
theorem tp2 : allN (fun k => chkP (Nat.add k 602)) 300 = true := by kernel_rfl
theorem tp3 : allN (fun k => chkP (Nat.add k 902)) 300 = true := by kernel_rfl
theorem tp4 : allN (fun k => chkP (Nat.add k 1202)) 300 = true := by kernel_rfl
theorem tp5 : allN (fun k => chkP (Nat.add k 1502)) 300 = true := by kernel_rfl
theorem tp6 : allN (fun k => chkP (Nat.add k 1802)) 300 = true := by kernel_rfl
theorem tp7 : allN (fun k => chkP (Nat.add k 2102)) 300 = true := by kernel_rfl
theorem tp8 : allN (fun k => chkP (Nat.add k 2402)) 300 = true := by kernel_rfl
theorem tp9 : allN (fun k => chkP (Nat.add k 2702)) 300 = true := by kernel_rfl
theorem tp10 : allN (fun k => chkP (Nat.add k 3002)) 300 = true := by kernel_rfl
theorem tp11 : allN (fun k => chkP (Nat.add k 3302)) 300 = true := by kernel_rfl
theorem tp_all {c : Nat} (h : 2 ≤ c) (h2 : c ≤ 3597) : chkP c = true := by
  by_cases h3 : c < 302
  · have := allN_of tp0 (c - 2) (by omega); rw [show Nat.add (c - 2) 2 = c from by show c - 2 + 2 = c; omega] at this; exact this
  by_cases h4 : c < 602
  · have := allN_of tp1 (c - 302) (by omega); rw [show Nat.add (c - 302) 302 = c from by show c - 302 + 302 = c; omega] at this; exact this
  by_cases h5 : c < 902
  · have := allN_of tp2 (c - 602) (by omega); rw [show Nat.add (c - 602) 602 = c from by show c - 602 + 602 = c; omega] at this; exact this
  by_cases h6 : c < 1202
  · have := allN_of tp3 (c - 902) (by omega); rw [show Nat.add (c - 902) 902 = c from by show c - 902 + 902 = c; omega] at this; exact this
  by_cases h7 : c < 1502
  · have := allN_of tp4 (c - 1202) (by omega); rw [show Nat.add (c - 1202) 1202 = c from by show c - 1202 + 1202 = c; omega] at this; exact this
  by_cases h8 : c < 1802
  · have := allN_of tp5 (c - 1502) (by omega); rw [show Nat.add (c - 1502) 1502 = c from by show c - 1502 + 1502 = c; omega] at this; exact this
  by_cases h9 : c < 2102
  · have := allN_of tp6 (c - 1802) (by omega); rw [show Nat.add (c - 1802) 1802 = c from by show c - 1802 + 1802 = c; omega] at this; exact this
  by_cases h10 : c < 2402
  · have := allN_of tp7 (c - 2102) (by omega); rw [show Nat.add (c - 2102) 2102 = c from by show c - 2102 + 2102 = c; omega] at this; exact this
  by_cases h11 : c < 2702
  · have := allN_of tp8 (c - 2402) (by omega); rw [show Nat.add (c - 2402) 2402 = c from by show c - 2402 + 2402 = c; omega] at this; exact this
  by_cases h12 : c < 3002
  · have := allN_of tp9 (c - 2702) (by omega); rw [show Nat.add (c - 2702) 2702 = c from by show c - 2702 + 2702 = c; omega] at this; exact this
  by_cases h13 : c < 3302
  · have := allN_of tp10 (c - 3002) (by omega); rw [show Nat.add (c - 3002) 3002 = c from by show c - 3002 + 3002 = c; omega] at this; exact this
  by_cases h14 : c < 3602
  · have := allN_of tp11 (c - 3302) (by omega); rw [show Nat.add (c - 3302) 3302 = c from by show c - 3302 + 3302 = c; omega] at this; exact this
  omega
theorem inW_all : allN (fun k => inW (Nat.add k 2)) 3596 = true := by kernel_rfl
theorem ww41 : chkW 41 = true := by kernel_rfl
theorem ww43 : chkW 43 = true := by kernel_rfl
theorem ww47 : chkW 47 = true := by kernel_rfl
theorem ww53 : chkW 53 = true := by kernel_rfl
theorem ww59 : chkW 59 = true := by kernel_rfl
theorem ww61 : chkW 61 = true := by kernel_rfl
theorem ww67 : chkW 67 = true := by kernel_rfl
theorem ww71 : chkW 71 = true := by kernel_rfl
theorem ww73 : chkW 73 = true := by kernel_rfl
theorem ww79 : chkW 79 = true := by kernel_rfl
theorem ww83 : chkW 83 = true := by kernel_rfl
theorem ww89 : chkW 89 = true := by kernel_rfl
theorem ww97 : chkW 97 = true := by kernel_rfl
theorem ww101 : chkW 101 = true := by kernel_rfl
theorem ww103 : chkW 103 = true := by kernel_rfl
theorem ww107 : chkW 107 = true := by kernel_rfl
theorem ww109 : chkW 109 = true := by kernel_rfl
theorem ww113 : chkW 113 = true := by kernel_rfl
theorem ww127 : chkW 127 = true := by kernel_rfl
theorem ww131 : chkW 131 = true := by kernel_rfl
theorem ww137 : chkW 137 = true := by kernel_rfl
theorem ww139 : chkW 139 = true := by kernel_rfl
theorem ww149 : chkW 149 = true := by kernel_rfl
theorem ww151 : chkW 151 = true := by kernel_rfl
theorem ww157 : chkW 157 = true := by kernel_rfl
theorem ww163 : chkW 163 = true := by kernel_rfl
theorem ww167 : chkW 167 = true := by kernel_rfl
theorem ww173 : chkW 173 = true := by kernel_rfl
theorem ww179 : chkW 179 = true := by kernel_rfl
theorem ww181 : chkW 181 = true := by kernel_rfl
theorem ww191 : chkW 191 = true := by kernel_rfl
theorem ww193 : chkW 193 = true := by kernel_rfl
theorem ww197 : chkW 197 = true := by kernel_rfl
theorem ww199 : chkW 199 = true := by kernel_rfl
theorem ww211 : chkW 211 = true := by kernel_rfl
theorem ww223 : chkW 223 = true := by kernel_rfl
theorem ww227 : chkW 227 = true := by kernel_rfl
theorem ww229 : chkW 229 = true := by kernel_rfl
theorem ww233 : chkW 233 = true := by kernel_rfl
theorem ww239 : chkW 239 = true := by kernel_rfl
theorem ww241 : chkW 241 = true := by kernel_rfl
theorem ww251 : chkW 251 = true := by kernel_rfl
theorem ww257 : chkW 257 = true := by kernel_rfl
theorem ww263 : chkW 263 = true := by kernel_rfl
theorem ww269 : chkW 269 = true := by kernel_rfl
theorem ww271 : chkW 271 = true := by kernel_rfl
theorem ww277 : chkW 277 = true := by kernel_rfl
theorem ww281 : chkW 281 = true := by kernel_rfl
theorem ww283 : chkW 283 = true := by kernel_rfl
theorem ww293 : chkW 293 = true := by kernel_rfl
theorem ww_all : alLN chkW W2 = true := by
  unfold W2
  show iteB (chkW 41) (iteB (chkW 43) (iteB (chkW 47) (iteB (chkW 53) (iteB (chkW 59) (iteB (chkW 61) (iteB (chkW 67) (iteB (chkW 71) (iteB (chkW 73) (iteB (chkW 79) (iteB (chkW 83) (iteB (chkW 89) (iteB (chkW 97) (iteB (chkW 101) (iteB (chkW 103) (iteB (chkW 107) (iteB (chkW 109) (iteB (chkW 113) (iteB (chkW 127) (iteB (chkW 131) (iteB (chkW 137) (iteB (chkW 139) (iteB (chkW 149) (iteB (chkW 151) (iteB (chkW 157) (iteB (chkW 163) (iteB (chkW 167) (iteB (chkW 173) (iteB (chkW 179) (iteB (chkW 181) (iteB (chkW 191) (iteB (chkW 193) (iteB (chkW 197) (iteB (chkW 199) (iteB (chkW 211) (iteB (chkW 223) (iteB (chkW 227) (iteB (chkW 229) (iteB (chkW 233) (iteB (chkW 239) (iteB (chkW 241) (iteB (chkW 251) (iteB (chkW 257) (iteB (chkW 263) (iteB (chkW 269) (iteB (chkW 271) (iteB (chkW 277) (iteB (chkW 281) (iteB (chkW 283) (iteB (chkW 293) (true) false) false) false) false) false) false) false) false) false) false) false) false) false) false) false) false) false) false) false) false) false) false) false) false) false) false) false) false) false) false) false) false) false) false) false) false) false) false) false) false) false) false) false) false) false) false) false) false) false) false = true
  rw [ww41, ww43, ww47, ww53, ww59, ww61, ww67, ww71, ww73, ww79, ww83, ww89, ww97, ww101, ww103, ww107, ww109, ww113, ww127, ww131, ww137, ww139, ww149, ww151, ww157, ww163, ww167, ww173, ww179, ww181, ww191, ww193, ww197, ww199, ww211, ww223, ww227, ww229, ww233, ww239, ww241, ww251, ww257, ww263, ww269, ww271, ww277, ww281, ww283, ww293]
  rfl
/-! ### every product of two drawn numbers is known right -/
theorem pr_bases : ∀ q ∈ bases, Pr q := by
  have h : ∀ q ∈ bases, 2 ≤ q ∧ ∀ d, d < q → 2 ≤ d → ¬ d ∣ q := by decide
  intro q hq
  refine ⟨(h q hq).1, fun d hd => ?_⟩
  have h0 := (h q hq).1
  have h1 := Nat.le_of_dvd (by omega) hd
  by_cases h2 : d = q
  · exact .inr h2
  · have := (h q hq).2 d (by omega)
    have d0 : d ≠ 0 := fun z => by subst z; have := Nat.eq_zero_of_zero_dvd hd; omega
    by_cases h3 : 2 ≤ d
    · exact absurd hd (this h3)
    · exact .inl (by omega)
theorem prime_true {c : Nat} (hp : Pr c) (hc : c ≤ 3597) : x_prime (.ofNat c) = some true := by
  have h := tp_all hp.1 hc
  unfold chkP at h
  have hn : hasD c = false := by
    cases e : hasD c with
    | false => rfl
    | true =>
      unfold hasD at e
      obtain ⟨d, hd, e2⟩ := anyN_of e
      rw [dvB_eq, iteB_d] at e2
      split at e2
      · rename_i hdc
        rcases hp.2 d hdc with rfl | rfl
        · have : ∀ q ∈ TP, q ≠ 1 := by decide
          exact absurd rfl (this 1 hd)
        · rw [beq_dec, decide_eq_true rfl] at e2
          cases e2
      · cases e2
  rw [hn] at h
  exact tru_eq h
theorem inW_mem {a : Nat} (h2 : 2 ≤ a) (h : a ≤ 3597) (hb : ∀ q ∈ bases, ¬ q ∣ a) : a ∈ W1 := by
  have e := allN_of inW_all (a - 2) (by omega)
  rw [show Nat.add (a - 2) 2 = a by show a - 2 + 2 = a; omega] at e
  unfold inW at e
  cases e1 : anyN (fun q => dvB a q) bases with
  | true =>
    obtain ⟨q, hq, e2⟩ := anyN_of e1
    rw [dvB_eq] at e2
    exact absurd (of_decide_eq_true e2) (hb q hq)
  | false =>
    rw [e1] at e
    obtain ⟨q, hq, e2⟩ := anyN_of (show anyN (fun q => Nat.beq q a) W1 = true from e)
    rw [← Nat.eq_of_beq_eq_true e2]
    exact hq
theorem w2_mem {b : Nat} (h : b ∈ W1) (h3 : b ≤ 300) : b ∈ W2 := by
  have : ∀ q ∈ W1, q ≤ 300 → q ∈ W2 := by
    have e : alLN (fun q => iteB (Nat.ble q 300) (anyN (fun z => Nat.beq z q) W2) true) W1 = true := by kernel_rfl
    intro q hq h3
    have := alLN_of e q hq
    rw [Nat.ble_eq_true_of_le h3] at this
    obtain ⟨z, hz, e2⟩ := anyN_of (show anyN (fun z => Nat.beq z q) W2 = true from this)
    rw [← Nat.eq_of_beq_eq_true e2]
    exact hz
  exact this b h h3
theorem split_two {c n m : Nat} (hc : 2 ≤ c) (hp : ¬ Pr c) (hd : c ∣ n * m) (hn0 : 0 < n) (hm0 : 0 < m) (hn : n ≤ 3597) (hm : m ≤ 300) : ∃ a b, a * b = c ∧ 2 ≤ a ∧ 2 ≤ b ∧ a ≤ 3597 ∧ b ≤ 300 := by
  have small : c ≤ 3597 → ∃ a b, a * b = c ∧ 2 ≤ a ∧ 2 ≤ b ∧ a ≤ 3597 ∧ b ≤ 300 := by
    intro hs
    obtain ⟨x, y, hx, hy, e⟩ := not_pr hc hp
    have key : ∀ x y : Nat, 2 ≤ x → 2 ≤ y → x * y = c → x ≤ y → ∃ a b, a * b = c ∧ 2 ≤ a ∧ 2 ≤ b ∧ a ≤ 3597 ∧ b ≤ 300 := by
      intro x y hx hy e hxy
      have h1 : x * x ≤ c := by rw [← e]; exact Nat.mul_le_mul_left x hxy
      have h2 : x < 60 := by
        refine Classical.byContradiction fun z => ?_
        have := Nat.mul_le_mul (show 60 ≤ x by omega) (show 60 ≤ x by omega)
        omega
      have h3 := Nat.mul_le_mul_right y hx
      exact ⟨y, x, by rw [Nat.mul_comm]; exact e, hy, hx, by omega, by omega⟩
    by_cases hxy : x ≤ y
    · exact key x y hx hy e hxy
    · exact key y x hy hx (by rw [Nat.mul_comm]; exact e) (by omega)
  obtain ⟨a, ha⟩ := Nat.gcd_dvd_left c m
  have g0 : 0 < Nat.gcd c m := Nat.gcd_pos_of_pos_left m (by omega)
  have gm : Nat.gcd c m ≤ m := Nat.gcd_le_right c hm0
  have an : a ∣ n := by
    have h1 : Nat.Coprime (c / Nat.gcd c m) (m / Nat.gcd c m) := Nat.coprime_div_gcd_div_gcd g0
    have h2 : c / Nat.gcd c m = a := by
      have := Nat.mul_div_cancel_left a g0
      rw [← ha] at this
      exact this
    rw [h2] at h1
    obtain ⟨t, ht⟩ := Nat.gcd_dvd_right c m
    have h3 : m / Nat.gcd c m = t := by
      have := Nat.mul_div_cancel_left t g0
      rw [← ht] at this
      exact this
    rw [h3] at h1
    have h4 : Nat.gcd c m * a ∣ Nat.gcd c m * (n * t) := by
      rw [← ha, show Nat.gcd c m * (n * t) = n * (Nat.gcd c m * t) by ac_rfl, ← ht]
      exact hd
    exact h1.dvd_of_dvd_mul_right (Nat.dvd_of_mul_dvd_mul_left g0 h4)
  have a0 : a ≠ 0 := fun z => by rw [z] at ha; omega
  have aln := Nat.le_of_dvd hn0 an
  by_cases ha2 : 2 ≤ a
  · by_cases hg2 : 2 ≤ Nat.gcd c m
    · exact ⟨a, Nat.gcd c m, by rw [Nat.mul_comm]; exact ha.symm, ha2, hg2, by omega, by omega⟩
    · refine small ?_
      have : Nat.gcd c m = 1 := by omega
      rw [this, Nat.one_mul] at ha
      omega
  · refine small ?_
    have : a = 1 := by omega
    rw [this, Nat.mul_one] at ha
    omega
theorem good_nm {n m : Nat} (hn0 : 0 < n) (hm0 : 0 < m) (hn : n ≤ 3597) (hm : m ≤ 300) : Good (n * m) := by
  have hb : n * m ≤ 3597 * 300 := Nat.mul_le_mul hn hm
  refine ⟨Nat.mul_pos hn0 hm0, by omega, fun c hc hd => ?_⟩
  have hcb : c ≤ n * m := Nat.le_of_dvd (Nat.mul_pos hn0 hm0) hd
  by_cases hp : Pr c
  · refine .inl ⟨hp, prime_true hp ?_⟩
    rcases hp.dvd_mul hd with h | h
    · have := Nat.le_of_dvd hn0 h; omega
    · have := Nat.le_of_dvd hm0 h; omega
  · obtain ⟨a, b, e, ha, hb2, ha3, hb3⟩ := split_two hc hp hd hn0 hm0 hn hm
    have hnb : c ∉ bases := fun h => hp (pr_bases c h)
    refine .inr ⟨prime_false hc (by omega) hnb ?_, ?_⟩
    · by_cases hq : ∃ q ∈ bases, q ∣ c
      · exact .inl hq
      · refine .inr ?_
        have na : ∀ q ∈ bases, ¬ q ∣ a := fun q h1 h2 => hq ⟨q, h1, by rw [← e]; exact Nat.dvd_trans h2 (Nat.dvd_mul_right a b)⟩
        have nb : ∀ q ∈ bases, ¬ q ∣ b := fun q h1 h2 => hq ⟨q, h1, by rw [← e]; exact Nat.dvd_trans h2 (Nat.dvd_mul_left b a)⟩
        have hit := alLN_of (show alLN (fun a => hit (Nat.mul a b)) W1 = true from alLN_of ww_all b (w2_mem (inW_mem hb2 (by omega) nb) hb3)) a (inW_mem ha ha3 na)
        rw [show Nat.mul a b = c from e] at hit
        unfold K37.hit at hit
        cases e2 : tru (x_has_witness (.ofNat c) (.ofNat 2)) with
        | true => exact ⟨2, by decide, tru_eq e2⟩
        | false =>
          rw [e2] at hit
          exact ⟨3, by decide, tru_eq hit⟩
    · by_cases hab : a ≤ b
      · exact ⟨a, by rw [← e]; exact Nat.mul_le_mul_left a hab, ⟨b, e.symm⟩, ha, by omega⟩
      · exact ⟨b, by rw [← e]; exact Nat.mul_le_mul_right b (by omega), ⟨a, by rw [← e, Nat.mul_comm]⟩, hb2, by omega⟩
/-! ### two numbers -/
theorem all_some {N : Nat} (hg : Good N) (hb : N ≤ 10000000) : ∃ R : List Nt.Row, IsF N R ∧ x_units (.ofNat N) = some (M uf R) ∧ x_turn (.ofNat N) = some (M tf R) ∧ x_sum_of_divisors (.ofNat N) (.ofNat 2) = some (M sf R) := by
  obtain ⟨R, h1, h2, h3⟩ := powers_some hg
  exact ⟨R, h1, units_some hg.le h1 h3, turn_some hg.le h2 h1 h3, sum2_some hb h1 h3⟩
theorem M_un_nn {R : List Nt.Row} (h : ∀ r ∈ R, Pr r.1) : 0 ≤ M uf R := by rw [← unR_eq h]; omega
theorem unR_le : ∀ {R : List Nt.Row}, (∀ r ∈ R, Pr r.1) → (∀ r ∈ R, 1 ≤ r.2) → unR R ≤ prodR R
  | [], _, _ => Nat.le_refl 1
  | r :: R, hp, h1 => by
    have he := h1 r List.mem_cons_self
    show r.1 ^ (r.2 - 1) * (r.1 - 1) * unR R ≤ r.1 ^ r.2 * prodR R
    have e : r.1 ^ r.2 = r.1 ^ (r.2 - 1) * r.1 := by rw [← Nat.pow_succ]; congr 1; omega
    rw [e]
    exact Nat.mul_le_mul (Nat.mul_le_mul_left _ (by omega)) (unR_le (fun r hr => hp r (List.mem_cons_of_mem _ hr)) fun r hr => h1 r (List.mem_cons_of_mem _ hr))
theorem tf_le : ∀ R : List Nt.Row, (M tf R).natAbs ≤ 1
  | [] => by decide
  | r :: R => by
    show (tf r.1 r.2 * M tf R).natAbs ≤ 1
    rw [Int.natAbs_mul]
    have h1 : (tf r.1 r.2).natAbs ≤ 1 := by unfold tf; split <;> decide
    exact Nat.mul_le_mul h1 (tf_le R)
theorem gs_nn (p : Nat) : ∀ m i, 0 ≤ gs p m i
  | 0, _ => Int.le_refl 0
  | m + 1, i => Int.add_nonneg (Int.mul_nonneg (Int.natCast_nonneg _) (Int.natCast_nonneg _)) (gs_nn p m (i + 1))
theorem gs_le {p B : Nat} : ∀ m i, (∀ j, j < i + m → p ^ j ≤ B) → gs p m i ≤ (m * (B * B) : Nat)
  | 0, i, _ => by show (0 : Int) ≤ _; omega
  | m + 1, i, h => by
    have h1 := Nat.mul_le_mul (h i (by omega)) (h i (by omega))
    have h2 := gs_le m (i + 1) (fun j hj => h j (by omega))
    show ((p ^ i : Nat) : Int) * ((p ^ i : Nat) : Int) + gs p m (i + 1) ≤ _
    rw [← Int.natCast_mul, Nat.succ_mul]
    omega
theorem sf_le : ∀ {R : List Nt.Row}, (∀ r ∈ R, Pr r.1) → (M sf R).natAbs ≤ prodR R * (prodR R * prodR R)
  | [], _ => by decide
  | r :: R, hp => by
    have hr := (hp r List.mem_cons_self).1
    show (sf r.1 r.2 * M sf R).natAbs ≤ r.1 ^ r.2 * prodR R * (r.1 ^ r.2 * prodR R * (r.1 ^ r.2 * prodR R))
    rw [Int.natAbs_mul]
    have h0 := gs_nn r.1 (r.2 + 1) 0
    have h1 := gs_le (p := r.1) (B := r.1 ^ r.2) (r.2 + 1) 0 fun j hj => Nat.pow_le_pow_right (by omega) (by omega)
    have h2 : (sf r.1 r.2).natAbs ≤ r.1 ^ r.2 * (r.1 ^ r.2 * r.1 ^ r.2) := by
      refine Nat.le_trans (show (sf r.1 r.2).natAbs ≤ (r.2 + 1) * (r.1 ^ r.2 * r.1 ^ r.2) by unfold sf; omega) ?_
      exact Nat.mul_le_mul_right _ (lt_pow hr r.2)
    refine Nat.le_trans (Nat.mul_le_mul h2 (sf_le fun r hr => hp r (List.mem_cons_of_mem _ hr))) (Nat.le_of_eq (by ac_rfl))
structure Vals (N : Nat) (u t s : Int) : Prop where
  eu : x_units (.ofNat N) = some u
  et : x_turn (.ofNat N) = some t
  es : x_sum_of_divisors (.ofNat N) (.ofNat 2) = some s
  bu : u.natAbs ≤ 10000000
  bt : t.natAbs ≤ 1
  bs : s.natAbs ≤ 1000000000000000000000
theorem vals {N : Nat} (hg : Good N) (hb : N ≤ 10000000) : ∃ R : List Nt.Row, IsF N R ∧ Vals N (M uf R) (M tf R) (M sf R) := by
  obtain ⟨R, h, e1, e2, e3⟩ := all_some hg hb
  refine ⟨R, h, e1, e2, e3, ?_, tf_le R, ?_⟩
  · rw [← unR_eq h.pr]
    have := unR_le h.pr h.pos
    rw [h.eq] at this
    show unR R ≤ _
    omega
  · have := sf_le h.pr
    rw [h.eq] at this
    have := Nat.mul_le_mul hb (Nat.mul_le_mul hb hb)
    omega
theorem J1_ok {w : Ev.D} {n m g l : Nat} {a b c d e ta tb tc td te sa sb sc sd se : Int} (hn : Vals n a ta sa) (hm : Vals m b tb sb) (hc : Vals (n * m) c tc sc) (hg : Vals g d td sd) (hl : Vals l e te se) (h1 : a * b * g = c * d) (h2 : e * d = a * b) (bn : n ≤ 10000000) (bm : m ≤ 10000000) (bg : g ≤ 10000000) :
    x_sgB_J1 (.ofNat n) (.ofNat m) w (.ofNat g) (.ofNat l) = some [nD n, w] := by
  have b1 := hn.bu
  have b2 := hm.bu
  have b3 := hc.bu
  have b4 := hg.bu
  have b5 := hl.bu
  have b6 : (a * b).natAbs ≤ 100000000000000 := by
    rw [Int.natAbs_mul]
    exact Nat.mul_le_mul b1 b2
  have s1 : (Int.ofNat g).natAbs ≤ 1000000000000000000000000000000 := by show g ≤ _; omega
  unfold x_sgB_J1
  rw [mul_n, hn.eu, hm.eu, hc.eu, hg.eu, hl.eu, bndO_some, bndO_some, mulQ_small (by omega) (by omega), iteB_t, mulQ_small (by rw [mulZ_eq]; omega) s1, iteB_t, mulQ_n (by omega) (by omega), iteB_t, bndO_some, bndO_some, mulQ_small (by omega) (by omega), iteB_t]
  have q1 : notB (eqZ (mulZ (mulZ a b) (.ofNat g)) (mulZ c d)) = false := by
    rw [mulZ_eq, mulZ_eq, mulZ_eq, eqZ_eq, decide_eq_true (show a * b * Int.ofNat g = c * d from h1)]; rfl
  rw [q1, iteB_f]
  show iteB (andB true (andB true (andB (mulQ e d) (andB true (andB true (mulQ a b)))))) (iteB (iteB false true (notB (eqZ (mulZ e d) (mulZ a b)))) none (some [nD n, w])) none = _
  rw [mulQ_small (by omega) (by omega), mulQ_small (by omega) (by omega), mulZ_eq, mulZ_eq, eqZ_eq, decide_eq_true h2]
  rfl
theorem sgB_ok {w : Ev.D} {n m : Nat} (hn0 : 0 < n) (hm0 : 0 < m) (hn : n ≤ 3597) (hm : m ≤ 300) : x_sgB (.ofNat n) (.ofNat m) w = some [nD n, w] := by
  have hb : n * m ≤ 3597 * 300 := Nat.mul_le_mul hn hm
  have gd : Good (n * m) := good_nm hn0 hm0 hn hm
  have g0 : 0 < Nat.gcd n m := Nat.gcd_pos_of_pos_left m hn0
  have gm : Nat.gcd n m ≤ m := Nat.gcd_le_right n hm0
  have gl : Nat.gcd n m * (n * m / Nat.gcd n m) = n * m := Nat.mul_div_cancel' (Nat.dvd_trans (Nat.gcd_dvd_left n m) (Nat.dvd_mul_right n m))
  have ll : n * m / Nat.gcd n m ≤ n * m := Nat.div_le_self _ _
  have eL := lcm_some (n := n) (m := m) (by omega) (by omega) (by omega) (by omega)
  have eG := gcd_some (n := n) (m := m) (by omega) (by omega)
  obtain ⟨R, fR, vR⟩ := vals (gd.dvd (Nat.dvd_mul_right n m)) (by omega)
  obtain ⟨S, fS, vS⟩ := vals (gd.dvd (Nat.dvd_mul_left m n)) (by omega)
  obtain ⟨T, fT, vT⟩ := vals gd (by omega)
  obtain ⟨G, fG, vG⟩ := vals (gd.dvd (Nat.dvd_trans (Nat.gcd_dvd_left n m) (Nat.dvd_mul_right n m))) (by omega)
  obtain ⟨L, fL, vL⟩ := vals (gd.dvd ⟨Nat.gcd n m, gl.symm.trans (Nat.mul_comm _ _)⟩ : Good (n * m / Nat.gcd n m)) (by omega)
  have dg : ∀ p, Pr p → (p ∣ Nat.gcd n m ↔ p ∣ n ∧ p ∣ m) := fun p _ => Nat.dvd_gcd_iff
  have dl : ∀ p, Pr p → (p ∣ n * m / Nat.gcd n m ↔ p ∣ n ∨ p ∣ m) := by
    intro p hp
    obtain ⟨x, hx⟩ := Nat.gcd_dvd_right n m
    obtain ⟨y, hy⟩ := Nat.gcd_dvd_left n m
    have e1 : n * m / Nat.gcd n m = n * x := by
      have : n * m = Nat.gcd n m * (n * x) := by
        calc n * m = n * (Nat.gcd n m * x) := by rw [← hx]
          _ = _ := by ac_rfl
      rw [this]
      exact Nat.mul_div_cancel_left _ g0
    have e2 : n * m / Nat.gcd n m = y * m := by
      have : n * m = Nat.gcd n m * (y * m) := by
        calc n * m = (Nat.gcd n m * y) * m := by rw [← hy]
          _ = _ := by ac_rfl
      rw [this]
      exact Nat.mul_div_cancel_left _ g0
    constructor
    · intro h
      exact hp.dvd_mul (Nat.dvd_trans h ⟨Nat.gcd n m, gl.symm.trans (Nat.mul_comm _ _)⟩)
    · rintro (h | h)
      · rw [e1]; exact Nat.dvd_trans h (Nat.dvd_mul_right _ _)
      · rw [e2]; exact Nat.dvd_trans h (Nat.dvd_mul_left _ _)
  have h1 : M uf R * M uf S * (Nat.gcd n m : Nat) = M uf T * M uf G := by
    have := U_four fR fS fT fG (fun p hp => ⟨fun h => hp.dvd_mul h, fun h => h.elim (fun h => Nat.dvd_trans h (Nat.dvd_mul_right n m)) fun h => Nat.dvd_trans h (Nat.dvd_mul_left m n)⟩) dg
    have nz : ((n : Int) * m) ≠ 0 := Int.mul_ne_zero (by omega) (by omega)
    refine Int.eq_of_mul_eq_mul_right nz ?_
    rw [← this, Int.natCast_mul, Int.mul_assoc, Int.mul_comm (Nat.gcd n m : Int)]
  have h2 : M uf L * M uf G = M uf R * M uf S := by
    have := U_four fR fS fL fG dl dg
    have nz : ((n : Int) * m) ≠ 0 := Int.mul_ne_zero (by omega) (by omega)
    refine Int.eq_of_mul_eq_mul_right nz ?_
    rw [← this, ← Int.natCast_mul, ← Int.natCast_mul, Nat.mul_comm _ (Nat.gcd n m), gl]
  have J := J1_ok (w := w) vR vS vT vG vL h1 h2 (by omega) (by omega) (by omega)
  unfold x_sgB
  rw [show x_gcd_of (.tuple [.int (.ofNat n), .int (.ofNat m)]) = some (nD (Nat.gcd n m)) from eG, bndO_some, show nlK (nD (Nat.gcd n m)) = true from rfl, iteB_t, show x_lcm_of (.tuple [.int (.ofNat n), .int (.ofNat m)]) = _ from eL]
  show (iteB (mulQ (.ofNat (Nat.gcd n m)) (.ofNat (n * m / Nat.gcd n m))) _ none) = _
  rw [mulQ_n (by omega) (by omega), iteB_t, mulQ_n (by omega) (by omega), iteB_t, mul_n, mul_n, gl, eq_n, decide_eq_true rfl, show notB true = false from rfl, iteB_f, eq_n, iteB_d, J]
  split
  · rename_i hg1
    have c1 : Nat.Coprime n m := hg1
    have m1 := M_mul fR fS fT c1 uf
    have m2 := M_mul fR fS fT c1 tf
    have m3 := M_mul fR fS fT c1 sf
    have b1 := vR.bu
    have b2 := vS.bu
    have b3 := vR.bt
    have b4 := vS.bt
    have b5 := vR.bs
    have b6 := vS.bs
    rw [iteB_t, vT.eu, vR.eu, vS.eu, bndO_some, bndO_some, bndO_some, mulQ_small (by omega) (by omega), iteB_t, mulZ_eq, eqZ_eq, decide_eq_true m1, show notB true = false from rfl, iteB_f, iteB_f, vT.et, vR.et, vS.et, vT.es, vR.es, vS.es]
    show iteB (andB true (andB true (andB true (andB true (andB (mulQ (M tf R) (M tf S)) (iteB (notB (eqZ (M tf T) (mulZ (M tf R) (M tf S)))) true (andB true (andB true (andB true (andB true (mulQ (M sf R) (M sf S)))))))))))) (iteB (iteB (notB (eqZ (M tf T) (mulZ (M tf R) (M tf S)))) true (notB (eqZ (M sf T) (mulZ (M sf R) (M sf S))))) none (some [nD n, w])) none = _
    rw [mulQ_small (by omega) (by omega), mulQ_small (by omega) (by omega), mulZ_eq, mulZ_eq, eqZ_eq, eqZ_eq, decide_eq_true m2, decide_eq_true m3]
    rfl
  · rfl
/-! ### the finite checks: n alone, most -/
noncomputable def chkA (n : Int) : Bool := bndB (x_divisors n) fun ev => frcLL ev fun ev => andB (isSomeB (x_sgA n .none)) (isSomeB (x_sgC n (.tuple ev)))
theorem ca1_0 : allN (fun k => chkA (.ofNat (Nat.add (Nat.mul (Nat.add k 0) 1) 1))) 150 = true := by kernel_rfl
theorem ca1_150 : allN (fun k => chkA (.ofNat (Nat.add (Nat.mul (Nat.add k 150) 1) 1))) 150 = true := by kernel_rfl
theorem ca1_300 : allN (fun k => chkA (.ofNat (Nat.add (Nat.mul (Nat.add k 300) 1) 1))) 150 = true := by kernel_rfl
theorem ca1_450 : allN (fun k => chkA (.ofNat (Nat.add (Nat.mul (Nat.add k 450) 1) 1))) 150 = true := by kernel_rfl
theorem ca1_600 : allN (fun k => chkA (.ofNat (Nat.add (Nat.mul (Nat.add k 600) 1) 1))) 150 = true := by kernel_rfl
theorem ca1_750 : allN (fun k => chkA (.ofNat (Nat.add (Nat.mul (Nat.add k 750) 1) 1))) 150 = true := by kernel_rfl
theorem ca2_450 : allN (fun k => chkA (.ofNat (Nat.add (Nat.mul (Nat.add k 450) 2) 1))) 75 = true := by kernel_rfl
theorem ca2_525 : allN (fun k => chkA (.ofNat (Nat.add (Nat.mul (Nat.add k 525) 2) 1))) 75 = true := by kernel_rfl
theorem ca2_600 : allN (fun k => chkA (.ofNat (Nat.add (Nat.mul (Nat.add k 600) 2) 1))) 75 = true := by kernel_rfl
theorem ca2_675 : allN (fun k => chkA (.ofNat (Nat.add (Nat.mul (Nat.add k 675) 2) 1))) 75 = true := by kernel_rfl
theorem ca2_750 : allN (fun k => chkA (.ofNat (Nat.add (Nat.mul (Nat.add k 750) 2) 1))) 75 = true := by kernel_rfl
theorem ca2_825 : allN (fun k => chkA (.ofNat (Nat.add (Nat.mul (Nat.add k 825) 2) 1))) 75 = true := by kernel_rfl
theorem ca3_300 : allN (fun k => chkA (.ofNat (Nat.add (Nat.mul (Nat.add k 300) 3) 1))) 75 = true := by kernel_rfl
theorem ca3_375 : allN (fun k => chkA (.ofNat (Nat.add (Nat.mul (Nat.add k 375) 3) 1))) 75 = true := by kernel_rfl
theorem ca3_450 : allN (fun k => chkA (.ofNat (Nat.add (Nat.mul (Nat.add k 450) 3) 1))) 75 = true := by kernel_rfl
theorem ca3_525 : allN (fun k => chkA (.ofNat (Nat.add (Nat.mul (Nat.add k 525) 3) 1))) 75 = true := by kernel_rfl
theorem ca3_600 : allN (fun k => chkA (.ofNat (Nat.add (Nat.mul (Nat.add k 600) 3) 1))) 75 = true := by kernel_rfl
theorem ca3_675 : allN (fun k => chkA (.ofNat (Nat.add (Nat.mul (Nat.add k 675) 3) 1))) 75 = true := by kernel_rfl
theorem ca3_750 : allN (fun k => chkA (.ofNat (Nat.add (Nat.mul (Nat.add k 750) 3) 1))) 75 = true := by kernel_rfl
theorem ca3_825 : allN (fun k => chkA (.ofNat (Nat.add (Nat.mul (Nat.add k 825) 3) 1))) 75 = true := by kernel_rfl
theorem ca4_450 : allN (fun k => chkA (.ofNat (Nat.add (Nat.mul (Nat.add k 450) 4) 1))) 75 = true := by kernel_rfl
theorem ca4_525 : allN (fun k => chkA (.ofNat (Nat.add (Nat.mul (Nat.add k 525) 4) 1))) 75 = true := by kernel_rfl
theorem ca4_600 : allN (fun k => chkA (.ofNat (Nat.add (Nat.mul (Nat.add k 600) 4) 1))) 75 = true := by kernel_rfl
theorem ca4_675 : allN (fun k => chkA (.ofNat (Nat.add (Nat.mul (Nat.add k 675) 4) 1))) 75 = true := by kernel_rfl
theorem ca4_750 : allN (fun k => chkA (.ofNat (Nat.add (Nat.mul (Nat.add k 750) 4) 1))) 75 = true := by kernel_rfl
theorem ca4_825 : allN (fun k => chkA (.ofNat (Nat.add (Nat.mul (Nat.add k 825) 4) 1))) 75 = true := by kernel_rfl
theorem cd0 : allN (fun k => bndB (x_sgD (.ofNat (Nat.add k 2))) fun b => b) 10 = true := by kernel_rfl
theorem cd10 : allN (fun k => bndB (x_sgD (.ofNat (Nat.add k 12))) fun b => b) 10 = true := by kernel_rfl
theorem cd20 : allN (fun k => bndB (x_sgD (.ofNat (Nat.add k 22))) fun b => b) 10 = true := by kernel_rfl
theorem cd30 : allN (fun k => bndB (x_sgD (.ofNat (Nat.add k 32))) fun b => b) 10 = true := by kernel_rfl
theorem cd40 : allN (fun k => bndB (x_sgD (.ofNat (Nat.add k 42))) fun b => b) 10 = true := by kernel_rfl
theorem cd50 : allN (fun k => bndB (x_sgD (.ofNat (Nat.add k 52))) fun b => b) 10 = true := by kernel_rfl
theorem cd60 : allN (fun k => bndB (x_sgD (.ofNat (Nat.add k 62))) fun b => b) 10 = true := by kernel_rfl
theorem cd70 : allN (fun k => bndB (x_sgD (.ofNat (Nat.add k 72))) fun b => b) 10 = true := by kernel_rfl
theorem cd80 : allN (fun k => bndB (x_sgD (.ofNat (Nat.add k 82))) fun b => b) 10 = true := by kernel_rfl
theorem cd90 : allN (fun k => bndB (x_sgD (.ofNat (Nat.add k 92))) fun b => b) 10 = true := by kernel_rfl
theorem cd100 : allN (fun k => bndB (x_sgD (.ofNat (Nat.add k 102))) fun b => b) 10 = true := by kernel_rfl
theorem cd110 : allN (fun k => bndB (x_sgD (.ofNat (Nat.add k 112))) fun b => b) 10 = true := by kernel_rfl
theorem cd120 : allN (fun k => bndB (x_sgD (.ofNat (Nat.add k 122))) fun b => b) 10 = true := by kernel_rfl
theorem cd130 : allN (fun k => bndB (x_sgD (.ofNat (Nat.add k 132))) fun b => b) 10 = true := by kernel_rfl
theorem cd140 : allN (fun k => bndB (x_sgD (.ofNat (Nat.add k 142))) fun b => b) 10 = true := by kernel_rfl
theorem cd150 : allN (fun k => bndB (x_sgD (.ofNat (Nat.add k 152))) fun b => b) 10 = true := by kernel_rfl
theorem cd160 : allN (fun k => bndB (x_sgD (.ofNat (Nat.add k 162))) fun b => b) 10 = true := by kernel_rfl
theorem cd170 : allN (fun k => bndB (x_sgD (.ofNat (Nat.add k 172))) fun b => b) 10 = true := by kernel_rfl
theorem cd180 : allN (fun k => bndB (x_sgD (.ofNat (Nat.add k 182))) fun b => b) 10 = true := by kernel_rfl
theorem cd190 : allN (fun k => bndB (x_sgD (.ofNat (Nat.add k 192))) fun b => b) 10 = true := by kernel_rfl
theorem ca1 {a : Nat} (h0 : 0 ≤ a) (h : a < 900) : chkA (.ofNat (a * 1 + 1)) = true := by
  by_cases h3 : a < 150
  · have := allN_of ca1_0 (a - 0) (by omega); rw [show Nat.add (Nat.mul (Nat.add (a - 0) 0) 1) 1 = a * 1 + 1 from by show (a - 0 + 0) * 1 + 1 = _; omega] at this; exact this
  by_cases h153 : a < 300
  · have := allN_of ca1_150 (a - 150) (by omega); rw [show Nat.add (Nat.mul (Nat.add (a - 150) 150) 1) 1 = a * 1 + 1 from by show (a - 150 + 150) * 1 + 1 = _; omega] at this; exact this
  by_cases h303 : a < 450
  · have := allN_of ca1_300 (a - 300) (by omega); rw [show Nat.add (Nat.mul (Nat.add (a - 300) 300) 1) 1 = a * 1 + 1 from by show (a - 300 + 300) * 1 + 1 = _; omega] at this; exact this
  by_cases h453 : a < 600
  · have := allN_of ca1_450 (a - 450) (by omega); rw [show Nat.add (Nat.mul (Nat.add (a - 450) 450) 1) 1 = a * 1 + 1 from by show (a - 450 + 450) * 1 + 1 = _; omega] at this; exact this
  by_cases h603 : a < 750
  · have := allN_of ca1_600 (a - 600) (by omega); rw [show Nat.add (Nat.mul (Nat.add (a - 600) 600) 1) 1 = a * 1 + 1 from by show (a - 600 + 600) * 1 + 1 = _; omega] at this; exact this
  by_cases h753 : a < 900
  · have := allN_of ca1_750 (a - 750) (by omega); rw [show Nat.add (Nat.mul (Nat.add (a - 750) 750) 1) 1 = a * 1 + 1 from by show (a - 750 + 750) * 1 + 1 = _; omega] at this; exact this
  omega
theorem ca2 {a : Nat} (h0 : 450 ≤ a) (h : a < 900) : chkA (.ofNat (a * 2 + 1)) = true := by
  by_cases h453 : a < 525
  · have := allN_of ca2_450 (a - 450) (by omega); rw [show Nat.add (Nat.mul (Nat.add (a - 450) 450) 2) 1 = a * 2 + 1 from by show (a - 450 + 450) * 2 + 1 = _; omega] at this; exact this
  by_cases h528 : a < 600
  · have := allN_of ca2_525 (a - 525) (by omega); rw [show Nat.add (Nat.mul (Nat.add (a - 525) 525) 2) 1 = a * 2 + 1 from by show (a - 525 + 525) * 2 + 1 = _; omega] at this; exact this
  by_cases h603 : a < 675
  · have := allN_of ca2_600 (a - 600) (by omega); rw [show Nat.add (Nat.mul (Nat.add (a - 600) 600) 2) 1 = a * 2 + 1 from by show (a - 600 + 600) * 2 + 1 = _; omega] at this; exact this
  by_cases h678 : a < 750
  · have := allN_of ca2_675 (a - 675) (by omega); rw [show Nat.add (Nat.mul (Nat.add (a - 675) 675) 2) 1 = a * 2 + 1 from by show (a - 675 + 675) * 2 + 1 = _; omega] at this; exact this
  by_cases h753 : a < 825
  · have := allN_of ca2_750 (a - 750) (by omega); rw [show Nat.add (Nat.mul (Nat.add (a - 750) 750) 2) 1 = a * 2 + 1 from by show (a - 750 + 750) * 2 + 1 = _; omega] at this; exact this
  by_cases h828 : a < 900
  · have := allN_of ca2_825 (a - 825) (by omega); rw [show Nat.add (Nat.mul (Nat.add (a - 825) 825) 2) 1 = a * 2 + 1 from by show (a - 825 + 825) * 2 + 1 = _; omega] at this; exact this
  omega
theorem ca3 {a : Nat} (h0 : 300 ≤ a) (h : a < 900) : chkA (.ofNat (a * 3 + 1)) = true := by
  by_cases h303 : a < 375
  · have := allN_of ca3_300 (a - 300) (by omega); rw [show Nat.add (Nat.mul (Nat.add (a - 300) 300) 3) 1 = a * 3 + 1 from by show (a - 300 + 300) * 3 + 1 = _; omega] at this; exact this
  by_cases h378 : a < 450
  · have := allN_of ca3_375 (a - 375) (by omega); rw [show Nat.add (Nat.mul (Nat.add (a - 375) 375) 3) 1 = a * 3 + 1 from by show (a - 375 + 375) * 3 + 1 = _; omega] at this; exact this
  by_cases h453 : a < 525
  · have := allN_of ca3_450 (a - 450) (by omega); rw [show Nat.add (Nat.mul (Nat.add (a - 450) 450) 3) 1 = a * 3 + 1 from by show (a - 450 + 450) * 3 + 1 = _; omega] at this; exact this
  by_cases h528 : a < 600
  · have := allN_of ca3_525 (a - 525) (by omega); rw [show Nat.add (Nat.mul (Nat.add (a - 525) 525) 3) 1 = a * 3 + 1 from by show (a - 525 + 525) * 3 + 1 = _; omega] at this; exact this
  by_cases h603 : a < 675
  · have := allN_of ca3_600 (a - 600) (by omega); rw [show Nat.add (Nat.mul (Nat.add (a - 600) 600) 3) 1 = a * 3 + 1 from by show (a - 600 + 600) * 3 + 1 = _; omega] at this; exact this
  by_cases h678 : a < 750
  · have := allN_of ca3_675 (a - 675) (by omega); rw [show Nat.add (Nat.mul (Nat.add (a - 675) 675) 3) 1 = a * 3 + 1 from by show (a - 675 + 675) * 3 + 1 = _; omega] at this; exact this
  by_cases h753 : a < 825
  · have := allN_of ca3_750 (a - 750) (by omega); rw [show Nat.add (Nat.mul (Nat.add (a - 750) 750) 3) 1 = a * 3 + 1 from by show (a - 750 + 750) * 3 + 1 = _; omega] at this; exact this
  by_cases h828 : a < 900
  · have := allN_of ca3_825 (a - 825) (by omega); rw [show Nat.add (Nat.mul (Nat.add (a - 825) 825) 3) 1 = a * 3 + 1 from by show (a - 825 + 825) * 3 + 1 = _; omega] at this; exact this
  omega
theorem ca4 {a : Nat} (h0 : 450 ≤ a) (h : a < 900) : chkA (.ofNat (a * 4 + 1)) = true := by
  by_cases h453 : a < 525
  · have := allN_of ca4_450 (a - 450) (by omega); rw [show Nat.add (Nat.mul (Nat.add (a - 450) 450) 4) 1 = a * 4 + 1 from by show (a - 450 + 450) * 4 + 1 = _; omega] at this; exact this
  by_cases h528 : a < 600
  · have := allN_of ca4_525 (a - 525) (by omega); rw [show Nat.add (Nat.mul (Nat.add (a - 525) 525) 4) 1 = a * 4 + 1 from by show (a - 525 + 525) * 4 + 1 = _; omega] at this; exact this
  by_cases h603 : a < 675
  · have := allN_of ca4_600 (a - 600) (by omega); rw [show Nat.add (Nat.mul (Nat.add (a - 600) 600) 4) 1 = a * 4 + 1 from by show (a - 600 + 600) * 4 + 1 = _; omega] at this; exact this
  by_cases h678 : a < 750
  · have := allN_of ca4_675 (a - 675) (by omega); rw [show Nat.add (Nat.mul (Nat.add (a - 675) 675) 4) 1 = a * 4 + 1 from by show (a - 675 + 675) * 4 + 1 = _; omega] at this; exact this
  by_cases h753 : a < 825
  · have := allN_of ca4_750 (a - 750) (by omega); rw [show Nat.add (Nat.mul (Nat.add (a - 750) 750) 4) 1 = a * 4 + 1 from by show (a - 750 + 750) * 4 + 1 = _; omega] at this; exact this
  by_cases h828 : a < 900
  · have := allN_of ca4_825 (a - 825) (by omega); rw [show Nat.add (Nat.mul (Nat.add (a - 825) 825) 4) 1 = a * 4 + 1 from by show (a - 825 + 825) * 4 + 1 = _; omega] at this; exact this
  omega
theorem ca_all {a b : Nat} (ha : a < 900) (hb : b < 4) : chkA (.ofNat (1 + a * (1 + b))) = true := by
  match b, hb with
  | 0, _ => rw [show 1 + a * (1 + 0) = a * 1 + 1 by omega]; exact ca1 (Nat.zero_le _) ha
  | 1, _ =>
    by_cases h : a < 450
    · rw [show 1 + a * (1 + 1) = (a * 2) * 1 + 1 by omega]; exact ca1 (Nat.zero_le _) (by omega)
    · rw [show 1 + a * (1 + 1) = a * 2 + 1 by omega]; exact ca2 (by omega) ha
  | 2, _ =>
    by_cases h : a < 300
    · rw [show 1 + a * (1 + 2) = (a * 3) * 1 + 1 by omega]; exact ca1 (Nat.zero_le _) (by omega)
    · rw [show 1 + a * (1 + 2) = a * 3 + 1 by omega]; exact ca3 (by omega) ha
  | 3, _ =>
    by_cases h : a < 225
    · rw [show 1 + a * (1 + 3) = (a * 4) * 1 + 1 by omega]; exact ca1 (Nat.zero_le _) (by omega)
    · by_cases h2 : a < 450
      · rw [show 1 + a * (1 + 3) = (a * 2) * 2 + 1 by omega]; exact ca2 (by omega) (by omega)
      · rw [show 1 + a * (1 + 3) = a * 4 + 1 by omega]; exact ca4 (by omega) ha
theorem cd_all {t : Nat} (h : t < 200) : x_sgD (.ofNat (2 + t)) = some true := by
  have g : bndB (x_sgD (.ofNat (2 + t))) (fun b => b) = true := by
    by_cases h3 : t < 10
    · have := allN_of cd0 (t - 0) (by omega); rw [show Nat.add (t - 0) 2 = 2 + t from by show t - 0 + 2 = _; omega] at this; exact this
    by_cases h13 : t < 20
    · have := allN_of cd10 (t - 10) (by omega); rw [show Nat.add (t - 10) 12 = 2 + t from by show t - 10 + 12 = _; omega] at this; exact this
    by_cases h23 : t < 30
    · have := allN_of cd20 (t - 20) (by omega); rw [show Nat.add (t - 20) 22 = 2 + t from by show t - 20 + 22 = _; omega] at this; exact this
    by_cases h33 : t < 40
    · have := allN_of cd30 (t - 30) (by omega); rw [show Nat.add (t - 30) 32 = 2 + t from by show t - 30 + 32 = _; omega] at this; exact this
    by_cases h43 : t < 50
    · have := allN_of cd40 (t - 40) (by omega); rw [show Nat.add (t - 40) 42 = 2 + t from by show t - 40 + 42 = _; omega] at this; exact this
    by_cases h53 : t < 60
    · have := allN_of cd50 (t - 50) (by omega); rw [show Nat.add (t - 50) 52 = 2 + t from by show t - 50 + 52 = _; omega] at this; exact this
    by_cases h63 : t < 70
    · have := allN_of cd60 (t - 60) (by omega); rw [show Nat.add (t - 60) 62 = 2 + t from by show t - 60 + 62 = _; omega] at this; exact this
    by_cases h73 : t < 80
    · have := allN_of cd70 (t - 70) (by omega); rw [show Nat.add (t - 70) 72 = 2 + t from by show t - 70 + 72 = _; omega] at this; exact this
    by_cases h83 : t < 90
    · have := allN_of cd80 (t - 80) (by omega); rw [show Nat.add (t - 80) 82 = 2 + t from by show t - 80 + 82 = _; omega] at this; exact this
    by_cases h93 : t < 100
    · have := allN_of cd90 (t - 90) (by omega); rw [show Nat.add (t - 90) 92 = 2 + t from by show t - 90 + 92 = _; omega] at this; exact this
    by_cases h103 : t < 110
    · have := allN_of cd100 (t - 100) (by omega); rw [show Nat.add (t - 100) 102 = 2 + t from by show t - 100 + 102 = _; omega] at this; exact this
    by_cases h113 : t < 120
    · have := allN_of cd110 (t - 110) (by omega); rw [show Nat.add (t - 110) 112 = 2 + t from by show t - 110 + 112 = _; omega] at this; exact this
    by_cases h123 : t < 130
    · have := allN_of cd120 (t - 120) (by omega); rw [show Nat.add (t - 120) 122 = 2 + t from by show t - 120 + 122 = _; omega] at this; exact this
    by_cases h133 : t < 140
    · have := allN_of cd130 (t - 130) (by omega); rw [show Nat.add (t - 130) 132 = 2 + t from by show t - 130 + 132 = _; omega] at this; exact this
    by_cases h143 : t < 150
    · have := allN_of cd140 (t - 140) (by omega); rw [show Nat.add (t - 140) 142 = 2 + t from by show t - 140 + 142 = _; omega] at this; exact this
    by_cases h153 : t < 160
    · have := allN_of cd150 (t - 150) (by omega); rw [show Nat.add (t - 150) 152 = 2 + t from by show t - 150 + 152 = _; omega] at this; exact this
    by_cases h163 : t < 170
    · have := allN_of cd160 (t - 160) (by omega); rw [show Nat.add (t - 160) 162 = 2 + t from by show t - 160 + 162 = _; omega] at this; exact this
    by_cases h173 : t < 180
    · have := allN_of cd170 (t - 170) (by omega); rw [show Nat.add (t - 170) 172 = 2 + t from by show t - 170 + 172 = _; omega] at this; exact this
    by_cases h183 : t < 190
    · have := allN_of cd180 (t - 180) (by omega); rw [show Nat.add (t - 180) 182 = 2 + t from by show t - 180 + 182 = _; omega] at this; exact this
    by_cases h193 : t < 200
    · have := allN_of cd190 (t - 190) (by omega); rw [show Nat.add (t - 190) 192 = 2 + t from by show t - 190 + 192 = _; omega] at this; exact this
    omega
  obtain ⟨b, h1, h2⟩ := bndB_eq g
  rw [h1, show b = true from h2]
/-! ### the law, put together -/
theorem bnd_ite {α β : Type} {b : Bool} {x : Option α} {f : α → Option β} : bndO (iteB b x none) f = iteB b (bndO x f) none := by cases b <;> rfl
theorem bnd_ite2 {α β : Type} {b : Bool} {x : Option α} {f : α → Option β} : bndO (iteB b none x) f = iteB b none (bndO x f) := by cases b <;> rfl
theorem bnd_bnd {α β γ : Type} {o : Option α} {g : α → Option β} {f : β → Option γ} : bndO (bndO o g) f = bndO o fun a => bndO (g a) f := by cases o <;> rfl
theorem sgA_par {n : Int} {d : Ev.D} {ev : List Ev.D} (he : x_divisors n = some ev) (h : isSomeB (x_sgA n .none) = true) : x_sgA n d = some [.int n, d, .tuple ev] := by
  have key : x_sgA n d = bndO (x_sgA n .none) fun _ => some [.int n, d, .tuple ev] := by
    unfold x_sgA
    rw [he]
    simp only [bndO_some, bnd_ite, bnd_ite2, bnd_bnd, frcLL_eq]
  rw [key]
  cases e : x_sgA n .none with
  | none => rw [e] at h; cases h
  | some v => rfl
noncomputable abbrev Φl := Φof u_law_φs
theorem row13 {r : Rho} (h : r.length = 13) : ∃ s2 s3 s4 s5 s6 s7 s8 s9 s10 s11 s12 s13 s14, r = [s2, s3, s4, s5, s6, s7, s8, s9, s10, s11, s12, s13, s14] := by
  match r, h with
  | [s2, s3, s4, s5, s6, s7, s8, s9, s10, s11, s12, s13, s14], _ => exact ⟨_, _, _, _, _, _, _, _, _, _, _, _, _, rfl⟩
theorem im_of {s : Sl} {d : Ev.D} (h : some s = some (Sl.im d)) : s = .im d := Option.some.inj h
theorem sel3 {ρ : Rho} {a b c : Ev.D} {i j k : Nat} (h : [i, j, k].mapM (slD ρ) = some [a, b, c]) : slD ρ i = some a ∧ slD ρ j = some b ∧ slD ρ k = some c := by
  simp only [List.mapM_cons, List.mapM_nil, bind, pure] at h
  cases h1 : slD ρ i with
  | none => rw [h1] at h; cases h
  | some x =>
    cases h2 : slD ρ j with
    | none => rw [h1, h2] at h; cases h
    | some y =>
      cases h3 : slD ρ k with
      | none => rw [h1, h2, h3] at h; cases h
      | some z => rw [h1, h2, h3] at h; cases h; exact ⟨rfl, rfl, rfl⟩
theorem sel2 {ρ : Rho} {a b : Ev.D} {i j : Nat} (h : [i, j].mapM (slD ρ) = some [a, b]) : slD ρ i = some a ∧ slD ρ j = some b := by
  simp only [List.mapM_cons, List.mapM_nil, bind, pure] at h
  cases h1 : slD ρ i with
  | none => rw [h1] at h; cases h
  | some x =>
    cases h2 : slD ρ j with
    | none => rw [h1, h2] at h; cases h
    | some y => rw [h1, h2] at h; cases h; exact ⟨rfl, rfl⟩
theorem n_ev {ρ : Rho} (hp : ρ[1]? = some .tp) (τ : Tp) : ∃ d τ', (∃ a b, a < 900 ∧ b < 4 ∧ d = nD (1 + a * (1 + b))) ∧ ev Φl (Ψof [takeF]) ρ τ (.bin .add (.cst (.int 1)) (.bin .mul (.callT 0 1 [(.cst (.int 900))]) (.bin .add (.cst (.int 1)) (.callT 0 1 [(.cst (.int 4))])))) = some (⟨.S, d⟩, τ') := by
  obtain ⟨a, h1, τ1, e1⟩ := ev_take (Φ := Φl) (τ := τ) hp (vt_cst (d := .int 900)) (by decide) (by decide)
  obtain ⟨b, h2, τ2, e2⟩ := ev_take (Φ := Φl) (τ := τ1) hp (vt_cst (d := .int 4)) (by decide) (by decide)
  have a1 := vt_bin (op := .add) (r := ⟨.S, .int (1 + (b : Int))⟩) (vt_cst (Φ := Φl) (Ψ := Ψof [takeF]) (ρ := ρ) (τ := τ1) (d := .int 1)) e2 rfl
  have a2 := vt_bin (op := .mul) e1 a1 (mul_ok (i := .ofNat a) (j := 1 + (b : Int)) (by show a ≤ _; omega) (by omega))
  refine ⟨_, τ2, ⟨a, b, by omega, by omega, rfl⟩, vt_bin (op := .add) (r := ⟨.S, nD (1 + a * (1 + b))⟩) (vt_cst (d := .int 1)) a2 ?_⟩
  show some (⟨.S, .int (1 + Int.ofNat a * (1 + (b : Int)))⟩ : Ev.R) = _
  congr 2
theorem m_ev {ρ : Rho} (hp : ρ[1]? = some .tp) (τ : Tp) : ∃ d τ', (∃ m, m < 300 ∧ d = nD (1 + m)) ∧ ev Φl (Ψof [takeF]) ρ τ (.bin .add (.cst (.int 1)) (.callT 0 1 [(.cst (.int 300))])) = some (⟨.S, d⟩, τ') := by
  obtain ⟨a, h1, τ1, e1⟩ := ev_take (Φ := Φl) (τ := τ) hp (vt_cst (d := .int 300)) (by decide) (by decide)
  refine ⟨_, τ1, ⟨a, by omega, rfl⟩, vt_bin (op := .add) (r := ⟨.S, nD (1 + a)⟩) (vt_cst (d := .int 1)) e1 ?_⟩
  show some (⟨.S, .int (1 + Int.ofNat a)⟩ : Ev.R) = _
  congr 2
theorem t_ev {ρ : Rho} (hp : ρ[1]? = some .tp) (τ : Tp) : ∃ d τ', (∃ m, m < 200 ∧ d = nD (2 + m)) ∧ ev Φl (Ψof [takeF]) ρ τ (.bin .add (.cst (.int 2)) (.callT 0 1 [(.cst (.int 200))])) = some (⟨.S, d⟩, τ') := by
  obtain ⟨a, h1, τ1, e1⟩ := ev_take (Φ := Φl) (τ := τ) hp (vt_cst (d := .int 200)) (by decide) (by decide)
  refine ⟨_, τ1, ⟨a, by omega, rfl⟩, vt_bin (op := .add) (r := ⟨.S, nD (2 + a)⟩) (vt_cst (d := .int 2)) e1 ?_⟩
  show some (⟨.S, .int (2 + Int.ofNat a)⟩ : Ev.R) = _
  congr 2
theorem split_at {i m : Nat} : u_law_code.drop i = (u_law_code.drop i).take m ++ u_law_code.drop (i + m) := by
  rw [← List.drop_drop, List.take_append_drop]
theorem main (a : Sl) (s2 s3 s4 s5 s6 s7 s8 s9 s10 s11 s12 s13 s14 : Sl) : LK Φl 1000 [a, .tp, s2, s3, s4, s5, s6, s7, s8, s9, s10, s11, s12, s13, s14] u_law_code := by
  show LK Φl 1000 _ (.set (.nm 2) _ :: u_law_code.drop 1)
  refine lk_set (n_ev rfl) fun d hd => ?_
  obtain ⟨na, nb, ha, hb, rfl⟩ := hd
  have ca := ca_all ha hb
  have hn0 : 0 < 1 + na * (1 + nb) := by omega
  have hn1 : 1 + na * (1 + nb) ≤ 3597 := by
    have := Nat.mul_le_mul (show na ≤ 899 by omega) (show 1 + nb ≤ 4 by omega)
    omega
  generalize 1 + na * (1 + nb) = n at ca hn0 hn1 ⊢
  obtain ⟨ev, hev, c1⟩ := bndB_eq ca
  rw [frcLL_eq] at c1
  have cA := andB_l c1
  have cC := andB_r c1
  show LK Φl 1000 [a, .tp, .im (nD n), s3, s4, s5, s6, s7, s8, s9, s10, s11, s12, s13, s14] (.set (.nm 3) _ :: u_law_code.drop 2)
  refine lk_set (m_ev rfl) fun d hd => ?_
  obtain ⟨m, hm, rfl⟩ := hd
  show LK Φl 1000 [a, .tp, .im (.int (.ofNat n)), .im (nD (1 + m)), s4, s5, s6, s7, s8, s9, s10, s11, s12, s13, s14] (u_law_code.drop 2)
  rw [split_at (i := 2) (m := 4)]
  refine lk_seg (fun τ => x_sgA_ok rfl rfl rfl rfl (.ofNat n) (nD (1 + m)) a s4 s5 s6 s7 s8 s9 s10 s11 s12 s13 s14) (sgA_par hev cA) fun a r hL hs => ?_
  obtain ⟨s2, s3, s4, s5, s6, s7, s8, s9, s10, s11, s12, s13, s14, rfl⟩ := row13 hL
  obtain ⟨g2, g3, g4⟩ := sel3 hs
  have q2 := im_of (slD_im g2)
  have q3 := im_of (slD_im g3)
  have q4 := im_of (slD_im g4)
  subst q2 q3 q4
  show LK Φl 1000 [a, .tp, .im (.int (.ofNat n)), .im (.int (.ofNat (1 + m))), .im (.tuple ev), s5, s6, s7, s8, s9, s10, s11, s12, s13, s14] (u_law_code.drop 6)
  rw [split_at (i := 6) (m := 5)]
  refine lk_seg (fun τ => x_sgB_ok rfl rfl rfl rfl rfl (.ofNat n) (.ofNat (1 + m)) (.tuple ev) a s5 s6 s7 s8 s9 s10 s11 s12 s13 s14) (sgB_ok hn0 (by omega) hn1 (by omega)) fun a r hL hs => ?_
  obtain ⟨s2, s3, s4, s5, s6, s7, s8, s9, s10, s11, s12, s13, s14, rfl⟩ := row13 hL
  obtain ⟨g2, g4⟩ := sel2 hs
  have q2 := im_of (slD_im g2)
  have q4 := im_of (slD_im g4)
  subst q2 q4
  show LK Φl 1000 [a, .tp, .im (.int (.ofNat n)), s3, .im (.tuple ev), s5, s6, s7, s8, s9, s10, s11, s12, s13, s14] (u_law_code.drop 11)
  rw [split_at (i := 11) (m := 7)]
  refine lk_seg (fun τ => x_sgC_ok rfl rfl rfl rfl rfl (.ofNat n) (.tuple ev) a s3 s5 s6 s7 s8 s9 s10 s11 s12 s13 s14) (isSome_eq (z := []) cC) fun a r hL hs => ?_
  obtain ⟨s2, s3, s4, s5, s6, s7, s8, s9, s10, s11, s12, s13, s14, rfl⟩ := row13 hL
  show LK Φl 1000 _ (.set (.nm 12) _ :: u_law_code.drop 19)
  refine lk_set (t_ev rfl) fun d hd => ?_
  obtain ⟨t, ht, rfl⟩ := hd
  show LK Φl 1000 [a, .tp, s2, s3, s4, s5, s6, s7, s8, s9, s10, s11, .im (.int (.ofNat (2 + t))), s13, s14] (u_law_code.drop 19)
  exact lk_fin (fun τ => x_sgD_ok rfl rfl rfl (.ofNat (2 + t)) a s2 s3 s4 s5 s6 s7 s8 s9 s10 s11 s13 s14) (cd_all ht)
theorem lawHolds : LawHolds := fun ns seed => ⟨1000, main .un .un .un .un .un .un .un .un .un .un .un .un .un .un ⟨ns, 0, 0, seed⟩⟩

end K37

open PySem PySem.W PyProof.Rows
set_option maxHeartbeats 0 in
theorem PySem.Challenge.cw_numberguild_k37_sums_over_divisors_holds : PySem.Challenge.rw_numberguild_k37_sums_over_divisors.Holds := by
  w_on; o_law; k_head; (case hw => w_witness2)
  k_fill
  refine L2.walk_of (l := PySem.Challenge.rw_numberguild_k37_sums_over_divisors) (n := 63) (k := 21) (x := "script") (CX := fun _ => L2.CX0) (sp := fun w => Ev.spLaw _) rfl (by decide) rfl ⟨rfl, by decide, by decide⟩ (fun w h Y => PySem.W.kIn_of Y) ?F (fun _ _ a ns hl _ hS => ⟨a, ns, rfl, hS, hl, fun _ => rfl⟩) (fun _ _ _ _ _ h => h)
  case F =>
    intro w mg fa h KX G hmg
    refine' K37.all_mk K37.lawHolds KX G hmg ?a0 ?l0 ?c0 ?k0 ?a1 ?l1 ?c1 ?k1 ?a2 ?l2 ?c2 ?k2 ?a3 ?l3 ?c3 ?k3 ?a4 ?l4 ?c4 ?k4 ?a5 ?l5 ?c5 ?k5 ?a6 ?l6 ?c6 ?k6 ?a7 ?l7 ?c7 ?k7 ?a8 ?l8 ?c8 ?k8 ?a9 ?l9 ?c9 ?k9 ?a10 ?l10 ?c10 ?k10 ?a11 ?l11 ?c11 ?k11 ?a12 ?l12 ?c12 ?k12 ?a13 ?l13 ?c13 ?k13 ?a14 ?l14 ?c14 ?k14 ?a15 ?l15 ?c15 ?k15 ?a16 ?l16 ?c16 ?k16 ?a17 ?l17 ?c17 ?k17 ?a18 ?l18 ?c18 ?k18 ?a19 ?l19 ?c19 ?k19 ?a20 ?l20 ?c20 ?k20 ?a21 ?l21 ?c21 ?k21 ?a22 ?l22 ?c22 ?k22 ?z_abs ?z_any ?z_int ?z_len ?z_list ?z_range ?z_sorted ?z_sum ?z_tuple ?q_BASES ?r_BASES ?q_MOST
    (case a0 => k_is); (case l0 => k_is); (case c0 => k_is); (case k0 => k_is); (case a1 => k_is); (case l1 => k_is); (case c1 => k_is); (case k1 => k_is); (case a2 => k_is); (case l2 => k_is); (case c2 => k_is); (case k2 => k_is); (case a3 => k_is); (case l3 => k_is); (case c3 => k_is); (case k3 => k_is); (case a4 => k_is); (case l4 => k_is); (case c4 => k_is); (case k4 => k_is); (case a5 => k_is); (case l5 => k_is); (case c5 => k_is); (case k5 => k_is); (case a6 => k_is); (case l6 => k_is); (case c6 => k_is); (case k6 => k_is); (case a7 => k_is); (case l7 => k_is); (case c7 => k_is); (case k7 => k_is); (case a8 => k_is); (case l8 => k_is); (case c8 => k_is); (case k8 => k_is); (case a9 => k_is); (case l9 => k_is); (case c9 => k_is); (case k9 => k_is); (case a10 => k_is); (case l10 => k_is); (case c10 => k_is); (case k10 => k_is); (case a11 => k_is); (case l11 => k_is); (case c11 => k_is); (case k11 => k_is); (case a12 => k_is); (case l12 => k_is); (case c12 => k_is); (case k12 => k_is); (case a13 => k_is); (case l13 => k_is); (case c13 => k_is); (case k13 => k_is); (case a14 => k_is); (case l14 => k_is); (case c14 => k_is); (case k14 => k_is); (case a15 => k_is); (case l15 => k_is); (case c15 => k_is); (case k15 => k_is); (case a16 => k_is); (case l16 => k_is); (case c16 => k_is); (case k16 => k_is); (case a17 => k_is); (case l17 => k_is); (case c17 => k_is); (case k17 => k_is); (case a18 => k_is); (case l18 => k_is); (case c18 => k_is); (case k18 => k_is); (case a19 => k_is); (case l19 => k_is); (case c19 => k_is); (case k19 => k_is); (case a20 => k_is); (case l20 => k_is); (case c20 => k_is); (case k20 => k_is); (case a21 => k_is); (case l21 => k_is); (case c21 => k_is); (case k21 => k_is); (case a22 => k_is); (case l22 => k_is); (case c22 => k_is); (case k22 => k_is); (case z_abs => k_is); (case z_any => k_is); (case z_int => k_is); (case z_len => k_is); (case z_list => k_is); (case z_range => k_is); (case z_sorted => k_is); (case z_sum => k_is); (case z_tuple => k_is); (case q_BASES => k_is); (case r_BASES => k_is); (case q_MOST => k_is)
