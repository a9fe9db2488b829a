import PyProof.Rows.All
import Wide.All
import OpenK.AllK
import Wide.FinOn
import HandS.Wide
import HandS.Walk
import HandS.Zip
import KE.GoesMore
import HandS.Style
import HandS.TupMul
import HandS.TupAny
import HandS.SetFor
import HandS.ForMost
import HandS.WideBits
import HandS.Deep
import HandS.Conv
import HandS.SortInts
import KE.DataMinMax
import HandS.WideMore
import PySem.Challenge.RW_numberguild_k52_whole_counts_by_quotient
set_option Elab.async false
set_option linter.all false
set_option maxRecDepth 1000000
/-! ## EvE -/
/-! enumerate of a tuple: the machine's part -/
namespace PySem
open Sem (wp)
set_option maxHeartbeats 1000000 in
theorem meets_enumerate_of {v : Value} {o : Obj} {Hv : Heap → Prop} (B : Begins v o Hv) :
    Meets (Builtin.«enumerate.__new__» ⟨[.type "enumerate", v], []⟩) (fun _ R s => Hv s.heap ∧
      R (.ok (.ret (.ref (s.heap.push o).objs.size))) { s with heap := (s.heap.push o).push { cls := .type "enumerate", data := .fields #[.none, .bool false, .ref s.heap.objs.size, rawInt 0, .none, .none] } }) :=
  .of_wp fun prog w A R s h => by
    obtain ⟨hp, g, d, tk, os⟩ := s
    obtain ⟨h1, h⟩ := h
    have hsub := sub_enumerate
    have q1 : ∀ {A' : Around} {E : Value → Shared → Prop} {Q : Value → Shared → Prop}, Q (.ref hp.objs.size) ⟨hp.push o, g, d, tk, os⟩ → wpAny (model prog w) A' (pyIter v) Q E ⟨hp, g, d, tk, os⟩ :=
      fun q => B.iter prog w _ _ ⟨hp, g, d, tk, os⟩ _ h1 q
    wp_walk
    refine wpAny_stack_any fun st => wpAny_pure ?_
    split
    · rename_i c _ _ _ _ _
      cases (c == Value.type "enumerate")
      · wp_walk using q1
        exact ⟨_, rfl, h⟩
      · wp_walk using q1
        exact ⟨_, rfl, h⟩
    · wp_walk using q1
      exact ⟨_, rfl, h⟩
theorem call_enumerate_of {prog : Program} {w : World} {A : Around} {E : Value → Shared → Prop} {s : Shared} {v : Value} {o : Obj} {Hv : Heap → Prop} (B : Begins v o Hv) {Q : Value → Shared → Prop} (hv : Hv s.heap)
    (h : ∀ h', IsEnum h' (s.heap.objs.size + 1) s.heap.objs.size 0 .none → h'.get? s.heap.objs.size = some o → h'.objs.size = s.heap.objs.size + 2 →
      (∀ b o, s.heap.get? b = some o → h'.get? b = some o) → Q (.ref (s.heap.objs.size + 1)) { s with heap := h' }) :
    wpAny (model prog w) A (call (.type "enumerate") [v]) Q E s := by
  refine callType_new F.called_enumerate (by decide) (F.typeCall_enumerate_1 _) (F.newCall_enumerate_1 _) (fun obj => F.args_object_init_2 obj _) F.entry_enumerate_new
    (meets_enumerate_of B) ⟨hv, ?_⟩
  have hz : (s.heap.push o).objs.size = s.heap.objs.size + 1 := Heap.size_push ..
  show _ ∧ _
  rw [hz]
  have he : IsEnum ((s.heap.push o).push { cls := .type "enumerate", data := .fields #[.none, .bool false, .ref s.heap.objs.size, rawInt 0, .none, .none] }) (s.heap.objs.size + 1) s.heap.objs.size 0 .none := by
    have := Heap.get?_push_size (s.heap.push o) (o := { cls := .type "enumerate", data := .fields #[.none, .bool false, .ref s.heap.objs.size, rawInt 0, .none, .none] }) rfl
    rw [hz] at this; exact this
  exact ⟨⟨_, he, rfl⟩, h _ he (Heap.get?_push_of_some _ (Heap.get?_push_size _ B.free)) (by rw [Heap.size_push, hz]) fun b o x => Heap.get?_push_of_some _ (Heap.get?_push_of_some _ x)⟩
/-- the end of an enumerate of a tuple, wherever its iterator stands behind the last item -/
theorem wpAny_pyNext_enum_endT {prog : Program} {w : World} {A : Around} {E : Value → Shared → Prop} {s : Shared} {e it l : Addr} {i : Nat} {items : Array Value} {old : Value} {Q : Option Value → Shared → Prop} (hh : A.handled = none)
    (he : IsEnum s.heap e it i old) (hit : s.heap.IsTupleIter it l i) (hl : s.heap.IsTuple l items) (hx : items[i]? = none)
    (hQ : ∀ h', Heap.ExtBut it s.heap h' → Q none { s with heap := h' }) : wpAny (model prog w) A (pyNext (.ref e)) Q E s := by
  have hT : s.TypeIs (.ref e) "enumerate" := ⟨_, he, rfl⟩
  unfold pyNext
  refine wpAny_bind (wpAny_attempt (wpAny_callSpecial?_slot (name := Str.ofString "__next__") hT F.slot_enumerate_next
    (wpAny_call_entry F.slot_enumerate_next hT F.entry_enumerate_next ?_ (F.args_enumerate_next_1 _))))
  show wpAny _ _ (field (.ref e) 2 >>= _) _ _ _
  refine wpAny_bind (wpAny_field he rfl (x := .ref it) rfl ?_)
  refine wpAny_bind (wpAny_nextOf_tuple_end hh hit hl hx fun h' x he' hx' => ?_)
  obtain ⟨o, ho, hc⟩ := hx'
  refine wpAny_bind (wpAny_isInstance (T := "StopIteration") (b := true) ⟨o, ho, hc⟩ isSubtype_stop ?_)
  exact wpAny_pure (hQ _ he')
end PySem
namespace L2
open PySem PySem.Spec PyProof.Rows
/-- the tuple at a, each item in a new pair -/
def IteT (K : PySem.W.Frag) (a : Addr) : It :=
  ⟨fun i H => ∃ (xs : List V) (x : V), SqT K H a xs ∧ xs[i]? = some x, fun i H v H' => ∃ T x, v = .ref T ∧ H T = none ∧ H' = upd H T (.tup [.int (i : Nat), x]) ∧ ∀ xs, SqT K H a xs → xs[i]? = some x, fun i H => ∃ xs : List V, SqT K H a xs ∧ xs.length ≤ i⟩
theorem turn_enumT {P : Program} {w : World} {K : PySem.W.Frag} {elts : List Expr} {kk : Nat} {tpos : Pos} (a e it : Addr) (hai : a ≠ it) (hae : a ≠ e) :
    Turn P w K (.Tuple elts kk tpos) (IteT K a) [e, it] e (fun i h => (∃ old, IsEnum h e it ((i : Nat) : Int) old) ∧ h.IsTupleIter it a i ∧ e ≠ it) where
  mem := by simp
  obj := fun i h st b hb => by
    obtain ⟨⟨old, he⟩, ⟨o, ho, hc, hd⟩, _⟩ := st
    have e' : b = e ∨ b = it := by simpa using hb
    rcases e' with z | z
    · rw [z]; exact ⟨_, he, fun v q => nomatch q⟩
    · rw [z]; exact ⟨o, ho, fun v q => by rw [hd] at q; cases q⟩
  keep := fun i h h' st k => let ⟨⟨old, he⟩, hi, hne⟩ := st; ⟨⟨old, k e (by simp) _ he⟩, hi.at fun o q => k it (by simp) o q, hne⟩
  item := by
    intro X hP hw hK hc i pins s σ H E I hf st hg
    subst hP hw hK
    obtain ⟨⟨old, he⟩, hit, hne⟩ := st
    obtain ⟨xs, x, hq, hx⟩ := hg
    obtain ⟨its, rv, p, hz⟩ := I.tuple hq
    obtain ⟨u, hu, ru⟩ := rv.get hx
    have hel : e < s.heap.objs.size := Heap.lt_size he
    have hil : it < s.heap.objs.size := by obtain ⟨_, q, _⟩ := hit; exact Heap.lt_size q
    have hlt : i < its.toArray.size := by
      have := rv.length
      have h2 := (List.getElem?_eq_some_iff.mp hx).1
      simp
      omega
    refine wpAny_pyNext_enum_itemD (Draws.tuple (A := X.A.in1) (I.ok.hd hc) it a hai its.toArray) he ⟨hit, p⟩ hlt hne (by simp [Ne.symm hae, hne]) fun x' h' tk hx' ho hst' hT hsz hk => ?_
    have ex : x' = u := by
      have h1 : its[i]? = some x' := by simpa using hx'
      rw [h1] at hu
      exact Option.some.inj hu
    subst ex
    refine ⟨_, rfl, wpAny_letOwnedTupleGo_enum (s := { s with heap := h', toks := tk + 1 }) ho fun h'' he' sb => ?_⟩
    have hT2 : h''.get? s.heap.objs.size = some { cls := .type "tuple", data := .seq #[.int i tk, x'] } := (sb.2 _ (Nat.ne_of_gt hel)).trans hT
    have new : ObjOk X.prog X.w (upd H s.heap.objs.size (.tup [.int (i : Nat), x])) h'' s.heap.objs.size (.tup [.int (i : Nat), x]) :=
      ⟨by show 2 ≤ sizeLine; decide, [.int i tk, x'], .cons ⟨_, rfl⟩ (.cons ru .nil), ⟨_, hT2, rfl, _, rfl⟩⟩
    have I1 : Inv X pins σ (upd H s.heap.objs.size (.tup [.int (i : Nat), x])) { s with heap := h'', toks := tk + 1 } :=
      I.turnedNew (ch := [e, it]) (fun b ob hb q => (sb.2 b (fun z => hb (by simp [z]))).trans (hk b ob (fun z => hb (by simp [z])) (fun z => hb (by simp [z])) q)) hf (Nat.le_refl _) new
    refine ⟨.ref s.heap.objs.size, _, I1, rfl, ⟨_, x, rfl, I.hok.fresh (Nat.le_refl _), rfl, fun ys hy => by rw [I.tuple_inj hy hq]; exact hx⟩, ⟨⟨x', ?_⟩, hst'.1.at fun o q => (sb.2 it (Ne.symm hne)).trans q, hne⟩, fun b hb => ?_⟩
    · have e1 : ((i + 1 : Nat) : Int) = (i : Int) + 1 := by omega
      rw [e1]; exact he'
    · have hb' : b < s.heap.objs.size := by
        have e' : b = e ∨ b = it := by simpa using hb
        rcases e' with z | z
        · rw [z]; exact hel
        · rw [z]; exact hil
      rw [upd_ne (Nat.ne_of_lt hb')]
      exact (hf b hb).1
  done := by
    intro X hP hw hK hc i pins s σ H E I hf st hg
    subst hP hw hK
    obtain ⟨⟨old, he⟩, hit, hne⟩ := st
    obtain ⟨xs, hq, hx⟩ := hg
    obtain ⟨its, rv, p, hz⟩ := I.tuple hq
    obtain ⟨f0, f1, f2, f3, f4, f5⟩ := hf it (by simp)
    have hl := rv.length
    refine wpAny_pyNext_enum_endT (I.ok.hd hc) he hit p (by simp; omega) fun h' eb => ⟨rfl, I.turned (t' := s.toks) (fun b o hb q => eb b o hb q) f0 f1 f3 f4 f5⟩
  self := fun A i s Q E st h => let ⟨⟨_, he⟩, _⟩ := st; wpAny_pyIter_enum he h
theorem walk_enumT {K : PySem.W.Frag} {a : Addr} {xs : List V} : Walk (IteT K a) xs.length (fun H => SqT K H a xs) (YPair (fun i => some (.int (i : Nat))) (fun i => xs[i]?)) := by
  refine ⟨fun i _ hi q => ⟨xs, xs[i], q, by simp [hi]⟩, fun _ q => ⟨xs, q, Nat.le_refl _⟩, fun i H v H' _ q y => ?_⟩
  obtain ⟨T, x, h1, h2, h3, h4⟩ := y
  exact ⟨T, .int (i : Nat), x, h1, h2, h3, rfl, h4 xs q⟩
def iEnumA (K : PySem.W.Frag) (te : TA) : TI := fun σ H R => te σ H fun vs H1 => ∃ a, vs = [.ref a] ∧ (((∃ xs, SqL K H1 a xs) ∧ R (Ite K a) H1) ∨ ((∃ xs, SqT K H1 a xs) ∧ R (IteT K a) H1))
theorem pi_enumA {X : Cx} {e : Expr} {ta : TA} {p pos tpos : Pos} {elts : List Expr} {kk : Nat} (hg : Gl X "enumerate") (hm : X.mg "enumerate" = none) (ha : PA X [e] ta) (hs : starEach [e] X.env = [(false, eval e X.env)]) :
    PI X (.Tuple elts kk tpos) (.Call (.Name "enumerate" p) [e] [] pos) (iEnumA X.K ta) := by
  refine ⟨fun pins s σ H R I h => ?_⟩
  refine Call_ (ld_blt I hg hm boot_enumerate (PyProof.Rows.callWith_type1 (thn (ha.run pos pins s σ H _ I h) fun us s1 ⟨vs, H1, I1, r1, q1⟩ => ?_) hs rfl))
  obtain ⟨a, ex, q⟩ := q1
  subst ex
  cases r1 with
  | cons r rr =>
    cases rr
    cases r
    have young : ∀ b ∈ [s1.heap.objs.size + 1, s1.heap.objs.size], FpOk X pins H1 b := fun b hb => by
      have e' : b = s1.heap.objs.size + 1 ∨ b = s1.heap.objs.size := by simpa using hb
      have hle : s1.heap.objs.size ≤ b := by
        rcases e' with z | z
        · rw [z]; exact Nat.le_add_right _ _
        · rw [z]; exact Nat.le_refl _
      exact I1.fpOk hle (I1.hok.fresh hle)
    rcases q with ⟨⟨xs, hq⟩, q⟩ | ⟨⟨xs, hq⟩, q⟩
    · obtain ⟨its, rv, p', hz⟩ := I1.list hq
      refine call_enumerate_list p'.isList fun h' he hit hsz hk => wpAny_pyIter_enum he ?_
      have I2 : Inv X pins σ H1 { s1 with heap := h' } := I1.kept (t' := s1.toks) hk
      exact ⟨s1.heap.objs.size + 1, [s1.heap.objs.size + 1, s1.heap.objs.size], _, _, H1, rfl, I2, turn_enum a (s1.heap.objs.size + 1) s1.heap.objs.size, ⟨⟨.none, he⟩, hit, Nat.succ_ne_self _⟩, young, q⟩
    · obtain ⟨its, rv, p', hz⟩ := I1.tuple hq
      have hlt : a < s1.heap.objs.size := by obtain ⟨o, ho, _⟩ := p'; exact Heap.lt_size ho
      refine call_enumerate_of (begins_tuple a its.toArray) p' fun h' he hit hsz hk => wpAny_pyIter_enum he ?_
      have I2 : Inv X pins σ H1 { s1 with heap := h' } := I1.kept (t' := s1.toks) hk
      exact ⟨s1.heap.objs.size + 1, [s1.heap.objs.size + 1, s1.heap.objs.size], _, _, H1, rfl, I2, turn_enumT a (s1.heap.objs.size + 1) s1.heap.objs.size (Nat.ne_of_lt hlt) (Nat.ne_of_lt (Nat.lt_succ_of_lt hlt)), ⟨⟨.none, he⟩, ⟨_, hit, rfl, rfl⟩, Nat.succ_ne_self _⟩, young, q⟩
end L2

/-! ## EvT -/
set_option maxHeartbeats 4000000
/-! tuple[::-1], and tuple * int for every small int -/
namespace HT
open PySem PySem.Spec PyProof.Rows
section
variable {prog : Program} {w : World} {A : Around} {E : Value → Shared → Prop} {s : Shared}
theorem rev_adjust (n : Nat) : Builtin.Slice.sliceAdjust none none (-1) (n : Int) = ((n : Int) - 1, -1) := rfl
theorem rev_places (n : Nat) : Builtin.Slice.slicePlaces ((n : Int) - 1) (-1) (-1) = n := by
  unfold Builtin.Slice.slicePlaces
  rw [if_neg (by omega)]
  by_cases h : (n : Int) - 1 > -1
  · rw [if_pos h, show (-(-1) : Int) = 1 from rfl, Int.ediv_one]
    omega
  · rw [if_neg h]
    omega
theorem fm_congr {α β : Type} {f g : α → Option β} : ∀ {l : List α}, (∀ k, k ∈ l → f k = g k) → l.filterMap f = l.filterMap g
  | [], _ => rfl
  | a :: l, h => by
    rw [List.filterMap_cons, List.filterMap_cons, h a (List.mem_cons_self ..), fm_congr fun k hk => h k (List.mem_cons_of_mem _ hk)]
theorem rev_pick (xs : Array Value) : ((List.range xs.size).filterMap fun (k : Nat) => xs[(((xs.size : Int) - 1) + (k : Int) * (-1)).toNat]?).toArray = xs.toList.reverse.toArray := by
  have e : ∀ k, k ∈ List.range xs.size → (fun (k : Nat) => xs[(((xs.size : Int) - 1) + (k : Int) * (-1)).toNat]?) k = (fun k => xs.toList.reverse[k]?) k := by
    intro k hk
    have hk := List.mem_range.mp hk
    have e1 : (((xs.size : Int) - 1) + (k : Int) * (-1)).toNat = xs.size - 1 - k := by omega
    simp only [e1]
    rw [List.getElem?_reverse (by simpa using hk)]
    simp
  rw [fm_congr e]
  congr 1
  have h2 : ∀ l : List Value, (List.range l.length).filterMap (fun k => l[k]?) = l := by
    intro l
    induction l with
    | nil => rfl
    | cons a l ih =>
      rw [List.length_cons, List.range_succ_eq_map, List.filterMap_cons]
      simp only [List.getElem?_cons_zero, List.filterMap_map]
      congr 1
  have := h2 xs.toList.reverse
  rw [List.length_reverse, Array.length_toList] at this
  exact this
theorem sliceApplied_rev {sl : Addr} {vl vu vs : Value} {n : Nat} {Q : Int × Int × Nat → Shared → Prop} (hs : s.heap.IsSliceOf sl vl vu vs) (pl : IsPart vl none) (pu : IsPart vu none) (ps : IsPart vs (some (-1)))
    (h : Q ((n : Int) - 1, -1, n) s) : wpAny (model prog w) A (Builtin.Slice.sliceApplied (.ref sl) (pure (n : Int))) Q E s := by
  obtain ⟨os, hos, hcs, hds⟩ := id hs
  unfold Builtin.Slice.sliceApplied Builtin.Slice.sliceFields
  refine wpAny_bind (wpAny_bind (wpAny_field hos hds (x := vl) rfl (wpAny_bind (wpAny_field hos hds (x := vu) rfl (wpAny_bind (wpAny_field hos hds (x := vs) rfl (wpAny_pure ?_)))))))
  refine wpAny_bind (slicePart_ ps ?_)
  show wpAny _ _ (if ((-1 : Int) == 0) = true then _ else _) _ _ s
  rw [if_neg (by decide)]
  refine wpAny_bind (slicePart_ pl (wpAny_bind (slicePart_ pu (wpAny_bind (wpAny_pure ?_)))))
  show wpAny _ _ (pure ((n : Int) - 1, (-1 : Int), Builtin.Slice.slicePlaces ((n : Int) - 1) (-1) (-1))) _ _ s
  rw [rev_places]
  exact wpAny_pure h
theorem getItem_tuple_rev {t sl : Addr} {items : Array Value} {vl vu vs : Value} {Q : Value → Shared → Prop} (ht : IsTup s.heap t items) (hs : s.heap.IsSliceOf sl vl vu vs) (pl : IsPart vl none) (pu : IsPart vu none) (ps : IsPart vs (some (-1)))
    (h : Q (.ref s.heap.objs.size) { s with heap := s.heap.push { cls := .type "tuple", data := .seq items.toList.reverse.toArray } }) (hsz : items.size ≤ sizeLine) : wpAny (model prog w) A (getItem (.ref t) (.ref sl)) Q E s := by
  have htake : sizeOk (.seq items.toList.reverse.toArray) := by
    show items.toList.reverse.toArray.size ≤ sizeLine
    rw [List.size_toArray, List.length_reverse, Array.length_toList]
    exact hsz
  obtain ⟨os, hos, hcs, hds⟩ := id hs
  have hTs : s.TypeIs (.ref sl) "slice" := ⟨os, hos, hcs⟩
  unfold getItem
  try with_reducible refine wpAny_holding ?_
  first | refine wpAny_bind (wpAny_pure ?_) | skip
  refine wpAny_bind (wpAny_sequenceKey ht.typeIs (by decide) ?_)
  refine wpAny_bind (wpAny_callSpecial?_slot (name := Str.ofString "__getitem__") ht.typeIs PyProof.Rows.slot_tuple_getitem
    (wpAny_call_entry PyProof.Rows.slot_tuple_getitem ht.typeIs entry_tuple_getitem ?_ (args_tuple_getitem _ _)))
  show wpAny _ _ (Builtin.Tuple.tupleItemsOf (.ref t) >>= _) _ _ s
  refine wpAny_bind (tupleItemsOf_ ht ?_)
  refine wpAny_bind (wpAny_typeOf hTs ?_)
  rw [if_pos (by decide)]
  refine wpAny_bind (sliceApplied_rev (n := items.size) hs pl pu ps ?_)
  have hno : ¬ ((((items.size : Int) - 1) == 0 && (-1 : Int) == 1 && items.size == items.size) = true) := by
    intro q
    rw [Bool.and_eq_true, Bool.and_eq_true] at q
    exact absurd q.1.2 (by decide)
  show wpAny _ _ (if (((items.size : Int) - 1) == 0 && (-1 : Int) == 1 && items.size == items.size) = true then _ else _) _ _ s
  rw [if_neg hno, rev_pick]
  first
    | exact wpAny_bind (m := Builtin.Tuple.tupleExact _) (wpAny_newObj_type (wpAny_pure ⟨_, rfl, wpAny_pure h⟩) htake)
    | exact wpAny_bind (m := Builtin.Tuple.tupleExact _) (wpAny_newObj_type (wpAny_bind (wpAny_pure (wpAny_pure ⟨_, rfl, wpAny_pure h⟩))) htake)
    | exact wpAny_bind (wpAny_bind (m := Builtin.Tuple.tupleExact _) (wpAny_newObj_type (wpAny_pure (wpAny_pure ⟨_, rfl, wpAny_pure h⟩)) htake))
    | exact wpAny_bind (wpAny_bind (m := Builtin.Tuple.tupleExact _) (wpAny_newObj_type (wpAny_pure ⟨_, rfl, wpAny_pure h⟩) htake))
end
end HT
namespace L2
open PySem PySem.Spec PyProof.Rows
/-- xs[::-1] of a list or a tuple -/
def tRevA (K : PySem.W.Frag) (te : TE) : TE := fun σ H Q => te σ H fun x H1 => ∃ a xs, x = .ref a ∧ ((SqL K H1 a xs ∧ ∀ p, H1 p = none → Q (.ref p) (upd H1 p (.lst xs.reverse))) ∨ (SqT K H1 a xs ∧ ∀ p, H1 p = none → Q (.ref p) (upd H1 p (.tup xs.reverse))))
theorem pe_revA {X : Cx} {e : Expr} {te : TE} {k : Nat} {p1 p2 p3 pos : Pos} (he : PE X e te) : PE X (.Subscript e (.Slice none none (some (.UnaryOp .USub (.Constant (.int 1) k p1) p2)) p3) pos) (tRevA X.K te) := by
  refine ⟨fun pins s σ H Q I h => ?_⟩
  refine Subscript_ (thn (he.run pins s σ H _ I h) fun v s1 ⟨x, H1, I1, r1, q1⟩ => ?_)
  obtain ⟨a, xs, ex, q⟩ := q1
  subst ex
  cases r1
  have hst : PO X (some (.UnaryOp .USub (.Constant (.int 1) k p1) p2)) (tPart (tUn (rU fun i => .int (-i)) (tC (.int 1)))) := po_some (pe_un un_neg pe_int)
  refine wpAny_Slice (thn (po_none.run pins s1 σ H1 (fun o H2 => o = none ∧ H2 = H1) I1 ⟨rfl, rfl⟩) fun vl s2 ⟨l, H2, I2, pl, el, e2⟩ => ?_)
  subst el e2
  refine thn (po_none.run pins s2 σ H2 (fun o H3 => o = none ∧ H3 = H2) I2 ⟨rfl, rfl⟩) fun vu s3 ⟨u, H3, I3, pu, eu, e3⟩ => ?_
  subst eu e3
  refine thn (hst.run pins s3 σ H3 (fun o H4 => o = some (-1) ∧ H4 = H3) I3 ⟨1, rfl, -1, rfl, rfl, rfl⟩) fun vs s4 ⟨o, H4, I4, ps, eo, e4⟩ => ?_
  subst eo e4
  have I5 : Inv X pins σ H4 { s4 with heap := s4.heap.push { cls := .type "slice", data := .fields #[vl, vu, vs] } } := I4.kept (t' := s4.toks) fun b ob q => Heap.get?_push_of_some _ q
  show wpAny (model X.prog X.w) X.A (subscriptTail e (.Slice none none (some (.UnaryOp .USub (.Constant (.int 1) k p1) p2)) p3) (.ref a) (.ref s4.heap.objs.size)) (EP X pins σ Q) X.xe { s4 with heap := s4.heap.push { cls := .type "slice", data := .fields #[vl, vu, vs] } }
  rcases q with ⟨hx, q⟩ | ⟨hx, q⟩
  · obtain ⟨its, r, ht, hz⟩ := I5.list hx
    have hlen := r.length
    refine tail_any (ops := [.ref a, .ref s4.heap.objs.size]) ht.isList.typeIs (PySem.slot_list_getitem.lookup) ?_ (by with_unfolding_all rfl)
    refine wpAny_getItem_list_slice ht.isList (Heap.IsSliceOf.new _ vl vu vs) pl pu ps (by decide) ?_ (by rw [List.size_toArray]; omega)
    rw [PySem.W.krv_pick]
    refine ⟨.ref _, _, I5.laid (t' := s4.toks) (o := .lst xs.reverse) (fun b ob q => Heap.get?_push_of_some _ q) (Nat.le_refl _) ?_, rfl, q _ (I5.hok.fresh (Nat.le_refl _))⟩
    exact ⟨by rw [List.length_reverse]; exact hz, _, 0, r.reverse, Heap.get?_push_size _ rfl⟩
  · obtain ⟨its, r, ht, hz⟩ := I5.tuple hx
    have hlen := r.length
    refine tail_any (ops := [.ref a, .ref s4.heap.objs.size]) ht.typeIs (PyProof.Rows.slot_tuple_getitem.lookup) ?_ (by with_unfolding_all rfl)
    refine HT.getItem_tuple_rev ht (Heap.IsSliceOf.new _ vl vu vs) pl pu ps ?_ (by rw [List.size_toArray]; omega)
    refine ⟨.ref _, _, I5.laid (t' := s4.toks) (o := .tup xs.reverse) (fun b ob q => Heap.get?_push_of_some _ q) (Nat.le_refl _) ?_, rfl, q _ (I5.hok.fresh (Nat.le_refl _))⟩
    exact ⟨by rw [List.length_reverse]; exact hz, _, r.reverse, IsTup.new _ _⟩

/-! ### tuple * int -/
theorem tuple_mul1 (l : Addr) (items : Array Value) (n : Nat) (dd : Option Addr) (sl : Array (Option Value)) (x : Int) (u : Tok) (c0 : (decide (x < -(2 ^ 63)) || decide (x ≥ 2 ^ 63)) = false) (c1 : (items.isEmpty || x == 1) = true) :
    Meets (Builtin.«tuple.__mul__» ⟨[.ref l, .int x u], []⟩) (fun _ R s => s.heap.get? l = some { cls := .type "tuple", dict := dd, data := .seq items n, slots := sl } ∧ R (.ok (.ret (.ref l))) s) :=
  .of_wp fun prog w A R s h => by
    obtain ⟨hp, g, d, tk, os⟩ := s
    obtain ⟨hl, h⟩ := h
    have f1 := AutoSeq1.idx_int
    wp_walk using wpAny_loadPart' hl
    repeat (first
      | (refine wpAny_ite_false (decide_eq_false (by rw [c0]; exact Bool.false_ne_true)) ?_; wp_walk using wpAny_loadPart' hl)
      | (refine wpAny_ite_true (decide_eq_true c1) ?_; wp_walk using wpAny_loadPart' hl)
      | (refine wpAny_ite_true c1 ?_; wp_walk using wpAny_loadPart' hl))
    exact ⟨_, rfl, h⟩
theorem tuple_mul0 (l : Addr) (items : Array Value) (n : Nat) (dd : Option Addr) (sl : Array (Option Value)) (x : Int) (u : Tok) (c0 : (decide (x < -(2 ^ 63)) || decide (x ≥ 2 ^ 63)) = false) (c1 : (items.isEmpty || x == 1) = false) (c2 : (decide (x ≤ 0) || items.isEmpty) = true) :
    Meets (Builtin.«tuple.__mul__» ⟨[.ref l, .int x u], []⟩) (fun _ R s => s.heap.get? l = some { cls := .type "tuple", dict := dd, data := .seq items n, slots := sl } ∧
      R (.ok (.ret (Value.ref s.heap.objs.size))) { s with heap := s.heap.push { cls := Value.type "tuple", data := Data.seq #[] }, toks := s.toks }) :=
  .of_wp fun prog w A R s h => by
    obtain ⟨hp, g, d, tk, os⟩ := s
    obtain ⟨hl, h⟩ := h
    have f1 := AutoSeq1.idx_int
    wp_walk using wpAny_loadPart' hl
    repeat (first
      | (refine wpAny_ite_false (decide_eq_false (by rw [c0]; exact Bool.false_ne_true)) ?_; wp_walk using wpAny_loadPart' hl)
      | (refine wpAny_ite_false (decide_eq_false (by rw [c1]; exact Bool.false_ne_true)) ?_; wp_walk using wpAny_loadPart' hl)
      | (refine wpAny_ite_true (decide_eq_true c2) ?_; wp_walk using wpAny_loadPart' hl)
      | (refine wpAny_ite_true c2 ?_; wp_walk using wpAny_loadPart' hl))
    exact ⟨_, rfl, h⟩
/-- a tuple so often: once it is the tuple itself -/
def rRepA (K : PySem.W.Frag) : R2 := fun x y H Q => ∃ l k xs, x = .ref l ∧ y = .int k ∧ SqT K H l xs ∧ -(2 ^ 62) ≤ k ∧ k ≤ 1000 ∧ xs.length ≤ 1000 ∧
  ((xs = [] ∨ k = 1) → Q (.ref l) H) ∧ (xs ≠ [] → k ≠ 1 → ∀ p, H p = none → Q (.ref p) (upd H p (.tup (List.replicate k.toNat xs).flatten)))
theorem op_repA {X : Cx} : OpR X (binaryOp .Mult) (rRepA X.K) := by
  intro pins s σ H x y v u Q I rx ry h
  obtain ⟨l, k, xs, rfl, rfl, hT, hk, h2, hz, q1, q2⟩ := h
  by_cases hs : xs = [] ∨ k = 1
  · cases rx
    obtain ⟨t, rfl⟩ := ry
    obtain ⟨its, r, ⟨⟨cls, dd, data, sl⟩, ho, hc, n, hd⟩, hs'⟩ := I.tuple hT
    simp only at hc hd
    subst hc hd
    have c0 : (decide (k < -(2 ^ 63)) || decide (k ≥ 2 ^ 63)) = false := by
      rw [decide_eq_false (by omega), decide_eq_false (by omega)] <;> rfl
    have c1 : (its.toArray.isEmpty || k == 1) = true := by
      rcases hs with e | e
      · subst e
        cases r
        rfl
      · subst e
        simp
    exact wpAny_binaryOp_repeat_ref (T := "tuple") (U := "int") (by decide) ⟨_, ho, rfl⟩ (fun s' => typeIs_int s' k t) noFill_tuple_mul F.fills_int_mul F.slot_int_rmul repeat_tuple F.slot_int_index.lookup
      (call_meets F.slot_int_rmul (typeIs_int s k t) F.entry_int_rmul (F.args_int_rmul_2 _ _) (int_rmul_tuple k t l its.toArray n dd sl)
        ⟨ho, rfl, ⟨_, ho, rfl⟩, call_meets F.slot_tuple_mul ⟨_, ho, rfl⟩ F.entry_tuple_mul (F.args_tuple_mul_2 _ _) (tuple_mul1 l its.toArray n dd sl k t c0 c1) ⟨ho, ⟨.ref l, H, I, rfl, q1 hs⟩⟩⟩)
  · have hne : xs ≠ [] := fun e => hs (.inl e)
    have hk1 : k ≠ 1 := fun e => hs (.inr e)
    by_cases h0 : 2 ≤ k
    · exact op_repT pins s σ H _ _ v u Q I rx ry ⟨l, k, xs, rfl, rfl, hT, hne, h0, h2, hz, q2 hne hk1⟩
    · cases rx
      obtain ⟨t, rfl⟩ := ry
      obtain ⟨its, r, ⟨⟨cls, dd, data, sl⟩, ho, hc, n, hd⟩, hs'⟩ := I.tuple hT
      simp only at hc hd
      subst hc hd
      have hle : its.length = xs.length := r.length.symm
      have hi : its.toArray.isEmpty = false := by
        cases its with
        | nil => exact absurd (List.eq_nil_of_length_eq_zero hle.symm) hne
        | cons a b => rfl
      have c0 : (decide (k < -(2 ^ 63)) || decide (k ≥ 2 ^ 63)) = false := by
        rw [decide_eq_false (by omega), decide_eq_false (by omega)] <;> rfl
      have c1 : (its.toArray.isEmpty || k == 1) = false := by
        rw [hi, Bool.false_or]
        exact beq_eq_false_iff_ne.mpr hk1
      have c2 : (decide (k ≤ 0) || its.toArray.isEmpty) = true := by
        rw [decide_eq_true (show k ≤ 0 by omega)] <;> rfl
      have e0 : (List.replicate k.toNat xs).flatten = [] := by
        rw [show k.toNat = 0 by omega]; rfl
      refine wpAny_binaryOp_repeat_ref (T := "tuple") (U := "int") (by decide) ⟨_, ho, rfl⟩ (fun s' => typeIs_int s' k t) noFill_tuple_mul F.fills_int_mul F.slot_int_rmul repeat_tuple F.slot_int_index.lookup
        (call_meets F.slot_int_rmul (typeIs_int s k t) F.entry_int_rmul (F.args_int_rmul_2 _ _) (int_rmul_tuple k t l its.toArray n dd sl)
          ⟨ho, rfl, ⟨_, ho, rfl⟩, call_meets F.slot_tuple_mul ⟨_, ho, rfl⟩ F.entry_tuple_mul (F.args_tuple_mul_2 _ _) (tuple_mul0 l its.toArray n dd sl k t c0 c1 c2) ⟨ho, ?_⟩⟩)
      have q3 := q2 hne hk1
      rw [e0] at q3
      refine ⟨.ref s.heap.objs.size, _, I.laid (t' := s.toks) (o := .tup []) (fun b ob q => Heap.get?_push_of_some _ q) (Nat.le_refl _) ?_, rfl, q3 _ (I.hok.fresh (Nat.le_refl _))⟩
      exact ⟨Nat.zero_le _, [], .nil, IsTup.new _ _⟩
end L2

/-! ## EvS -/
/-! len(set(t)), t a tuple of ints -/
namespace RZ
open PySem PySem.Spec PyProof.Rows L2
/-- each number once -/
def nubI : List Int → List Int
  | [] => []
  | x :: r => if (nubI r).contains x then nubI r else x :: nubI r
theorem nubI_mem : ∀ {l : List Int} {x : Int}, x ∈ nubI l ↔ x ∈ l
  | [], _ => by simp [nubI]
  | y :: r, x => by
    unfold nubI
    split
    · rename_i h
      have hy : y ∈ r := nubI_mem.mp (List.contains_iff_mem.mp h)
      rw [nubI_mem, List.mem_cons]
      exact ⟨.inr, fun q => q.elim (fun e => e ▸ hy) id⟩
    · rw [List.mem_cons, List.mem_cons, nubI_mem]
theorem nubI_nodup : ∀ l : List Int, (nubI l).Nodup
  | [] => by simp [nubI]
  | y :: r => by
    unfold nubI
    split
    · exact nubI_nodup r
    · rename_i h
      exact List.nodup_cons.mpr ⟨fun q => h (List.contains_iff_mem.mpr q), nubI_nodup r⟩
theorem len_of_same : ∀ {l m : List Int}, l.Nodup → m.Nodup → (∀ x, x ∈ l ↔ x ∈ m) → l.length = m.length
  | [], m, _, _, h => by
    cases m with
    | nil => rfl
    | cons y r => exact absurd ((h y).mpr List.mem_cons_self) (by simp)
  | x :: l, m, hl, hm, h => by
    have hx : x ∈ m := (h x).mp List.mem_cons_self
    have hl' := List.nodup_cons.mp hl
    have he : (m.erase x).length = m.length - 1 := List.length_erase_of_mem hx
    have hp : 0 < m.length := List.length_pos_of_mem hx
    have ih := len_of_same (l := l) (m := m.erase x) hl'.2 (hm.erase x) fun y => by
      rw [hm.mem_erase_iff]
      constructor
      · intro hy
        exact ⟨fun e => hl'.1 (e ▸ hy), (h y).mp (List.mem_cons_of_mem _ hy)⟩
      · intro ⟨hne, hy⟩
        rcases List.mem_cons.mp ((h y).mpr hy) with e | e
        · exact absurd e hne
        · exact e
    rw [List.length_cons, ih, he]
    omega
def tLenSetT (K : PySem.W.Frag) (ta : TE) : TE := fun σ H Q => ta σ H fun x H1 => ∃ (l : Addr) (ns : List Int), x = .ref l ∧ SqT K H1 l (ns.map V.int) ∧ ns.length ≤ 4000 ∧ Q (.int ((nubI ns).length : Nat)) H1
theorem pe_lenSetT {X : Cx} {a : Expr} {ta : TE} {p p2 q pos : Pos} (hg : Gl X "len") (hm : X.mg "len" = none) (hg2 : Gl X "set") (hm2 : X.mg "set" = none) (ha : PE X a ta) (hc : X.calm = true)
    (na : starEach [a] X.env = (false, eval a X.env) :: starEach [] X.env) : PE X (.Call (.Name "len" p) [.Call (.Name "set" p2) [a] [] q] [] pos) (tLenSetT X.K ta) := by
  refine ⟨fun pins s σ H Q I h => ?_⟩
  refine Call_ (ld_blt I hg hm boot_len ?_)
  refine PyProof.Rows.callWith_builtin1 (PyProof.Rows.args_cons ?_ rfl) rfl rfl
  refine Call_ (ld_blt I hg2 hm2 boot_set ?_)
  refine PyProof.Rows.callWith_type1 (PyProof.Rows.args_cons (thn (ha.run pins s σ H _ I h) fun v s1 ⟨x, H1, I1, r1, q1⟩ => PyProof.Rows.args_nil ?_) na) na rfl
  obtain ⟨l, ns, rfl, hq, hl, q1⟩ := q1
  cases r1
  obtain ⟨its, r, pl, hz⟩ := I1.tuple hq
  refine call_set_tupI ns (I1.ok.hd hc) pl (by simpa using intsAre_vals r) (by unfold scanBound; omega) fun h' tk c hS _ hk => ?_
  refine PyProof.Rows.args_nil ?_
  obtain ⟨o, es, ep, t, ho, hex, hd, hg1, hnd, hmem, hsz, hf, hn, _⟩ := hS
  have hlen : es.size = (nubI ns).length := by
    have e1 : (es.toList.map keyOf).length = (nubI ns).length := len_of_same hnd (nubI_nodup ns) fun x => by
      rw [nubI_mem, ← hmem x]
      exact decide_eq_true_iff
    rw [← e1, List.length_map, Array.length_toList]
  have hle : (nubI ns).length ≤ 4000 := by
    rw [← hlen]
    have : c ≤ ns.length := by assumption
    omega
  have I2 : Inv X pins σ H1 { s1 with heap := h', toks := tk } := I1.kept fun b o e => hk b o e
  exact call_len_set ho hex hd hf (by rw [hlen]; omega) ⟨.int (nubI ns).length, H1, I2.tok _, ⟨_, by rw [hlen]⟩, q1⟩
end RZ

/-! ## Ev1 -/
/-! A small functional semantics (evaluator) of the pure part of Python: values are PyData; local lists are owned by their slots. -/
namespace Ev
open PySem PySem.Spec PyProof.Rows L2

abbrev D := PyData
/-- how a value came: borrowed from a slot that owns it, stable, fresh -/
inductive Kd where | B | S | F
  deriving DecidableEq, Repr
structure R where
  k : Kd
  d : D
/-- a slot: unset, a stable value, an owned list, the tape -/
inductive Sl where | un | im (d : D) | ow (ds : List D) | tp
structure Tp where
  cells : List Int
  pos : Nat
  cur : Int
  seed : Int
abbrev Rho := List Sl

inductive Bo where | add | sub | mul | fdiv | mod | pow
  deriving DecidableEq, Repr
inductive Co where | eq | ne | lt | le | gt | ge | isin | notin
  deriving DecidableEq, Repr
inductive Bl where | len | abs | min | max | int | tuple | list | sum | any | all | sorted | bitlen | setlen
  deriving DecidableEq, Repr
/-- targets -/
inductive Tg where | nm (i : Nat) | tu (ts : List Nat)
  deriving DecidableEq, Repr

inductive E where
  | cst (d : D)
  | var (i : Nat)
  | bin (op : Bo) (a b : E)
  | neg (a : E)
  | cmp (op : Co) (a b : E)
  | chn (o1 o2 : Co) (a b c : E)
  | isN (a : E)
  | notN (a : E)
  | isB (a b : E)
  | notB (a b : E)
  | con (a b : E)
  | dis (a b : E)
  | inv (a : E)
  | tru (a : E)
  | ite (c a b : E)
  | tup (es : List E)
  | lst (es : List E)
  | idx (a b : E)
  | slc (a lo hi : E)
  | slcL (a lo : E)
  | slcH (a hi : E)
  | slcA (a : E)
  | rev (a : E)
  | call (n : Nat) (es : List E)
  | callT (n : Nat) (i : Nat) (es : List E)
  | blt (b : Bl) (es : List E)
  | comp (elt : E) (tg : Tg) (k : Nat) (its : List E) (cond : List E)

inductive S where
  | set (tg : Tg) (e : E)
  | par2 (i j : Nat) (a b : E)
  | par3 (i j l : Nat) (a b c : E)
  | aug (i : Nat) (op : Bo) (e : E)
  | app (i : Nat) (e : E)
  | ext (i : Nat) (e : E)
  | pop (i : Nat)
  | popt (tg : Tg) (i : Nat)
  | mov (i j : Nat)
  | sti (i : Nat) (ix e : E)
  | ret (e : E)
  | retv (i : Nat)
  | retn
  | ite (c : E) (a b : List S)
  | whl (c : E) (b : List S)
  | for_ (tg : Tg) (k : Nat) (its : List E) (b : List S)
  | forv (tg : Tg) (i : Nat) (b : List S)
  | brk
  | cnt
  | pas
  | exp (e : E)
  | nev

/-! ### operations on data -/
def intOf : D → Option Int
  | .int i => some i
  | _ => none
def intsOf : List D → Option (List Int)
  | [] => some []
  | .int i :: r => (intsOf r).map (i :: ·)
  | _ => none
def boolsOf : List D → Option (List Bool)
  | [] => some []
  | .bool b :: r => (boolsOf r).map (b :: ·)
  | _ => none
def nonD : D → Bool
  | .none => true
  | _ => false
def scalD : D → Bool
  | .none => true
  | .bool _ => true
  | .int _ => true
  | .str _ => true
  | _ => false
mutual
/-- no list within -/
def noList : D → Bool
  | .list _ => false
  | .dict _ => false
  | .tuple ds => noListAll ds
  | _ => true
def noListAll : List D → Bool
  | [] => true
  | d :: r => noList d && noListAll r
end
/-- a def's answer as the caller may take it -/
def clean : R → Bool
  | ⟨.S, d⟩ => noList d
  | ⟨.F, .list ds⟩ => noListAll ds
  | _ => false
/-- two factors of together less than a million bits -/
def mulFits (i j : Int) : Bool := decide (i.natAbs.log2 + j.natAbs.log2 < 1000000)
def divFits (j : Int) : Bool := decide (j ≠ 0) && decide (j.natAbs.log2 < 9000)
def powFits (i j : Int) : Bool := decide (0 ≤ j) && decide (j ≤ 1000000) && decide (i.natAbs < 2 ^ 64)
def shortL (ds : List D) : Bool := decide (ds.length < 16777216)
def binD : Bo → D → D → Option R
  | .add, .int i, .int j => some ⟨.S, .int (i + j)⟩
  | .sub, .int i, .int j => some ⟨.S, .int (i - j)⟩
  | .mul, .int i, .int j => if mulFits i j then some ⟨.S, .int (i * j)⟩ else none
  | .fdiv, .int i, .int j => if divFits j then some ⟨.S, .int (i.fdiv j)⟩ else none
  | .mod, .int i, .int j => if j ≠ 0 then some ⟨.S, .int (i.fmod j)⟩ else none
  | .pow, .int i, .int j => if powFits i j then some ⟨.S, .int (i ^ j.toNat)⟩ else none
  | .add, .tuple xs, .tuple ys => if shortL (xs ++ ys) then some ⟨.S, .tuple (xs ++ ys)⟩ else none
  | .add, .list xs, .list ys => if shortL (xs ++ ys) then some ⟨.F, .list (xs ++ ys)⟩ else none
  | .mul, .list xs, .int k => if decide (-(2 ^ 63) ≤ k) && decide (k < 2 ^ 63) && decide (xs.length * k.toNat < 16777216) then some ⟨.F, .list (List.replicate k.toNat xs).flatten⟩ else none
  | .mul, .tuple xs, .int k => if decide (-4611686018427387904 ≤ k) && decide (k ≤ 1000) && decide (xs.length ≤ 1000) then some ⟨.S, .tuple (List.replicate k.toNat xs).flatten⟩ else none
  | _, _, _ => none
def cmpD : Co → D → D → Option Bool
  | .lt, .int i, .int j => some (decide (i < j))
  | .le, .int i, .int j => some (decide (i ≤ j))
  | .gt, .int i, .int j => some (decide (j < i))
  | .ge, .int i, .int j => some (decide (j ≤ i))
  | .eq, .int i, .int j => some (decide (i = j))
  | .ne, .int i, .int j => some (!decide (i = j))
  | .eq, .bool i, .bool j => some (i == j)
  | .ne, .bool i, .bool j => some (!(i == j))
  | .eq, d, e => if SeqAt.shaped d && SeqAt.shaped e then some (PyData.eqv d e) else none
  | .ne, d, e => if SeqAt.shaped d && SeqAt.shaped e then some (!PyData.eqv d e) else none
  | .isin, .int i, .tuple ds => (intsOf ds).map fun ns => ns.any (fun n => decide (n = i))
  | .notin, .int i, .tuple ds => (intsOf ds).map fun ns => !ns.any (fun n => decide (n = i))
  | .isin, d, .list ds => if SeqAt.shaped d && SeqAt.shaped (.list ds) then some (ds.any fun z => PyData.eqv z d) else none
  | .notin, d, .list ds => if SeqAt.shaped d && SeqAt.shaped (.list ds) then some (!ds.any fun z => PyData.eqv z d) else none
  | _, _, _ => none
def atD (ds : List D) (i : Int) : Option D := atI ds i
def cutD (ds : List D) (lo hi : Option Int) : List D := (ds.drop (HT.sIx ds.length 0 lo)).take (HT.sIx ds.length ds.length hi - HT.sIx ds.length 0 lo)
def idxD : D → D → Option R
  | .tuple ds, .int i => (atD ds i).map fun d => ⟨.S, d⟩
  | .list ds, .int i => (atD ds i).map fun d => ⟨.S, d⟩
  | _, _ => none
def slcD (d : D) (lo hi : Option Int) : Option R :=
  match d with
  | .tuple ds => some ⟨.S, .tuple (cutD ds lo hi)⟩
  | .list ds => some ⟨.F, .list (cutD ds lo hi)⟩
  | _ => none
def revD : D → Option R
  | .list ds => some ⟨.F, .list ds.reverse⟩
  | .tuple ds => some ⟨.S, .tuple ds.reverse⟩
  | _ => none
/-- truth -/
def truD : D → Option Bool
  | .bool b => some b
  | .int i => some (!decide (i = 0))
  | .none => some false
  | .list ds => some (!ds.isEmpty)
  | .tuple ds => some (!ds.isEmpty)
  | _ => none
def insI (x : Int) : List Int → List Int
  | [] => [x]
  | y :: r => if x ≤ y then x :: y :: r else y :: insI x r
/-- in order -/
def sortI : List Int → List Int
  | [] => []
  | x :: r => insI x (sortI r)
def maxL : List Int → Option Int
  | [] => none
  | x :: r => some (r.foldl max x)
def minL : List Int → Option Int
  | [] => none
  | x :: r => some (r.foldl min x)
def bltD : Bl → List D → Option R
  | .len, [.tuple ds] => some ⟨.S, .int ds.length⟩
  | .len, [.list ds] => some ⟨.S, .int ds.length⟩
  | .abs, [.int i] => some ⟨.S, .int (if i < 0 then -i else i)⟩
  | .min, [.int i, .int j] => some ⟨.S, .int (if j < i then j else i)⟩
  | .max, [.int i, .int j] => some ⟨.S, .int (if j > i then j else i)⟩
  | .max, [.list ds] => (intsOf ds).bind fun ns => (maxL ns).map fun m => ⟨.S, .int m⟩
  | .min, [.list ds] => (intsOf ds).bind fun ns => (minL ns).map fun m => ⟨.S, .int m⟩
  | .max, [.tuple ds] => (intsOf ds).bind fun ns => (maxL ns).map fun m => ⟨.S, .int m⟩
  | .min, [.tuple ds] => (intsOf ds).bind fun ns => (minL ns).map fun m => ⟨.S, .int m⟩
  | .int, [.int i] => some ⟨.S, .int i⟩
  | .int, [.bool b] => some ⟨.S, .int (if b then 1 else 0)⟩
  | .tuple, [.list ds] => some ⟨.S, .tuple ds⟩
  | .tuple, [.tuple ds] => some ⟨.S, .tuple ds⟩
  | .list, [.list ds] => some ⟨.F, .list ds⟩
  | .list, [.tuple ds] => some ⟨.F, .list ds⟩
  | .sum, [.list ds] => (intsOf ds).map fun ns => ⟨.S, .int ns.sum⟩
  | .sorted, [.list ds] => (intsOf ds).map fun ns => ⟨.F, .list ((sortI ns).map PyData.int)⟩
  | .any, [.list ds] => (boolsOf ds).map fun bs => ⟨.S, .bool (bs.any id)⟩
  | .all, [.list ds] => (boolsOf ds).map fun bs => ⟨.S, .bool (bs.all id)⟩
  | .setlen, [.tuple ds] => (intsOf ds).bind fun ns => if decide (ns.length ≤ 4000) then some ⟨.S, .int ((RZ.nubI ns).length : Nat)⟩ else none
  | .bitlen, [.int i] => some ⟨.S, .int (Builtin.Int.intBits i : Nat)⟩
  | _, _ => none
/-- the ints of a range -/
def rngD (lo : Int) : Nat → List D
  | 0 => []
  | n + 1 => .int lo :: rngD (lo + 1) n
def rngFits (i j : Int) : Bool := decide (-(2 ^ 62) ≤ i) && decide (i < 2 ^ 62) && decide (-(2 ^ 62) ≤ j) && decide (j < 2 ^ 62)
/-- the pairs of enumerate -/
def enumD (i : Nat) : List D → List D
  | [] => []
  | d :: ds => .tuple [.int i, d] :: enumD (i + 1) ds
/-- a range with a step, by its size -/
def rngC (lo c : Int) : Nat → List D
  | 0 => []
  | n + 1 => .int lo :: rngC (lo + c) c n
/-- what a for walks: 1 range(a), 2 range(a, b), 0 a sequence, 3 enumerate, 4 range(a, b, -1) -/
def itD : Nat → List D → Option (List D)
  | 0, [.tuple ds] => some ds
  | 0, [.list ds] => some ds
  | 1, [.int j] => if rngFits 0 j then some (rngD 0 j.toNat) else none
  | 2, [.int i, .int j] => if rngFits i j then some (rngD i (j - i).toNat) else none
  | 3, [.tuple ds] => some (enumD 0 ds)
  | 3, [.list ds] => some (enumD 0 ds)
  | 4, [.int i, .int j, .int c] => if rngFits i j && decide (c = -1) then some (rngC i (-1) (i - j).toNat) else none
  | _, _ => none
def setsD (ρ : Rho) : List Nat → List D → Option Rho
  | [], [] => some ρ
  | i :: is, d :: ds => setsD (ρ.set i (.im d)) is ds
  | _, _ => none
def tgD (ρ : Rho) : Tg → D → Option Rho
  | .nm i, d => some (ρ.set i (.im d))
  | .tu is, .tuple ds => setsD ρ is ds
  | _, _ => none
def tgVs : Tg → List Nat
  | .nm i => [i]
  | .tu is => is
def wipeR (ρ : Rho) : List Nat → Rho
  | [] => ρ
  | v :: vs => (wipeR ρ vs).set v .un
/-- an answer that is put into another thing must not be borrowed -/
def stb (r : R) : Option D := match r.k with
  | .B => none
  | _ => some r.d

/-! ### expressions -/
def compL (fe : Rho → Tp → Option (R × Tp)) (fc : Rho → Tp → Option (Bool × Tp)) (ρ : Rho) (tg : Tg) : List D → Tp → Option (List D × Tp)
  | [], τ => some ([], τ)
  | d :: ds, τ => (tgD ρ tg d).bind fun ρ1 => (fc ρ1 τ).bind fun c =>
      if c.1 then (fe ρ1 c.2).bind fun x => (stb x.1).bind fun v => (compL fe fc ρ tg ds x.2).map fun y => (v :: y.1, y.2)
      else compL fe fc ρ tg ds c.2
section
variable (Φ : Nat → List D → Option R) (Ψ : Nat → List D → Tp → Option (R × Tp))
mutual
def ev (ρ : Rho) (τ : Tp) : E → Option (R × Tp)
  | .cst d => some (⟨.S, d⟩, τ)
  | .var i => match ρ[i]? with
    | some (.im d) => some (⟨.S, d⟩, τ)
    | some (.ow ds) => some (⟨.B, .list ds⟩, τ)
    | _ => none
  | .bin op a b => (ev ρ τ a).bind fun x => (ev ρ x.2 b).bind fun y => (binD op x.1.d y.1.d).map fun r => (r, y.2)
  | .neg a => (ev ρ τ a).bind fun x => (intOf x.1.d).map fun i => (⟨.S, .int (-i)⟩, x.2)
  | .cmp op a b => (ev ρ τ a).bind fun x => (ev ρ x.2 b).bind fun y => (cmpD op x.1.d y.1.d).map fun r => (⟨.S, .bool r⟩, y.2)
  | .chn o1 o2 a b c => (ev ρ τ a).bind fun x => (ev ρ x.2 b).bind fun y => (cmpD o1 x.1.d y.1.d).bind fun k =>
      if k then (ev ρ y.2 c).bind fun z => (cmpD o2 y.1.d z.1.d).map fun r => (⟨.S, .bool r⟩, z.2) else some (⟨.S, .bool false⟩, y.2)
  | .isN a => (ev ρ τ a).map fun x => (⟨.S, .bool (nonD x.1.d)⟩, x.2)
  | .notN a => (ev ρ τ a).map fun x => (⟨.S, .bool (!nonD x.1.d)⟩, x.2)
  | .isB a b => (ev ρ τ a).bind fun x => (ev ρ x.2 b).bind fun y => match x.1.d, y.1.d with
    | .bool i, .bool j => some (⟨.S, .bool (i == j)⟩, y.2)
    | _, _ => none
  | .notB a b => (ev ρ τ a).bind fun x => (ev ρ x.2 b).bind fun y => match x.1.d, y.1.d with
    | .bool i, .bool j => some (⟨.S, .bool (!(i == j))⟩, y.2)
    | _, _ => none
  | .con a b => (ev ρ τ a).bind fun x => match x.1.d with
    | .bool true => (ev ρ x.2 b).bind fun y => match y.1.d with
      | .bool k => some (⟨.S, .bool k⟩, y.2)
      | _ => none
    | .bool false => some (⟨.S, .bool false⟩, x.2)
    | _ => none
  | .dis a b => (ev ρ τ a).bind fun x => match x.1.d with
    | .bool false => (ev ρ x.2 b).bind fun y => match y.1.d with
      | .bool k => some (⟨.S, .bool k⟩, y.2)
      | _ => none
    | .bool true => some (⟨.S, .bool true⟩, x.2)
    | _ => none
  | .inv a => (ev ρ τ a).bind fun x => match x.1.d with
    | .bool k => some (⟨.S, .bool (!k)⟩, x.2)
    | _ => none
  | .tru a => (ev ρ τ a).bind fun x => (truD x.1.d).map fun k => (⟨.S, .bool k⟩, x.2)
  | .ite c a b => (ev ρ τ c).bind fun x => match x.1.d with
    | .bool true => ev ρ x.2 a
    | .bool false => ev ρ x.2 b
    | _ => none
  | .tup es => (evs ρ τ es).bind fun x => (x.1.mapM stb).bind fun ds => if shortL ds then some (⟨.S, .tuple ds⟩, x.2) else none
  | .lst es => (evs ρ τ es).bind fun x => (x.1.mapM stb).bind fun ds => if shortL ds then some (⟨.F, .list ds⟩, x.2) else none
  | .idx a b => (ev ρ τ a).bind fun x => (ev ρ x.2 b).bind fun y => (idxD x.1.d y.1.d).map fun r => (r, y.2)
  | .slc a lo hi => (ev ρ τ a).bind fun x => (ev ρ x.2 lo).bind fun y => (ev ρ y.2 hi).bind fun z =>
      (intOf y.1.d).bind fun i => (intOf z.1.d).bind fun j => (slcD x.1.d (some i) (some j)).map fun r => (r, z.2)
  | .slcL a lo => (ev ρ τ a).bind fun x => (ev ρ x.2 lo).bind fun y => (intOf y.1.d).bind fun i => (slcD x.1.d (some i) none).map fun r => (r, y.2)
  | .slcH a hi => (ev ρ τ a).bind fun x => (ev ρ x.2 hi).bind fun y => (intOf y.1.d).bind fun i => (slcD x.1.d none (some i)).map fun r => (r, y.2)
  | .slcA a => (ev ρ τ a).bind fun x => (slcD x.1.d none none).map fun r => (r, x.2)
  | .rev a => (ev ρ τ a).bind fun x => (revD x.1.d).map fun r => (r, x.2)
  | .call n es => (evs ρ τ es).bind fun x => (Φ n (x.1.map (·.d))).bind fun r => if clean r then some (r, x.2) else none
  | .callT n i es => match ρ[i]? with
    | some .tp => (evs ρ τ es).bind fun x => (Ψ n (x.1.map (·.d)) x.2).bind fun r => if clean r.1 then some r else none
    | _ => none
  | .blt b es => (evs ρ τ es).bind fun x => (bltD b (x.1.map (·.d))).map fun r => (r, x.2)
  | .comp elt tg k its cond => (evs ρ τ its).bind fun x => (itD k (x.1.map (·.d))).bind fun ds =>
      (compL (fun ρ τ => ev ρ τ elt) (fun ρ τ => evAll ρ τ cond) (wipeR ρ (tgVs tg)) tg ds x.2).bind fun y => if shortL y.1 then some (⟨.F, .list y.1⟩, y.2) else none
def evs (ρ : Rho) (τ : Tp) : List E → Option (List R × Tp)
  | [] => some ([], τ)
  | e :: es => (ev ρ τ e).bind fun x => (evs ρ x.2 es).map fun y => (x.1 :: y.1, y.2)
/-- tests, one after another -/
def evAll (ρ : Rho) (τ : Tp) : List E → Option (Bool × Tp)
  | [] => some (true, τ)
  | e :: es => (ev ρ τ e).bind fun x => match x.1.d with
    | .bool true => evAll ρ x.2 es
    | .bool false => some (false, x.2)
    | _ => none
end
end
end Ev

/-! ## Ev2 -/
namespace Ev
open PySem PySem.Spec PyProof.Rows L2

inductive Out where
  | nx (ρ : Rho) (τ : Tp)
  | bk (ρ : Rho) (τ : Tp)
  | ct (ρ : Rho) (τ : Tp)
  | rt (r : R) (τ : Tp)

/-- a slot takes an answer -/
def putR (ρ : Rho) (i : Nat) (r : R) : Option Rho := match r with
  | ⟨.S, d⟩ => some (ρ.set i (.im d))
  | ⟨.F, .list ds⟩ => some (ρ.set i (.ow ds))
  | _ => none
def putTg (ρ : Rho) : Tg → R → Option Rho
  | .nm i, r => putR ρ i r
  | .tu is, ⟨_, .tuple ds⟩ => setsD ρ is ds
  | _, _ => none
def augD : Bo → D → D → Option D
  | .add, .int i, .int j => some (.int (i + j))
  | .sub, .int i, .int j => some (.int (i - j))
  | .mul, .int i, .int j => if mulFits i j then some (.int (i * j)) else none
  | .fdiv, .int i, .int j => if divFits j && decide (0 < j) then some (.int (i.fdiv j)) else none
  | .mod, .int i, .int j => if decide (0 < j) then some (.int (i.fmod j)) else none
  | _, _, _ => none
def forL (f : Rho → Tp → Option Out) (tg : Tg) : List D → Rho → Tp → Option Out
  | [], ρ, τ => some (.nx ρ τ)
  | d :: ds, ρ, τ => (tgD ρ tg d).bind fun ρ1 => (f ρ1 τ).bind fun o => match o with
    | .nx ρ2 τ2 => forL f tg ds ρ2 τ2
    | .ct ρ2 τ2 => forL f tg ds ρ2 τ2
    | .bk ρ2 τ2 => some (.nx ρ2 τ2)
    | .rt r τ2 => some (.rt r τ2)
def whL (c : Rho → Tp → Option (R × Tp)) (f : Rho → Tp → Option Out) : Nat → Rho → Tp → Option Out
  | 0, _, _ => none
  | n + 1, ρ, τ => (c ρ τ).bind fun x => match x.1.d with
    | .bool true => (f ρ x.2).bind fun o => match o with
      | .nx ρ2 τ2 => whL c f n ρ2 τ2
      | .ct ρ2 τ2 => whL c f n ρ2 τ2
      | .bk ρ2 τ2 => some (.nx ρ2 τ2)
      | .rt r τ2 => some (.rt r τ2)
    | .bool false => some (.nx ρ x.2)
    | _ => none
section
variable (Φ : Nat → List D → Option R) (Ψ : Nat → List D → Tp → Option (R × Tp)) (N : Nat)
mutual
def evS (ρ : Rho) (τ : Tp) : S → Option Out
  | .set tg e => (ev Φ Ψ ρ τ e).bind fun x => (putTg ρ tg x.1).map fun ρ1 => .nx ρ1 x.2
  | .par2 i j a b => (ev Φ Ψ ρ τ a).bind fun x => (ev Φ Ψ ρ x.2 b).bind fun y =>
      (stb x.1).bind fun v => (stb y.1).map fun w => .nx ((ρ.set i (.im v)).set j (.im w)) y.2
  | .par3 i j l a b c => (ev Φ Ψ ρ τ a).bind fun x => (ev Φ Ψ ρ x.2 b).bind fun y => (ev Φ Ψ ρ y.2 c).bind fun z =>
      (stb x.1).bind fun v => (stb y.1).bind fun w => (stb z.1).map fun u => .nx (((ρ.set i (.im v)).set j (.im w)).set l (.im u)) z.2
  | .aug i op e => match ρ[i]? with
    | some (.im d) => (ev Φ Ψ ρ τ e).bind fun x => (augD op d x.1.d).map fun r => .nx (ρ.set i (.im r)) x.2
    | _ => none
  | .app i e => match ρ[i]? with
    | some (.ow ds) => (ev Φ Ψ ρ τ e).bind fun x => (stb x.1).bind fun d => if shortL ds then some (.nx (ρ.set i (.ow (ds ++ [d]))) x.2) else none
    | _ => none
  | .ext i e => match ρ[i]? with
    | some (.ow ds) => (ev Φ Ψ ρ τ e).bind fun x => match x.1.d with
      | .list es => if shortL (ds ++ es) then some (.nx (ρ.set i (.ow (ds ++ es))) x.2) else none
      | _ => none
    | _ => none
  | .pop i => match ρ[i]? with
    | some (.ow ds) => if ds.isEmpty then none else some (.nx (ρ.set i (.ow ds.dropLast)) τ)
    | _ => none
  | .popt tg i => match ρ[i]? with
    | some (.ow ds) => match ds.getLast? with
      | some d => (tgD (ρ.set i (.ow ds.dropLast)) tg d).map fun ρ1 => .nx ρ1 τ
      | none => none
    | _ => none
  | .mov i j => match ρ[j]? with
    | some (.im d) => some (.nx (ρ.set i (.im d)) τ)
    | some (.ow ds) => some (.nx ((ρ.set j .un).set i (.ow ds)) τ)
    | _ => none
  | .sti i ix e => (ev Φ Ψ ρ τ e).bind fun x => (stb x.1).bind fun d => match ρ[i]? with
    | some (.ow ds) => (ev Φ Ψ ρ x.2 ix).bind fun y => (intOf y.1.d).bind fun k => (ixN ds.length k).map fun j => .nx (ρ.set i (.ow (ds.set j d))) y.2
    | _ => none
  | .ret e => (ev Φ Ψ ρ τ e).bind fun x => match x.1.k with
    | .B => none
    | _ => some (.rt x.1 x.2)
  | .retv i => match ρ[i]? with
    | some (.im d) => some (.rt ⟨.S, d⟩ τ)
    | some (.ow ds) => some (.rt ⟨.F, .list ds⟩ τ)
    | _ => none
  | .retn => some (.rt ⟨.S, .none⟩ τ)
  | .ite c a b => (ev Φ Ψ ρ τ c).bind fun x => match x.1.d with
    | .bool true => evSs ρ x.2 a
    | .bool false => evSs ρ x.2 b
    | _ => none
  | .whl c b => whL (fun ρ τ => ev Φ Ψ ρ τ c) (fun ρ τ => evSs ρ τ b) N ρ τ
  | .for_ tg k its b => (evs Φ Ψ ρ τ its).bind fun x => (itD k (x.1.map (·.d))).bind fun ds => if x.1.any (fun r => r.k == .B) then none else forL (fun ρ τ => evSs ρ τ b) tg ds ρ x.2
  | .forv tg i b => match ρ[i]? with
    | some (.ow ds) => forL (fun ρ τ => evSs ρ τ b) tg ds (ρ.set i (.im (.list ds))) τ
    | some (.im d) => (itD 0 [d]).bind fun ds => forL (fun ρ τ => evSs ρ τ b) tg ds ρ τ
    | _ => none
  | .brk => some (.bk ρ τ)
  | .cnt => some (.ct ρ τ)
  | .pas => some (.nx ρ τ)
  | .exp e => (ev Φ Ψ ρ τ e).map fun x => .nx ρ x.2
  | .nev => none
def evSs (ρ : Rho) (τ : Tp) : List S → Option Out
  | [] => some (.nx ρ τ)
  | s :: ss => (evS ρ τ s).bind fun o => match o with
    | .nx ρ1 τ1 => evSs ρ1 τ1 ss
    | o => some o
end
end

/-! ### what a value stands for -/
mutual
def Rp (K : PySem.W.Frag) (H : Hp) (v : V) : D → Prop
  | .none => v = .non
  | .bool b => v = .bl b
  | .int i => v = .int i
  | .str x => v = .str x
  | .list ds => ∃ p vs, v = .ref p ∧ H p = some (.lst vs) ∧ RpAll K H vs ds
  | .tuple ds => ∃ p vs, v = .ref p ∧ SqT K H p vs ∧ RpAll K H vs ds
  | .dict _ => False
def RpAll (K : PySem.W.Frag) (H : Hp) (vs : List V) : List D → Prop
  | [] => vs = []
  | d :: ds => ∃ x r, vs = x :: r ∧ Rp K H x d ∧ RpAll K H r ds
end
section
variable {K : PySem.W.Frag} {S S' H H' : Hp}
theorem Same.seqT {a : Addr} {xs : List V} (e : Same H H') (h : SqT K H a xs) : SqT K H' a xs := by
  rcases h with (h | ⟨o, h⟩) | h
  · exact .inl (.inl (e _ _ h))
  · exact .inl (.inr ⟨o, e _ _ h⟩)
  · exact .inr h
mutual
theorem Rp.mono (e : Same H H') : ∀ (d : D) {v : V}, Rp K H v d → Rp K H' v d
  | .none, _, h => h
  | .bool _, _, h => h
  | .int _, _, h => h
  | .str _, _, h => h
  | .list ds, _, ⟨p, vs, e1, e2, e3⟩ => ⟨p, vs, e1, e _ _ e2, RpAll.mono e ds e3⟩
  | .tuple ds, _, ⟨p, vs, e1, e2, e3⟩ => ⟨p, vs, e1, Same.seqT e e2, RpAll.mono e ds e3⟩
  | .dict _, _, h => h
theorem RpAll.mono (e : Same H H') : ∀ (ds : List D) {vs : List V}, RpAll K H vs ds → RpAll K H' vs ds
  | [], _, h => h
  | d :: ds, _, ⟨x, r, e1, e2, e3⟩ => ⟨x, r, e1, Rp.mono e d e2, RpAll.mono e ds e3⟩
end
mutual
theorem Rp.dp : ∀ (d : D) {v : V}, Rp K H v d → Dp K H v d
  | .none, _, h => by cases h; exact .non
  | .bool _, _, h => by cases h; exact .bl _
  | .int _, _, h => by cases h; exact .int _
  | .str _, _, h => by cases h; exact .str _
  | .list ds, _, ⟨p, vs, e1, e2, e3⟩ => by subst e1; exact .lst (SqL.of e2) (RpAll.dp ds e3)
  | .tuple ds, _, ⟨p, vs, e1, e2, e3⟩ => by subst e1; exact .tup e2 (RpAll.dp ds e3)
  | .dict _, _, h => h.elim
theorem RpAll.dp : ∀ (ds : List D) {vs : List V}, RpAll K H vs ds → DpAll K H vs ds
  | [], _, h => by cases h; exact .nil
  | d :: ds, _, ⟨x, r, e1, e2, e3⟩ => by subst e1; exact .cons (Rp.dp d e2) (RpAll.dp ds e3)
end
theorem RpAll.length : ∀ {ds : List D} {vs : List V}, RpAll K H vs ds → vs.length = ds.length
  | [], _, h => by cases h; rfl
  | d :: ds, _, ⟨x, r, e1, e2, e3⟩ => by subst e1; simp [RpAll.length e3]
theorem RpAll.append : ∀ {ds es : List D} {vs ws : List V}, RpAll K H vs ds → RpAll K H ws es → RpAll K H (vs ++ ws) (ds ++ es)
  | [], _, _, _, h, g => by cases h; exact g
  | d :: ds, _, _, _, ⟨x, r, e1, e2, e3⟩, g => by subst e1; exact ⟨x, r ++ _, rfl, e2, RpAll.append e3 g⟩
theorem RpAll.split : ∀ {ds es : List D} {vs : List V}, RpAll K H vs (ds ++ es) → ∃ v1 v2, vs = v1 ++ v2 ∧ RpAll K H v1 ds ∧ RpAll K H v2 es
  | [], _, vs, h => ⟨[], vs, rfl, rfl, h⟩
  | d :: ds, _, _, ⟨x, r, e1, e2, e3⟩ => by
    obtain ⟨v1, v2, f1, f2, f3⟩ := RpAll.split e3
    exact ⟨x :: v1, v2, by rw [e1, f1]; rfl, ⟨x, v1, rfl, e2, f2⟩, f3⟩
theorem RpAll.get : ∀ {ds : List D} {vs : List V} {i : Nat} {d : D}, RpAll K H vs ds → ds[i]? = some d → ∃ v, vs[i]? = some v ∧ Rp K H v d
  | [], _, _, _, _, e => by simp at e
  | d :: ds, _, 0, _, ⟨x, r, e1, e2, e3⟩, e => by
    simp at e
    subst e e1
    exact ⟨x, rfl, e2⟩
  | d :: ds, _, i + 1, _, ⟨x, r, e1, e2, e3⟩, e => by
    subst e1
    obtain ⟨v, h1, h2⟩ := RpAll.get (i := i) e3 (by simpa using e)
    exact ⟨v, by simpa using h1, h2⟩
theorem RpAll.drop : ∀ {ds : List D} {vs : List V} (n : Nat), RpAll K H vs ds → RpAll K H (vs.drop n) (ds.drop n)
  | ds, vs, 0, h => by simpa using h
  | [], _, n + 1, h => by cases h; exact rfl
  | d :: ds, _, n + 1, ⟨x, r, e1, e2, e3⟩ => by subst e1; exact RpAll.drop n e3
theorem RpAll.take : ∀ {ds : List D} {vs : List V} (n : Nat), RpAll K H vs ds → RpAll K H (vs.take n) (ds.take n)
  | ds, vs, 0, h => by simp [RpAll]
  | [], _, n + 1, h => by cases h; exact rfl
  | d :: ds, _, n + 1, ⟨x, r, e1, e2, e3⟩ => by subst e1; exact ⟨x, _, rfl, e2, RpAll.take n e3⟩
theorem RpAll.set : ∀ {ds : List D} {vs : List V} {d : D} {v : V} (j : Nat), RpAll K H vs ds → Rp K H v d → RpAll K H (vs.set j v) (ds.set j d)
  | [], _, _, _, _, h, _ => by cases h; exact rfl
  | d :: ds, _, _, _, 0, ⟨x, r, e1, e2, e3⟩, g => by subst e1; exact ⟨_, r, rfl, g, e3⟩
  | d :: ds, _, _, _, j + 1, ⟨x, r, e1, e2, e3⟩, g => by subst e1; exact ⟨x, _, rfl, e2, RpAll.set j e3 g⟩
theorem RpAll.reverse : ∀ {ds : List D} {vs : List V}, RpAll K H vs ds → RpAll K H vs.reverse ds.reverse
  | [], _, h => by cases h; exact rfl
  | d :: ds, _, ⟨x, r, e1, e2, e3⟩ => by
    subst e1
    rw [List.reverse_cons, List.reverse_cons]
    exact RpAll.append (RpAll.reverse e3) ⟨x, [], rfl, e2, rfl⟩
theorem RpAll.rep {ds : List D} {vs : List V} (h : RpAll K H vs ds) : ∀ k : Nat, RpAll K H (List.replicate k vs).flatten (List.replicate k ds).flatten
  | 0 => rfl
  | k + 1 => by
    rw [List.replicate_succ, List.replicate_succ, List.flatten_cons, List.flatten_cons]
    exact RpAll.append h (RpAll.rep h k)
theorem RpAll.ints : ∀ {ds : List D} {ns : List Int} {vs : List V}, intsOf ds = some ns → RpAll K H vs ds → vs = ns.map V.int
  | [], ns, _, e, h => by
    cases h
    simp [intsOf] at e
    subst e
    rfl
  | d :: ds, ns, _, e, ⟨x, r, e1, e2, e3⟩ => by
    cases d <;> simp [intsOf] at e
    obtain ⟨ms, f1, f2⟩ := e
    subst f2 e1
    have e4 : x = V.int _ := e2
    rw [e4, RpAll.ints f1 e3]
    rfl
theorem RpAll.bools : ∀ {ds : List D} {ns : List Bool} {vs : List V}, boolsOf ds = some ns → RpAll K H vs ds → vs = ns.map V.bl
  | [], ns, _, e, h => by
    cases h
    simp [boolsOf] at e
    subst e
    rfl
  | d :: ds, ns, _, e, ⟨x, r, e1, e2, e3⟩ => by
    cases d <;> simp [boolsOf] at e
    obtain ⟨ms, f1, f2⟩ := e
    subst f2 e1
    have e4 : x = V.bl _ := e2
    rw [e4, RpAll.bools f1 e3]
    rfl
end
end Ev

/-! ## Ev3 -/
namespace Ev
open PySem PySem.Spec PyProof.Rows L2

/-- where the tape (the law's d) stands, and its cells -/
structure Ta where
  a : Option Addr
  b : Addr
def TapeAt (K : PySem.W.Frag) (S H : Hp) (a b : Addr) (τ : Tp) : Prop :=
  S a = none ∧ H a = some (.lst [.ref b, .int (τ.pos : Int), .int τ.cur, .int τ.seed]) ∧ SqL K S b (τ.cells.map V.int)
def TpOk (K : PySem.W.Frag) (ta : Ta) (S H : Hp) (τ : Tp) : Prop := ∀ a, ta.a = some a → TapeAt K S H a ta.b τ
/-- one step of the heap: S its stable part -/
structure Stp (K : PySem.W.Frag) (ta : Ta) (τ : Tp) (S H S' H' : Hp) : Prop where
  same : Same S S'
  sub : Same S' H'
  gro : ∀ b o, ta.a ≠ some b → H b = some o → H' b = some o
  nn : ∀ b xs, ta.a ≠ some b → H b = some (.lst xs) → S b = none → S' b = none
  tape : TpOk K ta S' H' τ
def SlOk (K : PySem.W.Frag) (ta : Ta) (S H : Hp) (w : Option V) : Sl → Prop
  | .un => True
  | .im d => ∃ v, w = some v ∧ Rp K S v d
  | .ow ds => ∃ p vs, w = some (.ref p) ∧ H p = some (.lst vs) ∧ S p = none ∧ RpAll K S vs ds ∧ ta.a ≠ some p
  | .tp => ∃ a, ta.a = some a ∧ w = some (.ref a)
structure Rel (K : PySem.W.Frag) (ta : Ta) (ρ : Rho) (S : Hp) (σ : L2.St) (H : Hp) : Prop where
  len : ρ.length = σ.length
  sub : Same S H
  slot : ∀ (i : Nat) (s : Sl), ρ[i]? = some s → SlOk K ta S H (σ[i]?.getD none) s
  dist : ∀ (i j : Nat) (di dj : List D) (p : Addr), ρ[i]? = some (.ow di) → ρ[j]? = some (.ow dj) → σ[i]? = some (some (.ref p)) → σ[j]? = some (some (.ref p)) → i = j
/-- an answer's value: at the end's stable part, heap; H the heap at the start -/
def RV (K : PySem.W.Frag) (ta : Ta) (S' H' H : Hp) (v : V) (r : R) : Prop := match r.k with
  | .S => Rp K S' v r.d
  | .F => ∃ p ds vs, r.d = .list ds ∧ v = .ref p ∧ H' p = some (.lst vs) ∧ S' p = none ∧ H p = none ∧ RpAll K S' vs ds
  | .B => ∃ p ds vs, r.d = .list ds ∧ v = .ref p ∧ H' p = some (.lst vs) ∧ RpAll K S' vs ds ∧ ta.a ≠ some p
/-- the same where a fresh list has been made stable -/
def UV (K : PySem.W.Frag) (ta : Ta) (S' H' : Hp) (v : V) (r : R) : Prop := match r.k with
  | .B => ∃ p ds vs, r.d = .list ds ∧ v = .ref p ∧ H' p = some (.lst vs) ∧ RpAll K S' vs ds ∧ ta.a ≠ some p
  | _ => Rp K S' v r.d
def UVs (K : PySem.W.Frag) (ta : Ta) (S' H' : Hp) : List V → List R → Prop
  | [], [] => True
  | v :: vs, r :: rs => UV K ta S' H' v r ∧ UVs K ta S' H' vs rs
  | _, _ => False

section
variable {K : PySem.W.Frag} {ta : Ta} {τ τ1 τ2 : Tp} {S S1 S2 H H1 H2 : Hp} {ρ : Rho} {σ : L2.St} {v : V} {r : R}

theorem Stp.refl (h1 : Same S H) (t : TpOk K ta S H τ) : Stp K ta τ S H S H := ⟨Same.refl _, h1, fun _ _ _ h => h, fun _ _ _ _ h => h, t⟩
theorem Stp.trans (a : Stp K ta τ1 S H S1 H1) (b : Stp K ta τ2 S1 H1 S2 H2) : Stp K ta τ2 S H S2 H2 :=
  ⟨a.same.trans b.same, b.sub, fun c o n h => b.gro c o n (a.gro c o n h), fun c xs n h z => b.nn c xs n (a.gro c _ n h) (a.nn c xs n h z), b.tape⟩
/-- a free place was free at the start -/
theorem Stp.free (a : Stp K ta τ S H S1 H1) {p : Addr} (n : H1 p = none) : H p = none := by
  cases q : H p with
  | none => rfl
  | some o =>
    by_cases e : ta.a = some p
    · obtain ⟨_, h, _⟩ := a.tape p e
      rw [n] at h; cases h
    · have := a.gro p o e q
      rw [n] at this; cases this
theorem Stp.free' (a : Stp K ta τ S H S1 H1) {p : Addr} (n : H1 p = none) : S1 p = none := by
  cases q : S1 p with
  | none => rfl
  | some o => have := a.sub _ _ q; rw [n] at this; cases this
theorem Stp.nta (a : Stp K ta τ S H S1 H1) {p : Addr} (n : H1 p = none) : ta.a ≠ some p := fun e => by
  obtain ⟨_, h, _⟩ := a.tape p e
  rw [n] at h; cases h
theorem same_upd {S : Hp} {p : Addr} {o : HO} (h : S p = none) : Same S (upd S p o) := fun b x e => by
  rw [upd_ne (ne_of_none e h)]; exact e
theorem upd_sub {p : Addr} {o : HO} (s : Same S H) : Same (upd S p o) (upd H p o) := fun b x e => by
  by_cases h : b = p
  · subst h; rw [upd_same] at e ⊢; exact e
  · rw [upd_ne h] at e ⊢; exact s _ _ e
theorem TapeAt.mono {a b : Addr} (t : TapeAt K S H a b τ) (s : Same S S1) (n : S1 a = none) (h : H1 a = H a) : TapeAt K S1 H1 a b τ := by
  obtain ⟨_, e, q⟩ := t
  exact ⟨n, by rw [h]; exact e, s.seq q⟩
/-- a new stable object -/
theorem Stp.newS {p : Addr} {o : HO} (a : Stp K ta τ S H S1 H1) (n : H1 p = none) (nl : ∀ xs, o = .lst xs → True) : Stp K ta τ S H (upd S1 p o) (upd H1 p o) := by
  have n1 := a.free' n
  refine ⟨a.same.trans (same_upd n1), upd_sub a.sub, fun b x nt e => ?_, fun b xs nt e z => ?_, fun b e => ?_⟩
  · have := a.gro b x nt e
    rw [upd_ne (ne_of_none this n)]; exact this
  · have := a.gro b _ nt e
    rw [upd_ne (ne_of_none this n)]; exact a.nn b xs nt e z
  · have nb : b ≠ p := fun q => a.nta n (q ▸ e)
    exact (a.tape b e).mono (same_upd n1) (by rw [upd_ne nb]; exact (a.tape b e).1) (upd_ne nb)
/-- a new list that no one holds -/
theorem Stp.newL {p : Addr} {o : HO} (a : Stp K ta τ S H S1 H1) (n : H1 p = none) : Stp K ta τ S H S1 (upd H1 p o) := by
  refine ⟨a.same, fun b x e => ?_, fun b x nt e => ?_, a.nn, fun b e => ?_⟩
  · have := a.sub b x e
    rw [upd_ne (ne_of_none this n)]; exact this
  · have := a.gro b x nt e
    rw [upd_ne (ne_of_none this n)]; exact this
  · have nb : b ≠ p := fun q => a.nta n (q ▸ e)
    exact (a.tape b e).mono (Same.refl _) (a.tape b e).1 (upd_ne nb)
/-- a fresh list is made stable -/
theorem Stp.freeze {p : Addr} {vs : List V} (a : Stp K ta τ S H S1 H1) (h : H1 p = some (.lst vs)) (n : S1 p = none) (n0 : H p = none) (nt : ta.a ≠ some p) : Stp K ta τ S H (upd S1 p (.lst vs)) H1 := by
  refine ⟨a.same.trans (same_upd n), fun b x e => ?_, a.gro, fun b xs nt e z => ?_, fun b e => ?_⟩
  · by_cases hb : b = p
    · subst hb; rw [upd_same] at e; cases e; exact h
    · rw [upd_ne hb] at e; exact a.sub _ _ e
  · rw [upd_ne (ne_of_none e n0)]; exact a.nn b xs nt e z
  · have nb : b ≠ p := fun q => nt (q ▸ e)
    exact (a.tape b e).mono (same_upd n) (by rw [upd_ne nb]; exact (a.tape b e).1) rfl
theorem Stp.ntaF (a : Stp K ta τ S H S1 H1) {p : Addr} {τ0 : Tp} (t : TpOk K ta S H τ0) (n0 : H p = none) : ta.a ≠ some p := fun e => by
  obtain ⟨_, h, _⟩ := t p e
  rw [n0] at h; cases h
theorem Rel.step (R : Rel K ta ρ S σ H) (a : Stp K ta τ S H S1 H1) : Rel K ta ρ S1 σ H1 := by
  refine ⟨R.len, a.sub, fun i s e => ?_, R.dist⟩
  have h := R.slot i s e
  cases s with
  | un => trivial
  | im d => obtain ⟨v, e1, e2⟩ := h; exact ⟨v, e1, Rp.mono a.same d e2⟩
  | ow ds => obtain ⟨p, vs, e1, e2, e3, e4, e5⟩ := h; exact ⟨p, vs, e1, a.gro _ _ e5 e2, a.nn _ _ e5 e2 e3, RpAll.mono a.same ds e4, e5⟩
  | tp => exact h
theorem RV.uv {τ0 : Tp} (t : TpOk K ta S H τ0) (a : Stp K ta τ S H S1 H1) (h : RV K ta S1 H1 H v r) : ∃ S2, Stp K ta τ S H S2 H1 ∧ UV K ta S2 H1 v r := by
  obtain ⟨k, d⟩ := r
  cases k with
  | S => exact ⟨S1, a, h⟩
  | B => exact ⟨S1, a, h⟩
  | F =>
    obtain ⟨p, ds, vs, e1, e2, e3, e4, e5, e6⟩ := h
    refine ⟨upd S1 p (.lst vs), a.freeze e3 e4 e5 (a.ntaF t e5), ?_⟩
    have e1' : d = .list ds := e1
    subst e1'
    exact ⟨p, vs, e2, upd_same, RpAll.mono (same_upd e4) ds e6⟩
theorem UV.mono (h : UV K ta S1 H1 v r) (a : Stp K ta τ S1 H1 S2 H2) : UV K ta S2 H2 v r := by
  obtain ⟨k, d⟩ := r
  cases k with
  | S => exact Rp.mono a.same d h
  | F => exact Rp.mono a.same d h
  | B =>
    obtain ⟨p, ds, vs, e1, e2, e3, e4, e5⟩ := h
    exact ⟨p, ds, vs, e1, e2, a.gro _ _ e5 e3, RpAll.mono a.same ds e4, e5⟩
theorem UVs.mono (a : Stp K ta τ S1 H1 S2 H2) : ∀ {vs : List V} {rs : List R}, UVs K ta S1 H1 vs rs → UVs K ta S2 H2 vs rs
  | [], [], _ => trivial
  | v :: vs, r :: rs, ⟨h1, h2⟩ => ⟨h1.mono a, UVs.mono a h2⟩
  | [], _ :: _, h => h.elim
  | _ :: _, [], h => h.elim
/-- it is readable in the heap -/
theorem UV.rp (h : UV K ta S1 H1 v r) (s : Same S1 H1) : Rp K H1 v r.d := by
  obtain ⟨k, d⟩ := r
  cases k with
  | S => exact Rp.mono s d h
  | F => exact Rp.mono s d h
  | B =>
    obtain ⟨p, ds, vs, e1, e2, e3, e4, e5⟩ := h
    have e1' : d = .list ds := e1
    subst e1'
    exact ⟨p, vs, e2, e3, RpAll.mono s ds e4⟩
/-- what is no list is stable -/
theorem UV.st (h : UV K ta S1 H1 v r) (hs : stb r = some d) : Rp K S1 v d := by
  obtain ⟨k, d'⟩ := r
  cases k with
  | S => cases hs; exact h
  | F => cases hs; exact h
  | B => cases hs
/-- a list's items are stable -/
theorem UV.lst {ds : List D} (h : UV K ta S1 H1 v r) (s : Same S1 H1) (e : r.d = .list ds) : ∃ p vs, v = .ref p ∧ H1 p = some (.lst vs) ∧ RpAll K S1 vs ds := by
  obtain ⟨k, d⟩ := r
  have e' : d = .list ds := e
  subst e'
  cases k with
  | S => obtain ⟨p, vs, e1, e2, e3⟩ := h; exact ⟨p, vs, e1, s _ _ e2, e3⟩
  | F => obtain ⟨p, vs, e1, e2, e3⟩ := h; exact ⟨p, vs, e1, s _ _ e2, e3⟩
  | B =>
    obtain ⟨p, ds', vs, e1, e2, e3, e4, e5⟩ := h
    cases e1
    exact ⟨p, vs, e2, e3, e4⟩
theorem UV.nl (h : UV K ta S1 H1 v r) (e : ∀ ds, r.d ≠ .list ds) : Rp K S1 v r.d := by
  obtain ⟨k, d⟩ := r
  cases k with
  | S => exact h
  | F => exact h
  | B =>
    obtain ⟨p, ds', vs, e1, _⟩ := h
    exact absurd e1 (e _)
theorem UV.int {i : Int} (h : UV K ta S1 H1 v r) (e : r.d = .int i) : v = .int i := by
  have q := h.nl (fun ds z => by rw [e] at z; cases z)
  rw [e] at q
  exact q
theorem UV.bool {i : Bool} (h : UV K ta S1 H1 v r) (e : r.d = .bool i) : v = .bl i := by
  have q := h.nl (fun ds z => by rw [e] at z; cases z)
  rw [e] at q
  exact q
theorem UV.tup {ds : List D} (h : UV K ta S1 H1 v r) (e : r.d = .tuple ds) : ∃ p vs, v = .ref p ∧ SqT K S1 p vs ∧ RpAll K S1 vs ds := by
  have q := h.nl (fun ds z => by rw [e] at z; cases z)
  rw [e] at q
  exact q
theorem UVs.length : ∀ {vs : List V} {rs : List R}, UVs K ta S1 H1 vs rs → vs.length = rs.length
  | [], [], _ => rfl
  | v :: vs, r :: rs, ⟨_, h2⟩ => by simp [UVs.length h2]
  | [], _ :: _, h => h.elim
  | _ :: _, [], h => h.elim
theorem UVs.rp (s : Same S1 H1) : ∀ {vs : List V} {rs : List R}, UVs K ta S1 H1 vs rs → RpAll K H1 vs (rs.map (·.d))
  | [], [], _ => rfl
  | v :: vs, r :: rs, ⟨h1, h2⟩ => ⟨v, vs, rfl, h1.rp s, UVs.rp s h2⟩
  | [], _ :: _, h => h.elim
  | _ :: _, [], h => h.elim
theorem UVs.st : ∀ {vs : List V} {rs : List R} {ds : List D}, UVs K ta S1 H1 vs rs → rs.mapM stb = some ds → RpAll K S1 vs ds
  | [], [], ds, _, e => by
    have e' : ds = [] := by simpa using e.symm
    subst e'
    rfl
  | v :: vs, r :: rs, ds, ⟨h1, h2⟩, e => by
    rw [List.mapM_cons] at e
    cases q : stb r with
    | none => rw [q] at e; cases e
    | some d =>
      rw [q] at e
      cases q2 : rs.mapM stb with
      | none => rw [q2] at e; cases e
      | some es =>
        rw [q2] at e
        have e' : d :: es = ds := Option.some.inj e
        subst e'
        exact ⟨v, vs, rfl, h1.st q, UVs.st h2 q2⟩
  | [], _ :: _, _, h, _ => h.elim
  | _ :: _, [], _, h, _ => h.elim
end

/-! ### readings -/
section
variable (K : PySem.W.Frag) (ta : Ta) (Φ : Nat → List D → Option R) (Ψ : Nat → List D → Tp → Option (R × Tp)) (N : Nat)
def tE (c : E) : TE := fun σ H Q => ∃ S ρ τ r τ', Rel K ta ρ S σ H ∧ TpOk K ta S H τ ∧ ev Φ Ψ ρ τ c = some (r, τ') ∧ ∀ v S' H', Stp K ta τ' S H S' H' → RV K ta S' H' H v r → Q v H'
def tU (c : E) : TE := fun σ H Q => ∃ S ρ τ r τ', Rel K ta ρ S σ H ∧ TpOk K ta S H τ ∧ ev Φ Ψ ρ τ c = some (r, τ') ∧ ∀ v S' H', Stp K ta τ' S H S' H' → UV K ta S' H' v r → Q v H'
def tT (c : E) : TT := fun σ H Q => ∃ S ρ τ r τ' b, Rel K ta ρ S σ H ∧ TpOk K ta S H τ ∧ ev Φ Ψ ρ τ c = some (r, τ') ∧ r.d = .bool b ∧ ∀ S' H', Stp K ta τ' S H S' H' → Q b H'
def tAs (cs : List E) : TA := fun σ H Q => ∃ S ρ τ rs τ', Rel K ta ρ S σ H ∧ TpOk K ta S H τ ∧ evs Φ Ψ ρ τ cs = some (rs, τ') ∧ ∀ vs S' H', Stp K ta τ' S H S' H' → UVs K ta S' H' vs rs → Q vs H'
end
section
variable {X : Cx} {K : PySem.W.Frag} {ta : Ta} {Φ : Nat → List D → Option R} {Ψ : Nat → List D → Tp → Option (R × Tp)} {e a b c : Expr} {ca cb cc : E}
theorem PE.weak {t t' : TE} (h : PE X e t) (w : ∀ σ H Q, t' σ H Q → t σ H Q) : PE X e t' := ⟨fun pins s σ H Q I q => h.run pins s σ H Q I (w _ _ _ q)⟩
theorem PT.weak {t t' : TT} (h : PT X e t) (w : ∀ σ H Q, t' σ H Q → t σ H Q) : PT X e t' := ⟨fun pins s σ H Q I q => h.run pins s σ H Q I (w _ _ _ q)⟩
theorem PW.weak {t t' : TT} (h : PW X e t) (w : ∀ σ H Q, t' σ H Q → t σ H Q) : PW X e t' := ⟨fun wh pins s σ H Q I q => h.run wh pins s σ H Q I (w _ _ _ q)⟩
theorem PA.weak {es : List Expr} {t t' : TA} (h : PA X es t) (w : ∀ σ H Q, t' σ H Q → t σ H Q) : PA X es t' := ⟨fun pos pins s σ H Q I q => h.run pos pins s σ H Q I (w _ _ _ q)⟩
theorem PS.weak {st : Stmt} {t t' : TS} (h : PS X st t) (w : ∀ D σ H, t' D σ H → t D σ H) : PS X st t' := ⟨fun pins s σ H D I q => h.run pins s σ H D I (w _ _ _ q)⟩
theorem PSs.weak {st : List Stmt} {t t' : TS} (h : PSs X st t) (w : ∀ D σ H, t' D σ H → t D σ H) : PSs X st t' := ⟨fun pins s σ H D I q => h.run pins s σ H D I (w _ _ _ q)⟩
theorem _root_.L2.PE.use (h : PE X e (tE K ta Φ Ψ ca)) : PE X e (tU K ta Φ Ψ ca) := PE.weak h fun σ H Q ⟨S, ρ, τ, r, τ', h1, h2, h3, h4⟩ =>
  ⟨S, ρ, τ, r, τ', h1, h2, h3, fun v S' H' st rv => by
    obtain ⟨S2, st2, uv⟩ := rv.uv h2 st
    exact h4 v S2 H' st2 uv⟩
end
end Ev

/-! ## Ev4 -/
namespace Ev
open PySem PySem.Spec PyProof.Rows L2

/-- what is wanted of an answer r -/
def Post (K : PySem.W.Frag) (ta : Ta) (S H : Hp) (τ : Tp) (r : R) (Q : VK) : Prop := ∀ v S' H', Stp K ta τ S H S' H' → RV K ta S' H' H v r → Q v H'
section
variable {K : PySem.W.Frag} {ta : Ta} {τ τ1 τ2 : Tp} {S S1 S2 H H1 H2 : Hp} {ρ : Rho} {σ : L2.St} {v : V} {r : R} {Q : VK}
theorem RV.back {S' H' : Hp} (a : Stp K ta τ S H S1 H1) (h : RV K ta S' H' H1 v r) : RV K ta S' H' H v r := by
  obtain ⟨k, d⟩ := r
  cases k with
  | S => exact h
  | B => exact h
  | F =>
    obtain ⟨p, ds, vs, e1, e2, e3, e4, e5, e6⟩ := h
    exact ⟨p, ds, vs, e1, e2, e3, e4, a.free e5, e6⟩
theorem Post.later (p : Post K ta S H τ2 r Q) (a : Stp K ta τ1 S H S1 H1) : Post K ta S1 H1 τ2 r Q := fun v S' H' st rv => p v S' H' (a.trans st) (rv.back a)
theorem Post.here {d : D} (p : Post K ta S H τ ⟨.S, d⟩ Q) (s : Same S H) (t : TpOk K ta S H τ) (h : Rp K S v d) : Q v H := p v S H (Stp.refl s t) h
theorem Post.tup {zs : List V} {ds : List D} (p : Post K ta S H τ ⟨.S, .tuple ds⟩ Q) (s : Same S H) (t : TpOk K ta S H τ) (h : RpAll K S zs ds) {q : Addr} (n : H q = none) : Q (.ref q) (upd H q (.tup zs)) := by
  have st := Stp.refl s t
  have n1 := st.free' n
  exact p _ _ _ (st.newS n fun _ _ => trivial) ⟨q, zs, rfl, SqT.of upd_same, RpAll.mono (same_upd n1) ds h⟩
theorem Post.lst {zs : List V} {ds : List D} (p : Post K ta S H τ ⟨.F, .list ds⟩ Q) (s : Same S H) (t : TpOk K ta S H τ) (h : RpAll K S zs ds) {q : Addr} (n : H q = none) : Q (.ref q) (upd H q (.lst zs)) := by
  have st := Stp.refl s t
  exact p _ _ _ (st.newL n) ⟨q, ds, zs, rfl, rfl, upd_same, st.free' n, n, h⟩
end

/-! ### operators -/
def boO : Bo → Operator
  | .add => .Add | .sub => .Sub | .mul => .Mult | .fdiv => .FloorDiv | .mod => .Mod | .pow => .Pow
def coO : Co → CmpOp
  | .eq => .Eq | .ne => .NotEq | .lt => .Lt | .le => .LtE | .gt => .Gt | .ge => .GtE | .isin => .In | .notin => .NotIn
/-- two answers' values and what is wanted of the result -/
def rTwo (K : PySem.W.Frag) (ta : Ta) (f : D → D → Option R) : R2 := fun x y H Q => ∃ S τ r1 r2 r, Same S H ∧ TpOk K ta S H τ ∧ UV K ta S H x r1 ∧ UV K ta S H y r2 ∧ f r1.d r2.d = some r ∧ Post K ta S H τ r Q
section
variable {X : Cx} {ta : Ta}
theorem len_of {n : Nat} (h : n < 16777216) : n ≤ sizeLine := by rw [sizeLine_eq]; omega
theorem lt_of {n : Nat} (h : n < 16777216) : n < sizeLine := by rw [sizeLine_eq]; omega
theorem op_fdivG : OpR X (binaryOp .FloorDiv) (rI (fun _ j => j ≠ 0 ∧ j.natAbs.log2 < 9000) fun i j => .int (i.fdiv j)) := opI fun _ _ _ _ _ _ _ hc q => floordiv_int hc.1 q (.inl (PyProof.noPylong_of_log2 hc.2))
theorem bo_run (op : Bo) : OpR X (binaryOp (boO op)) (rTwo X.K ta (binD op)) := by
  intro pins s σ H x y v u Q I rx ry ⟨S, τ, r1, r2, r, hs, ht, u1, u2, e, p⟩
  have isI : ∀ {i j : Int}, r1.d = .int i → r2.d = .int j → x = .int i ∧ y = .int j := fun e1 e2 => ⟨u1.int e1, u2.int e2⟩
  cases q1 : r1.d with
  | none => rw [q1] at e; cases op <;> simp [binD] at e
  | bool _ => rw [q1] at e; cases op <;> simp [binD] at e
  | str _ => rw [q1] at e; cases op <;> simp [binD] at e
  | dict _ => rw [q1] at e; cases op <;> simp [binD] at e
  | int i =>
    cases q2 : r2.d with
    | int j =>
      obtain ⟨rfl, rfl⟩ := isI q1 q2
      rw [q1, q2] at e
      cases op with
      | add => simp only [binD, Option.some.injEq] at e; subst e; exact op_add pins s σ H _ _ v u Q I rx ry ⟨i, j, rfl, rfl, p.here hs ht rfl⟩
      | sub => simp only [binD, Option.some.injEq] at e; subst e; exact op_sub pins s σ H _ _ v u Q I rx ry ⟨i, j, rfl, rfl, p.here hs ht rfl⟩
      | mul =>
        simp only [binD] at e
        by_cases hc : mulFits i j = true
        · rw [if_pos hc] at e
          cases e
          exact op_mulW pins s σ H _ _ v u Q I rx ry ⟨i, j, rfl, rfl, (show CMulW i j by unfold CMulW; unfold mulFits at hc; exact of_decide_eq_true hc), p.here hs ht rfl⟩
        · rw [if_neg hc] at e; cases e
      | fdiv =>
        simp only [binD, divFits, Bool.and_eq_true, decide_eq_true_eq] at e
        split at e
        · rename_i hc
          cases e
          exact op_fdivG pins s σ H _ _ v u Q I rx ry ⟨i, j, rfl, rfl, hc, p.here hs ht rfl⟩
        · cases e
      | mod =>
        simp only [binD] at e
        split at e
        · rename_i hc
          cases e
          exact op_modN pins s σ H _ _ v u Q I rx ry ⟨i, j, rfl, rfl, hc, p.here hs ht rfl⟩
        · cases e
      | pow =>
        simp only [binD, powFits, Bool.and_eq_true, decide_eq_true_eq] at e
        split at e
        · rename_i hc
          cases e
          exact op_pow pins s σ H _ _ v u Q I rx ry ⟨i, j, rfl, rfl, ⟨hc.1.1, hc.1.2, hc.2⟩, p.here hs ht rfl⟩
        · cases e
    | none => rw [q1, q2] at e; cases op <;> simp [binD] at e
    | bool _ => rw [q1, q2] at e; cases op <;> simp [binD] at e
    | str _ => rw [q1, q2] at e; cases op <;> simp [binD] at e
    | dict _ => rw [q1, q2] at e; cases op <;> simp [binD] at e
    | list _ => rw [q1, q2] at e; cases op <;> simp [binD] at e
    | tuple _ => rw [q1, q2] at e; cases op <;> simp [binD] at e
  | tuple xs =>
    obtain ⟨a, vs, rfl, hq, hall⟩ := u1.tup q1
    have hq' : SqT X.K H a vs := Same.seqT hs hq
    cases q2 : r2.d with
    | tuple ys =>
      rw [q1, q2] at e
      obtain ⟨b, ws, rfl, hq2, hall2⟩ := u2.tup q2
      have hq2' : SqT X.K H b ws := Same.seqT hs hq2
      cases op with
      | add =>
        simp only [binD, shortL, decide_eq_true_eq] at e
        split at e
        · rename_i hc
          cases e
          have l1 := hall.length
          have l2 := hall2.length
          refine op_catA pins s σ H _ _ v u Q I rx ry ⟨a, b, vs, ws, rfl, rfl, hq', hq2', len_of (by rw [List.length_append] at hc; omega), fun z => ?_, fun z z2 => ?_, fun z z2 q n => p.tup hs ht (hall.append hall2) n⟩
          · subst z
            have : xs = [] := List.eq_nil_of_length_eq_zero (by simpa using l1.symm)
            subst this
            exact p.here hs ht ⟨b, ws, rfl, hq2, hall2⟩
          · subst z2
            have : ys = [] := List.eq_nil_of_length_eq_zero (by simpa using l2.symm)
            subst this
            rw [List.append_nil] at p
            exact p.here hs ht ⟨a, vs, rfl, hq, hall⟩
        · cases e
      | sub => simp [binD] at e
      | mul => simp [binD] at e
      | fdiv => simp [binD] at e
      | mod => simp [binD] at e
      | pow => simp [binD] at e
    | int k =>
      rw [q1, q2] at e
      have ey := u2.int q2
      subst ey
      cases op with
      | mul =>
        simp only [binD] at e
        split at e
        · rename_i hc
          cases e
          simp only [Bool.and_eq_true, decide_eq_true_eq] at hc
          obtain ⟨⟨h1, h2⟩, h3⟩ := hc
          have l1 := hall.length
          refine op_repA pins s σ H _ _ v u Q I rx ry ⟨a, k, vs, rfl, rfl, hq', by omega, h2, by omega, fun z => ?_, fun _ _ q n => p.tup hs ht (hall.rep _) n⟩
          have ez : (List.replicate k.toNat xs).flatten = xs := by
            rcases z with z | z
            · subst z
              have : xs = [] := List.eq_nil_of_length_eq_zero (by simpa using l1.symm)
              subst this
              simp
            · subst z
              simp
          rw [ez] at p
          exact p.here hs ht ⟨a, vs, rfl, hq, hall⟩
        · cases e
      | add => simp [binD] at e
      | sub => simp [binD] at e
      | fdiv => simp [binD] at e
      | mod => simp [binD] at e
      | pow => simp [binD] at e
    | none => rw [q1, q2] at e; cases op <;> simp [binD] at e
    | bool _ => rw [q1, q2] at e; cases op <;> simp [binD] at e
    | str _ => rw [q1, q2] at e; cases op <;> simp [binD] at e
    | dict _ => rw [q1, q2] at e; cases op <;> simp [binD] at e
    | list _ => rw [q1, q2] at e; cases op <;> simp [binD] at e
  | list xs =>
    obtain ⟨a, vs, rfl, hq, hall⟩ := u1.lst hs q1
    cases q2 : r2.d with
    | list ys =>
      rw [q1, q2] at e
      obtain ⟨b, ws, rfl, hq2, hall2⟩ := u2.lst hs q2
      cases op with
      | add =>
        simp only [binD, shortL, decide_eq_true_eq] at e
        split at e
        · rename_i hc
          cases e
          have l1 := hall.length
          have l2 := hall2.length
          exact op_cat pins s σ H _ _ v u Q I rx ry ⟨a, b, vs, ws, rfl, rfl, hq, hq2, len_of (by rw [List.length_append] at hc; omega), fun q n => p.lst hs ht (hall.append hall2) n⟩
        · cases e
      | sub => simp [binD] at e
      | mul => simp [binD] at e
      | fdiv => simp [binD] at e
      | mod => simp [binD] at e
      | pow => simp [binD] at e
    | int k =>
      rw [q1, q2] at e
      have ey := u2.int q2
      subst ey
      cases op with
      | mul =>
        simp only [binD] at e
        split at e
        · rename_i hc
          cases e
          simp only [Bool.and_eq_true, decide_eq_true_eq] at hc
          obtain ⟨⟨h1, h2⟩, h3⟩ := hc
          have l1 := hall.length
          exact op_rep pins s σ H _ _ v u Q I rx ry ⟨a, k, vs, rfl, rfl, hq, h1, h2, len_of (by rw [l1]; exact h3), fun q n => p.lst hs ht (hall.rep _) n⟩
        · cases e
      | add => simp [binD] at e
      | sub => simp [binD] at e
      | fdiv => simp [binD] at e
      | mod => simp [binD] at e
      | pow => simp [binD] at e
    | none => rw [q1, q2] at e; cases op <;> simp [binD] at e
    | bool _ => rw [q1, q2] at e; cases op <;> simp [binD] at e
    | str _ => rw [q1, q2] at e; cases op <;> simp [binD] at e
    | dict _ => rw [q1, q2] at e; cases op <;> simp [binD] at e
    | tuple _ => rw [q1, q2] at e; cases op <;> simp [binD] at e

theorem in_ints {i : Int} : ∀ ns : List Int, inV (.int i) (ns.map V.int) = ns.any (fun n => decide (n = i))
  | [] => rfl
  | n :: ns => by
    show (eqV (.int n) (.int i) || inV (.int i) (ns.map V.int)) = _
    rw [in_ints ns, List.any_cons]
    congr 1
theorem flat_ints (ns : List Int) : (ns.map V.int).all flatV = true := by
  rw [List.all_eq_true]
  intro v hv
  obtain ⟨n, _, rfl⟩ := List.mem_map.mp hv
  rfl
/-- an eq of data by its general rule -/
theorem eq_gen (hu : X.A.units + 80 < cLine) {pins : List (Addr × Obj)} {s : Shared} {σ : L2.St} {H S : Hp} {x y : V} {v u : Value} {Q : VK} {τ : Tp} {r1 r2 : R} {b : Bool} (I : Inv X pins σ H s) (rx : RelV x v) (ry : RelV y u)
    (hs : Same S H) (ht : TpOk X.K ta S H τ) (u1 : UV X.K ta S H x r1) (u2 : UV X.K ta S H y r2) (e : (if SeqAt.shaped r1.d && SeqAt.shaped r2.d then some (PyData.eqv r1.d r2.d) else none) = some b) (p : Post X.K ta S H τ ⟨.S, .bool b⟩ Q) :
    wpAny (model X.prog X.w) X.A (compareOp .Eq v u) (EP X pins σ Q) X.xe s := by
  split at e
  · rename_i hc
    cases e
    rw [Bool.and_eq_true] at hc
    exact op_eqD (by omega) pins s σ H x y v u Q I rx ry ⟨r1.d, r2.d, (u1.rp hs).dp, (u2.rp hs).dp, hc.1, hc.2, p.here hs ht rfl⟩
  · cases e
theorem ne_gen (hu : X.A.units + 80 < cLine) {pins : List (Addr × Obj)} {s : Shared} {σ : L2.St} {H S : Hp} {x y : V} {v u : Value} {Q : VK} {τ : Tp} {r1 r2 : R} {b : Bool} (I : Inv X pins σ H s) (rx : RelV x v) (ry : RelV y u)
    (hs : Same S H) (ht : TpOk X.K ta S H τ) (u1 : UV X.K ta S H x r1) (u2 : UV X.K ta S H y r2) (e : (if SeqAt.shaped r1.d && SeqAt.shaped r2.d then some (!PyData.eqv r1.d r2.d) else none) = some b) (p : Post X.K ta S H τ ⟨.S, .bool b⟩ Q) :
    wpAny (model X.prog X.w) X.A (compareOp .NotEq v u) (EP X pins σ Q) X.xe s := by
  split at e
  · rename_i hc
    cases e
    rw [Bool.and_eq_true] at hc
    exact op_neD (by omega) pins s σ H x y v u Q I rx ry ⟨r1.d, r2.d, (u1.rp hs).dp, (u2.rp hs).dp, hc.1, hc.2, p.here hs ht rfl⟩
  · cases e
def cmpR (op : Co) (d e : D) : Option R := (cmpD op d e).map fun b => ⟨.S, .bool b⟩
theorem cmpR_some {op : Co} {d e : D} {r : R} (h : cmpR op d e = some r) : ∃ b, cmpD op d e = some b ∧ r = ⟨.S, .bool b⟩ := by
  unfold cmpR at h
  cases q : cmpD op d e with
  | none => rw [q] at h; cases h
  | some b => rw [q] at h; cases h; exact ⟨b, rfl, rfl⟩
theorem ofDp {K : PySem.W.Frag} {H : Hp} {d : D} {v : V} (h : Rp K H v d) : Dp K H v d := Rp.dp d h
theorem co_run (hu : X.A.units + 80 < cLine) (op : Co) : OpR X (compareOp (coO op)) (rTwo X.K ta (cmpR op)) := by
  intro pins s σ H x y v u Q I rx ry ⟨S, τ, r1, r2, r, hs, ht, u1, u2, e0, p⟩
  obtain ⟨b, e, rfl⟩ := cmpR_some e0
  have isI : ∀ {i j : Int}, r1.d = .int i → r2.d = .int j → x = .int i ∧ y = .int j := fun e1 e2 => ⟨u1.int e1, u2.int e2⟩
  cases op with
  | lt =>
    cases q1 : r1.d <;> cases q2 : r2.d <;> rw [q1, q2] at e <;> simp [cmpD] at e
    obtain ⟨rfl, rfl⟩ := isI q1 q2
    subst e
    exact op_lt pins s σ H _ _ v u Q I rx ry ⟨_, _, rfl, rfl, p.here hs ht rfl⟩
  | le =>
    cases q1 : r1.d <;> cases q2 : r2.d <;> rw [q1, q2] at e <;> simp [cmpD] at e
    obtain ⟨rfl, rfl⟩ := isI q1 q2
    subst e
    exact op_le pins s σ H _ _ v u Q I rx ry ⟨_, _, rfl, rfl, p.here hs ht rfl⟩
  | gt =>
    cases q1 : r1.d <;> cases q2 : r2.d <;> rw [q1, q2] at e <;> simp [cmpD] at e
    obtain ⟨rfl, rfl⟩ := isI q1 q2
    subst e
    exact op_gt pins s σ H _ _ v u Q I rx ry ⟨_, _, rfl, rfl, p.here hs ht rfl⟩
  | ge =>
    cases q1 : r1.d <;> cases q2 : r2.d <;> rw [q1, q2] at e <;> simp [cmpD] at e
    obtain ⟨rfl, rfl⟩ := isI q1 q2
    subst e
    exact op_ge pins s σ H _ _ v u Q I rx ry ⟨_, _, rfl, rfl, p.here hs ht rfl⟩
  | eq =>
    by_cases hi : ∃ i j, r1.d = .int i ∧ r2.d = .int j
    · obtain ⟨i, j, q1, q2⟩ := hi
      obtain ⟨rfl, rfl⟩ := isI q1 q2
      rw [q1, q2] at e
      simp only [cmpD, Option.some.injEq] at e
      subst e
      refine op_eq pins s σ H _ _ v u Q I rx ry ⟨rfl, ?_⟩
      have e2 : decide (V.int i = V.int j) = decide (i = j) := by rw [dec_int, Bool.beq_eq_decide_eq]
      rw [e2]
      exact p.here hs ht rfl
    · by_cases hb : ∃ i j, r1.d = .bool i ∧ r2.d = .bool j
      · obtain ⟨i, j, q1, q2⟩ := hb
        have e1 := u1.bool q1
        have e2 := u2.bool q2
        subst e1 e2
        rw [q1, q2] at e
        simp only [cmpD, Option.some.injEq] at e
        subst e
        refine op_eq pins s σ H _ _ v u Q I rx ry ⟨rfl, ?_⟩
        rw [dec_bl]
        exact p.here hs ht rfl
      · refine eq_gen hu I rx ry hs ht u1 u2 ?_ p
        rw [← e]
        cases q1 : r1.d <;> cases q2 : r2.d <;> first
          | rfl
          | exact absurd ⟨_, _, q1, q2⟩ hi
          | exact absurd ⟨_, _, q1, q2⟩ hb
  | ne =>
    by_cases hi : ∃ i j, r1.d = .int i ∧ r2.d = .int j
    · obtain ⟨i, j, q1, q2⟩ := hi
      obtain ⟨rfl, rfl⟩ := isI q1 q2
      rw [q1, q2] at e
      simp only [cmpD, Option.some.injEq] at e
      subst e
      refine op_ne pins s σ H _ _ v u Q I rx ry ⟨rfl, ?_⟩
      have e2 : decide (V.int i = V.int j) = decide (i = j) := by rw [dec_int, Bool.beq_eq_decide_eq]
      rw [e2]
      exact p.here hs ht rfl
    · by_cases hb : ∃ i j, r1.d = .bool i ∧ r2.d = .bool j
      · obtain ⟨i, j, q1, q2⟩ := hb
        have e1 := u1.bool q1
        have e2 := u2.bool q2
        subst e1 e2
        rw [q1, q2] at e
        simp only [cmpD, Option.some.injEq] at e
        subst e
        refine op_ne pins s σ H _ _ v u Q I rx ry ⟨rfl, ?_⟩
        rw [dec_bl]
        exact p.here hs ht rfl
      · refine ne_gen hu I rx ry hs ht u1 u2 ?_ p
        rw [← e]
        cases q1 : r1.d <;> cases q2 : r2.d <;> first
          | rfl
          | exact absurd ⟨_, _, q1, q2⟩ hi
          | exact absurd ⟨_, _, q1, q2⟩ hb
  | isin =>
    cases q2 : r2.d with
    | tuple ds =>
      cases q1 : r1.d <;> rw [q1, q2] at e <;> simp [cmpD] at e
      rename_i i
      obtain ⟨ns, e1, e2⟩ := e
      obtain ⟨a, vs, rfl, hq, hall⟩ := u2.tup q2
      have ex := u1.int q1
      subst ex
      have ev := hall.ints e1
      subst ev
      refine op_in_seq pins s σ H _ _ v u Q I rx ry ⟨a, _, rfl, .inr (Same.seqT hs hq), rfl, flat_ints ns, ?_⟩
      show Q (.bl (inV (.int i) (ns.map V.int))) H
      rw [in_ints, e2]
      exact p.here hs ht rfl
    | list ds =>
      rw [q2] at e
      have e' : (if SeqAt.shaped r1.d && SeqAt.shaped (.list ds) then some (ds.any fun z => PyData.eqv z r1.d) else none) = some b := by
        rw [← e]; unfold cmpD; cases r1.d <;> rfl
      split at e'
      · rename_i hc
        cases e'
        rw [Bool.and_eq_true] at hc
        exact op_inD (by omega) pins s σ H x y v u Q I rx ry ⟨r1.d, ds, ofDp (u1.rp hs), by rw [← q2]; exact ofDp (u2.rp hs), hc.1, hc.2, p.here hs ht rfl⟩
      · cases e'
    | none => rw [q2] at e; cases q1 : r1.d <;> rw [q1] at e <;> simp [cmpD] at e
    | bool _ => rw [q2] at e; cases q1 : r1.d <;> rw [q1] at e <;> simp [cmpD] at e
    | str _ => rw [q2] at e; cases q1 : r1.d <;> rw [q1] at e <;> simp [cmpD] at e
    | int _ => rw [q2] at e; cases q1 : r1.d <;> rw [q1] at e <;> simp [cmpD] at e
    | dict _ => rw [q2] at e; cases q1 : r1.d <;> rw [q1] at e <;> simp [cmpD] at e
  | notin =>
    cases q2 : r2.d with
    | tuple ds =>
      cases q1 : r1.d <;> rw [q1, q2] at e <;> simp [cmpD] at e
      rename_i i
      obtain ⟨ns, e1, e2⟩ := e
      obtain ⟨a, vs, rfl, hq, hall⟩ := u2.tup q2
      have ex := u1.int q1
      subst ex
      have ev := hall.ints e1
      subst ev
      refine op_notIn_seq pins s σ H _ _ v u Q I rx ry ⟨a, _, rfl, .inr (Same.seqT hs hq), rfl, flat_ints ns, ?_⟩
      show Q (.bl (!inV (.int i) (ns.map V.int))) H
      rw [in_ints, e2, Bool.not_not]
      exact p.here hs ht rfl
    | list ds =>
      rw [q2] at e
      have e' : (if SeqAt.shaped r1.d && SeqAt.shaped (.list ds) then some (!ds.any fun z => PyData.eqv z r1.d) else none) = some b := by
        rw [← e]; unfold cmpD; cases r1.d <;> rfl
      split at e'
      · rename_i hc
        cases e'
        rw [Bool.and_eq_true] at hc
        exact op_notInD (by omega) pins s σ H x y v u Q I rx ry ⟨r1.d, ds, ofDp (u1.rp hs), by rw [← q2]; exact ofDp (u2.rp hs), hc.1, hc.2, p.here hs ht rfl⟩
      · cases e'
    | none => rw [q2] at e; cases q1 : r1.d <;> rw [q1] at e <;> simp [cmpD] at e
    | bool _ => rw [q2] at e; cases q1 : r1.d <;> rw [q1] at e <;> simp [cmpD] at e
    | str _ => rw [q2] at e; cases q1 : r1.d <;> rw [q1] at e <;> simp [cmpD] at e
    | int _ => rw [q2] at e; cases q1 : r1.d <;> rw [q1] at e <;> simp [cmpD] at e
    | dict _ => rw [q2] at e; cases q1 : r1.d <;> rw [q1] at e <;> simp [cmpD] at e
end
end Ev

/-! ## Ev5 -/
namespace Ev
open PySem PySem.Spec PyProof.Rows L2

/-! ### what a caller may use of a def, and what a def promises -/
def RetP (K : PySem.W.Frag) (H H' : Hp) (v : V) (r : R) : Prop := match r.k with
  | .F => ∃ p ds vs, r.d = .list ds ∧ v = .ref p ∧ H p = none ∧ H' p = some (.lst vs) ∧ RpAll K H' vs ds
  | _ => Rp K H' v r.d
def spP (K : PySem.W.Frag) (φ : List D → Option R) : Sp := fun vs H Q _ => ∃ ds r, RpAll K H vs ds ∧ φ ds = some r ∧ clean r = true ∧ ∀ v H', Same H H' → RetP K H H' v r → Q v H'
def del (H : Hp) (a : Addr) : Hp := fun b => if b = a then none else H b
theorem del_same {H : Hp} {a : Addr} : del H a a = none := if_pos rfl
theorem del_ne {H : Hp} {a b : Addr} (h : b ≠ a) : del H a b = H b := if_neg h
theorem del_sub {H : Hp} {a : Addr} : Same (del H a) H := fun b o e => by
  by_cases h : b = a
  · subst h; rw [del_same] at e; cases e
  · rw [del_ne h] at e; exact e
theorem del_upd {H : Hp} {a : Addr} {o : HO} : del (upd H a o) a = del H a := by
  funext b
  by_cases h : b = a
  · subst h; rw [del_same, del_same]
  · rw [del_ne h, del_ne h, upd_ne h]
theorem del_none {H : Hp} {a : Addr} (n : H a = none) : del H a = H := by
  funext b
  by_cases h : b = a
  · subst h; rw [del_same, n]
  · rw [del_ne h]
def spT (K : PySem.W.Frag) (ψ : List D → Tp → Option (R × Tp)) : Sp := fun vs H Q _ => ∃ a b vs' ds τ r τ', vs = .ref a :: vs' ∧ TapeAt K (del H a) H a b τ ∧ RpAll K (del H a) vs' ds ∧ ψ ds τ = some (r, τ') ∧ clean r = true ∧
  ∀ v H', Same (del H a) (del H' a) → TapeAt K (del H' a) H' a b τ' → RetP K (del H a) (del H' a) v r → Q v H'
section
variable {K : PySem.W.Frag} {ta : Ta} {τ τ1 τ2 : Tp} {S S1 S2 H H1 H2 H' : Hp} {ρ : Rho} {σ : L2.St} {v : V} {r : R} {Q : VK}
/-- the stable part behind a call -/
def aft (S H' : Hp) : Hp := fun b => match S b with
  | some o => some o
  | none => match H' b with
    | some (.tup xs) => some (.tup xs)
    | some (.frz o u) => some (.frz o u)
    | _ => none
theorem aft_same : Same S (aft S H') := fun b o e => by unfold aft; rw [e]
theorem aft_sub (h : ∀ b o, S b = some o → H' b = some o) : Same (aft S H') H' := fun b o e => by
  unfold aft at e
  split at e
  · rename_i q; cases e; exact h _ _ q
  · split at e
    · rename_i q; cases e; exact q
    · rename_i q; cases e; exact q
    · cases e
theorem aft_lst {b : Addr} {xs : List V} (n : S b = none) (e : H' b = some (.lst xs)) : aft S H' b = none := by unfold aft; rw [n, e]
theorem aft_tup {a : Addr} {xs : List V} (h : ∀ b o, S b = some o → H' b = some o) (q : SqT K H' a xs) : SqT K (aft S H') a xs := by
  rcases q with (q | ⟨o, q⟩) | q
  · refine .inl (.inl ?_)
    unfold aft
    cases z : S a with
    | some o => have := h _ _ z; rw [q] at this; cases this; rfl
    | none => rw [q]
  · refine .inl (.inr ⟨o, ?_⟩)
    unfold aft
    cases z : S a with
    | some o => have := h _ _ z; rw [q] at this; cases this; rfl
    | none => rw [q]
  · exact .inr q
mutual
theorem aft_rp (h : ∀ b o, S b = some o → H' b = some o) : ∀ (d : D) {v : V}, noList d = true → Rp K H' v d → Rp K (aft S H') v d
  | .none, _, _, q => q
  | .bool _, _, _, q => q
  | .int _, _, _, q => q
  | .str _, _, _, q => q
  | .list _, _, n, _ => by simp [noList] at n
  | .tuple ds, _, n, ⟨p, vs, e1, e2, e3⟩ => ⟨p, vs, e1, aft_tup h e2, aft_rpAll h ds (by simpa [noList] using n) e3⟩
  | .dict _, _, n, _ => by simp [noList] at n
theorem aft_rpAll (h : ∀ b o, S b = some o → H' b = some o) : ∀ (ds : List D) {vs : List V}, noListAll ds = true → RpAll K H' vs ds → RpAll K (aft S H') vs ds
  | [], _, _, q => q
  | d :: ds, _, n, ⟨x, r, e1, e2, e3⟩ => by
    simp only [noListAll, Bool.and_eq_true] at n
    exact ⟨x, r, e1, aft_rp h d n.1 e2, aft_rpAll h ds n.2 e3⟩
end
/-- behind a call -/
theorem after_call (s : Same S H) (t : TpOk K ta S H τ1) (g : ∀ b o, ta.a ≠ some b → H b = some o → H' b = some o) (t2 : ∀ a, ta.a = some a → H' a = some (.lst [.ref ta.b, .int (τ2.pos : Int), .int τ2.cur, .int τ2.seed]) ∧ τ2.cells = τ1.cells)
    (c : clean r = true) (hr : RetP K H H' v r) : ∃ S', Stp K ta τ2 S H S' H' ∧ RV K ta S' H' H v r := by
  have sub : ∀ b o, S b = some o → H' b = some o := fun b o e => g b o (fun z => by have := (t b z).1; rw [e] at this; cases this) (s _ _ e)
  refine ⟨aft S H', ⟨aft_same, aft_sub sub, g, fun b xs n e z => aft_lst z (g _ _ n e), fun a e => ?_⟩, ?_⟩
  · obtain ⟨e1, e2⟩ := t2 a e
    obtain ⟨n, _, q⟩ := t a e
    exact ⟨aft_lst n e1, e1, by rw [e2]; exact aft_same.seq q⟩
  · obtain ⟨k, d⟩ := r
    cases k with
    | S => exact aft_rp sub d c hr
    | B => cases d <;> simp [clean] at c
    | F =>
      obtain ⟨p, ds, vs, e1, e2, e3, e4, e5⟩ := hr
      have e1' : d = .list ds := e1
      subst e1'
      have n : S p = none := by
        cases z : S p with
        | none => rfl
        | some o => have := s _ _ z; rw [e3] at this; cases this
      exact ⟨p, ds, vs, rfl, e2, e4, aft_lst n e4, e3, aft_rpAll sub ds c e5⟩
end

section
variable {X : Cx} {ta : Ta} {Φ : Nat → List D → Option R} {Ψ : Nat → List D → Tp → Option (R × Tp)} {e a b c : Expr} {ca cb cc : E} {pos : Pos}
/-- constants -/
theorem e_const {v : V} {d : D} (h : PE X e (tC v)) (hd : ∀ H, Rp X.K H v d) : PE X e (tE X.K ta Φ Ψ (.cst d)) := PE.weak h fun σ H Q ⟨S, ρ, τ, r, τ', hR, hT, he, hQ⟩ => by
  simp only [ev, Option.some.injEq, Prod.mk.injEq] at he
  obtain ⟨rfl, rfl⟩ := he
  exact hQ v S H (Stp.refl hR.sub hT) (hd S)
theorem getD_some {σ : L2.St} {i : Nat} {v : V} (h : σ[i]?.getD none = some v) : σ[i]? = some (some v) := by
  cases q : σ[i]? with
  | none => rw [q] at h; cases h
  | some o => rw [q] at h; exact congrArg some h
theorem e_var {i : Nat} (h : PE X e (tVar i)) : PE X e (tE X.K ta Φ Ψ (.var i)) := PE.weak h fun σ H Q ⟨S, ρ, τ, r, τ', hR, hT, he, hQ⟩ => by
  simp only [ev] at he
  cases q : ρ[i]? with
  | none => rw [q] at he; cases he
  | some s =>
    rw [q] at he
    have hs := hR.slot i s q
    cases s with
    | un => cases he
    | tp => cases he
    | im d =>
      cases he
      obtain ⟨v, e1, e2⟩ := hs
      exact ⟨v, getD_some e1, hQ v S H (Stp.refl hR.sub hT) e2⟩
    | ow ds =>
      cases he
      obtain ⟨p, vs, e1, e2, e3, e4, e5⟩ := hs
      exact ⟨.ref p, getD_some e1, hQ (.ref p) S H (Stp.refl hR.sub hT) ⟨p, ds, vs, rfl, rfl, e2, e4, e5⟩⟩
/-- two operands, one after the other -/
theorem two_ok {r : R2} {Q : VK} {S H : Hp} {σ : L2.St} {ρ : Rho} {τ : Tp} {x y : R × Tp} (hR : Rel X.K ta ρ S σ H) (hT : TpOk X.K ta S H τ) (hx : ev Φ Ψ ρ τ ca = some x) (hy : ev Φ Ψ ρ x.2 cb = some y)
    (hr : ∀ vx vy S2 H2, Stp X.K ta y.2 S H S2 H2 → UV X.K ta S2 H2 vx x.1 → UV X.K ta S2 H2 vy y.1 → r vx vy H2 Q) : tOp r (tU X.K ta Φ Ψ ca) (tU X.K ta Φ Ψ cb) σ H Q :=
  ⟨S, ρ, τ, x.1, x.2, hR, hT, hx, fun vx S1 H1 st1 u1 => ⟨S1, ρ, x.2, y.1, y.2, hR.step st1, st1.tape, hy, fun vy S2 H2 st2 u2 => hr vx vy S2 H2 (st1.trans st2) (u1.mono st2) u2⟩⟩
theorem bind_some {α β : Type} {o : Option α} {f : α → Option β} {z : β} (h : o.bind f = some z) : ∃ x, o = some x ∧ f x = some z := by
  cases o with
  | none => cases h
  | some x => exact ⟨x, rfl, h⟩
theorem map_some {α β : Type} {o : Option α} {f : α → β} {z : β} (h : o.map f = some z) : ∃ x, o = some x ∧ f x = z := by
  cases o with
  | none => cases h
  | some x => exact ⟨x, rfl, Option.some.inj h⟩
theorem e_bin {op : Bo} (ha : PE X a (tE X.K ta Φ Ψ ca)) (hb : PE X b (tE X.K ta Φ Ψ cb)) : PE X (.BinOp a (boO op) b pos) (tE X.K ta Φ Ψ (.bin op ca cb)) :=
  PE.weak (pe_op (bo_run (ta := ta) op) ha.use hb.use) fun σ H Q ⟨S, ρ, τ, r, τ', hR, hT, he, hQ⟩ => by
    simp only [ev] at he
    obtain ⟨x, hx, he⟩ := bind_some he
    obtain ⟨y, hy, he⟩ := bind_some he
    obtain ⟨z, hz, he⟩ := map_some he
    cases he
    exact two_ok hR hT hx hy fun vx vy S2 H2 st u1 u2 => ⟨S2, y.2, x.1, y.1, _, st.sub, st.tape, u1, u2, hz, Post.later hQ st⟩
theorem one_ok {Q : VK} {S H : Hp} {σ : L2.St} {ρ : Rho} {τ : Tp} {x : R × Tp} (hR : Rel X.K ta ρ S σ H) (hT : TpOk X.K ta S H τ) (hx : ev Φ Ψ ρ τ ca = some x)
    (hr : ∀ vx S2 H2, Stp X.K ta x.2 S H S2 H2 → UV X.K ta S2 H2 vx x.1 → Q vx H2) : tU X.K ta Φ Ψ ca σ H Q := ⟨S, ρ, τ, x.1, x.2, hR, hT, hx, fun vx S1 H1 st u => hr vx S1 H1 st u⟩
theorem intOf_some {d : D} {i : Int} (h : intOf d = some i) : d = .int i := by
  cases d <;> simp [intOf] at h
  rw [h]
theorem e_neg (ha : PE X a (tE X.K ta Φ Ψ ca)) : PE X (.UnaryOp .USub a pos) (tE X.K ta Φ Ψ (.neg ca)) :=
  PE.weak (pe_un un_neg ha.use) fun σ H Q ⟨S, ρ, τ, r, τ', hR, hT, he, hQ⟩ => by
    simp only [ev] at he
    obtain ⟨x, hx, he⟩ := bind_some he
    obtain ⟨i, hi, he⟩ := map_some he
    cases he
    exact one_ok hR hT hx fun vx S2 H2 st u => ⟨i, u.int (intOf_some hi), hQ _ S2 H2 st rfl⟩
theorem cmp_data {op : Co} {σ : L2.St} {H : Hp} {Q : VK} {S : Hp} {ρ : Rho} {τ τ' : Tp} {r : R} (hR : Rel X.K ta ρ S σ H) (hT : TpOk X.K ta S H τ) (he : ev Φ Ψ ρ τ (.cmp op ca cb) = some (r, τ')) (hQ : Post X.K ta S H τ' r Q) :
    tOp (rTwo X.K ta (cmpR op)) (tU X.K ta Φ Ψ ca) (tU X.K ta Φ Ψ cb) σ H Q := by
  simp only [ev] at he
  obtain ⟨x, hx, he⟩ := bind_some he
  obtain ⟨y, hy, he⟩ := bind_some he
  obtain ⟨z, hz, he⟩ := map_some he
  cases he
  exact two_ok hR hT hx hy fun vx vy S2 H2 st u1 u2 => ⟨S2, y.2, x.1, y.1, _, st.sub, st.tape, u1, u2, by unfold cmpR; rw [hz]; rfl, Post.later hQ st⟩
theorem e_cmp {op : Co} (hu : X.A.units + 80 < cLine) (ha : PE X a (tE X.K ta Φ Ψ ca)) (hb : PE X b (tE X.K ta Φ Ψ cb)) (hm : behindInMarks (coO op) b = false) : PE X (.Compare a [coO op] [b] pos) (tE X.K ta Φ Ψ (.cmp op ca cb)) :=
  PE.weak (pe_cmpR (co_run (ta := ta) hu op) ha.use hb.use hm) fun σ H Q ⟨S, ρ, τ, r, τ', hR, hT, he, hQ⟩ => cmp_data hR hT he hQ
/-- a test's answer -/
theorem post_bool {K : PySem.W.Frag} {S H : Hp} {τ : Tp} {r : R} {k : Bool} {Q : Bool → Hp → Prop} (hr : r.d = .bool k) (hQ : ∀ S' H', Stp K ta τ S H S' H' → Q k H') : Post K ta S H τ r fun x H' => ∃ k', x = .bl k' ∧ Q k' H' := fun v S' H' st rv => by
  obtain ⟨kd, d⟩ := r
  have e : d = .bool k := hr
  subst e
  cases kd with
  | S => exact ⟨k, rv, hQ S' H' st⟩
  | B => obtain ⟨p, ds, vs, e1, _⟩ := rv; cases e1
  | F => obtain ⟨p, ds, vs, e1, _⟩ := rv; cases e1
theorem t_cmp {op : Co} (hu : X.A.units + 80 < cLine) (ha : PE X a (tE X.K ta Φ Ψ ca)) (hb : PE X b (tE X.K ta Φ Ψ cb)) (hm : behindInMarks (coO op) b = false) : PT X (.Compare a [coO op] [b] pos) (tT X.K ta Φ Ψ (.cmp op ca cb)) :=
  PT.weak (pt_cmpR (co_run (ta := ta) hu op) ha.use hb.use hm) fun σ H Q ⟨S, ρ, τ, r, τ', k, hR, hT, he, hr, hQ⟩ => cmp_data hR hT he (post_bool hr hQ)
/-- any expression as a test -/
theorem t_val (h : PE X e (tE X.K ta Φ Ψ ca)) (he : ∀ whole, isTrue e X.env whole = (do let v ← whole; standAt e.pos; holding [v] (truthy v))) : PT X e (tT X.K ta Φ Ψ ca) :=
  PT.weak (pt_val h he) fun σ H Q ⟨S, ρ, τ, r, τ', k, hR, hT, hv, hr, hQ⟩ => ⟨S, ρ, τ, r, τ', hR, hT, hv, post_bool hr hQ⟩
theorem chn_data {o1 o2 : Co} {σ : L2.St} {H : Hp} {Q : VK} {S : Hp} {ρ : Rho} {τ τ' : Tp} {r : R} (hR : Rel X.K ta ρ S σ H) (hT : TpOk X.K ta S H τ) (he : ev Φ Ψ ρ τ (.chn o1 o2 ca cb cc) = some (r, τ')) (hQ : Post X.K ta S H τ' r Q) :
    tChain (rTwo X.K ta (cmpR o1)) (rTwo X.K ta (cmpR o2)) (tU X.K ta Φ Ψ ca) (tU X.K ta Φ Ψ cb) (tU X.K ta Φ Ψ cc) σ H Q := by
  simp only [ev] at he
  obtain ⟨x, hx, he⟩ := bind_some he
  obtain ⟨y, hy, he⟩ := bind_some he
  obtain ⟨k, hk, he⟩ := bind_some he
  refine ⟨S, ρ, τ, x.1, x.2, hR, hT, hx, fun vx S1 H1 st1 u1 => ⟨S1, ρ, x.2, y.1, y.2, hR.step st1, st1.tape, hy, fun vy S2 H2 st2 u2 => ?_⟩⟩
  refine ⟨S2, y.2, x.1, y.1, ⟨.S, .bool k⟩, st2.sub, st2.tape, u1.mono st2, u2, by unfold cmpR; rw [hk]; rfl, ?_⟩
  refine post_bool (Q := fun k H3 => if k = true then _ else _) rfl fun S3 H3 st3 => ?_
  have st := (st1.trans st2).trans st3
  cases k with
  | true =>
    rw [if_pos rfl] at he
    obtain ⟨z, hz, he⟩ := bind_some he
    obtain ⟨q, hq, he⟩ := map_some he
    cases he
    refine iteT ⟨S3, ρ, y.2, z.1, z.2, (hR.step st), st.tape, hz, fun vz S4 H4 st4 u4 => ⟨S4, z.2, y.1, z.1, _, st4.sub, st4.tape, (u2.mono st3).mono st4, u4, by unfold cmpR; rw [hq]; rfl, Post.later hQ (st.trans st4)⟩⟩
  | false =>
    rw [if_neg Bool.false_ne_true] at he
    cases he
    exact iteF (hQ _ S3 H3 st rfl)
theorem e_chn {o1 o2 : Co} (hu : X.A.units + 80 < cLine) (ha : PE X a (tE X.K ta Φ Ψ ca)) (hb : PE X b (tE X.K ta Φ Ψ cb)) (hc : PE X c (tE X.K ta Φ Ψ cc)) (hm : lastMarks [coO o1, coO o2] [b, c] = false) : PE X (.Compare a [coO o1, coO o2] [b, c] pos) (tE X.K ta Φ Ψ (.chn o1 o2 ca cb cc)) :=
  PE.weak (pe_chain (co_run (ta := ta) hu o1) (co_run (ta := ta) hu o2) ha.use hb.use hc.use hm) fun σ H Q ⟨S, ρ, τ, r, τ', hR, hT, he, hQ⟩ => chn_data hR hT he hQ
theorem t_chn {o1 o2 : Co} (hu : X.A.units + 80 < cLine) (ha : PE X a (tE X.K ta Φ Ψ ca)) (hb : PE X b (tE X.K ta Φ Ψ cb)) (hc : PE X c (tE X.K ta Φ Ψ cc)) (hm : lastMarks [coO o1, coO o2] [b, c] = false) : PT X (.Compare a [coO o1, coO o2] [b, c] pos) (tT X.K ta Φ Ψ (.chn o1 o2 ca cb cc)) :=
  PT.weak (pt_chain (co_run (ta := ta) hu o1) (co_run (ta := ta) hu o2) ha.use hb.use hc.use hm) fun σ H Q ⟨S, ρ, τ, r, τ', k, hR, hT, he, hr, hQ⟩ => chn_data hR hT he (post_bool hr hQ)
/-- is None -/
theorem non_iff {K : PySem.W.Frag} {S1 H1 : Hp} {v : V} {r : R} (u : UV K ta S1 H1 v r) : decide (v = .non) = nonD r.d := by
  obtain ⟨k, d⟩ := r
  have go : Rp K S1 v d → decide (v = .non) = nonD d := fun h => by
    cases d with
    | none => have h' : v = .non := h; subst h'; rfl
    | bool b => have h' : v = .bl b := h; subst h'; rfl
    | int b => have h' : v = .int b := h; subst h'; rfl
    | str b => have h' : v = .str b := h; subst h'; rfl
    | list ds => obtain ⟨p, vs, e1, _⟩ := h; subst e1; rfl
    | tuple ds => obtain ⟨p, vs, e1, _⟩ := h; subst e1; rfl
    | dict _ => exact h.elim
  cases k with
  | S => exact go u
  | F => exact go u
  | B =>
    obtain ⟨p, ds, vs, e1, e2, _⟩ := u
    have e1' : d = .list ds := e1
    subst e1' e2
    rfl
theorem isN_data {σ : L2.St} {H : Hp} {Q : VK} {S : Hp} {ρ : Rho} {τ τ' : Tp} {r : R} (hR : Rel X.K ta ρ S σ H) (hT : TpOk X.K ta S H τ) (he : ev Φ Ψ ρ τ (.isN ca) = some (r, τ')) (hQ : Post X.K ta S H τ' r Q) : tIsN (tU X.K ta Φ Ψ ca) σ H Q := by
  simp only [ev] at he
  obtain ⟨x, hx, he⟩ := map_some he
  cases he
  refine one_ok hR hT hx fun vx S2 H2 st u => hQ _ S2 H2 st ?_
  show V.bl _ = V.bl _
  rw [non_iff u]
theorem notN_data {σ : L2.St} {H : Hp} {Q : VK} {S : Hp} {ρ : Rho} {τ τ' : Tp} {r : R} (hR : Rel X.K ta ρ S σ H) (hT : TpOk X.K ta S H τ) (he : ev Φ Ψ ρ τ (.notN ca) = some (r, τ')) (hQ : Post X.K ta S H τ' r Q) : tNotN (tU X.K ta Φ Ψ ca) σ H Q := by
  simp only [ev] at he
  obtain ⟨x, hx, he⟩ := map_some he
  cases he
  refine one_ok hR hT hx fun vx S2 H2 st u => hQ _ S2 H2 st ?_
  show V.bl _ = V.bl _
  rw [non_iff u]
theorem e_isN {j pos'} (ha : PE X a (tE X.K ta Φ Ψ ca)) : PE X (.Compare a [.Is] [.Constant .none j pos'] pos) (tE X.K ta Φ Ψ (.isN ca)) := PE.weak (pe_cmp (pc_isN ha.use) rfl) fun σ H Q ⟨S, ρ, τ, r, τ', hR, hT, he, hQ⟩ => isN_data hR hT he hQ
theorem e_notN {j pos'} (ha : PE X a (tE X.K ta Φ Ψ ca)) : PE X (.Compare a [.IsNot] [.Constant .none j pos'] pos) (tE X.K ta Φ Ψ (.notN ca)) := PE.weak (pe_cmp (pc_notN ha.use) rfl) fun σ H Q ⟨S, ρ, τ, r, τ', hR, hT, he, hQ⟩ => notN_data hR hT he hQ
theorem t_isN {j pos'} (ha : PE X a (tE X.K ta Φ Ψ ca)) : PT X (.Compare a [.Is] [.Constant .none j pos'] pos) (tT X.K ta Φ Ψ (.isN ca)) := PT.weak (pt_cmp (pc_isN ha.use) rfl) fun σ H Q ⟨S, ρ, τ, r, τ', k, hR, hT, he, hr, hQ⟩ => isN_data hR hT he (post_bool hr hQ)
theorem t_notN {j pos'} (ha : PE X a (tE X.K ta Φ Ψ ca)) : PT X (.Compare a [.IsNot] [.Constant .none j pos'] pos) (tT X.K ta Φ Ψ (.notN ca)) := PT.weak (pt_cmp (pc_notN ha.use) rfl) fun σ H Q ⟨S, ρ, τ, r, τ', k, hR, hT, he, hr, hQ⟩ => notN_data hR hT he (post_bool hr hQ)
/-- is True -/
theorem isB_data {σ : L2.St} {H : Hp} {Q : VK} {S : Hp} {ρ : Rho} {τ τ' : Tp} {r : R} (hR : Rel X.K ta ρ S σ H) (hT : TpOk X.K ta S H τ) (he : ev Φ Ψ ρ τ (.isB ca cb) = some (r, τ')) (hQ : Post X.K ta S H τ' r Q) : tOp rIsB (tU X.K ta Φ Ψ ca) (tU X.K ta Φ Ψ cb) σ H Q := by
  simp only [ev] at he
  obtain ⟨x, hx, he⟩ := bind_some he
  obtain ⟨y, hy, he⟩ := bind_some he
  split at he
  · rename_i i j q1 q2
    cases he
    refine two_ok hR hT hx hy fun vx vy S2 H2 st u1 u2 => ⟨i, j, u1.bool q1, u2.bool q2, hQ _ S2 H2 st ?_⟩
    show V.bl _ = V.bl _
    cases i <;> cases j <;> rfl
  · cases he
theorem notB_data {σ : L2.St} {H : Hp} {Q : VK} {S : Hp} {ρ : Rho} {τ τ' : Tp} {r : R} (hR : Rel X.K ta ρ S σ H) (hT : TpOk X.K ta S H τ) (he : ev Φ Ψ ρ τ (.notB ca cb) = some (r, τ')) (hQ : Post X.K ta S H τ' r Q) : tOp rNotB (tU X.K ta Φ Ψ ca) (tU X.K ta Φ Ψ cb) σ H Q := by
  simp only [ev] at he
  obtain ⟨x, hx, he⟩ := bind_some he
  obtain ⟨y, hy, he⟩ := bind_some he
  split at he
  · rename_i i j q1 q2
    cases he
    refine two_ok hR hT hx hy fun vx vy S2 H2 st u1 u2 => ⟨i, j, u1.bool q1, u2.bool q2, hQ _ S2 H2 st ?_⟩
    show V.bl _ = V.bl _
    cases i <;> cases j <;> rfl
  · cases he
theorem e_isB (ha : PE X a (tE X.K ta Φ Ψ ca)) (hb : PE X b (tE X.K ta Φ Ψ cb)) (hm : behindInMarks .Is b = false) : PE X (.Compare a [.Is] [b] pos) (tE X.K ta Φ Ψ (.isB ca cb)) := PE.weak (pe_cmpR op_isBl ha.use hb.use hm) fun σ H Q ⟨S, ρ, τ, r, τ', hR, hT, he, hQ⟩ => isB_data hR hT he hQ
theorem e_notB (ha : PE X a (tE X.K ta Φ Ψ ca)) (hb : PE X b (tE X.K ta Φ Ψ cb)) (hm : behindInMarks .IsNot b = false) : PE X (.Compare a [.IsNot] [b] pos) (tE X.K ta Φ Ψ (.notB ca cb)) := PE.weak (pe_cmpR op_notBl ha.use hb.use hm) fun σ H Q ⟨S, ρ, τ, r, τ', hR, hT, he, hQ⟩ => notB_data hR hT he hQ
theorem t_isB (ha : PE X a (tE X.K ta Φ Ψ ca)) (hb : PE X b (tE X.K ta Φ Ψ cb)) (hm : behindInMarks .Is b = false) : PT X (.Compare a [.Is] [b] pos) (tT X.K ta Φ Ψ (.isB ca cb)) := PT.weak (pt_cmpR op_isBl ha.use hb.use hm) fun σ H Q ⟨S, ρ, τ, r, τ', k, hR, hT, he, hr, hQ⟩ => isB_data hR hT he (post_bool hr hQ)
theorem t_notB (ha : PE X a (tE X.K ta Φ Ψ ca)) (hb : PE X b (tE X.K ta Φ Ψ cb)) (hm : behindInMarks .IsNot b = false) : PT X (.Compare a [.IsNot] [b] pos) (tT X.K ta Φ Ψ (.notB ca cb)) := PT.weak (pt_cmpR op_notBl ha.use hb.use hm) fun σ H Q ⟨S, ρ, τ, r, τ', k, hR, hT, he, hr, hQ⟩ => notB_data hR hT he (post_bool hr hQ)
/-- and, or, not, if else: as tests, as values -/
theorem con_cases {σ : L2.St} {H S : Hp} {ρ : Rho} {τ τ' : Tp} {r : R} (he : ev Φ Ψ ρ τ (.con ca cb) = some (r, τ')) : ∃ x k, ev Φ Ψ ρ τ ca = some x ∧ x.1.d = .bool k ∧ (k = false → r = ⟨.S, .bool false⟩ ∧ τ' = x.2) ∧ (k = true → ∃ y j, ev Φ Ψ ρ x.2 cb = some (y, τ') ∧ y.d = .bool j ∧ r = ⟨.S, .bool j⟩) := by
  simp only [ev] at he
  obtain ⟨x, hx, he⟩ := bind_some he
  split at he
  · rename_i q
    obtain ⟨y, hy, he⟩ := bind_some he
    split at he
    · rename_i j q2
      cases he
      exact ⟨x, true, hx, q, (fun z => nomatch z), fun _ => ⟨y.1, j, hy, q2, rfl⟩⟩
    · cases he
  · rename_i q
    cases he
    exact ⟨x, false, hx, q, fun _ => ⟨rfl, rfl⟩, (fun z => nomatch z)⟩
  · cases he
theorem dis_cases {σ : L2.St} {H S : Hp} {ρ : Rho} {τ τ' : Tp} {r : R} (he : ev Φ Ψ ρ τ (.dis ca cb) = some (r, τ')) : ∃ x k, ev Φ Ψ ρ τ ca = some x ∧ x.1.d = .bool k ∧ (k = true → r = ⟨.S, .bool true⟩ ∧ τ' = x.2) ∧ (k = false → ∃ y j, ev Φ Ψ ρ x.2 cb = some (y, τ') ∧ y.d = .bool j ∧ r = ⟨.S, .bool j⟩) := by
  simp only [ev] at he
  obtain ⟨x, hx, he⟩ := bind_some he
  split at he
  · rename_i q
    obtain ⟨y, hy, he⟩ := bind_some he
    split at he
    · rename_i j q2
      cases he
      exact ⟨x, false, hx, q, (fun z => nomatch z), fun _ => ⟨y.1, j, hy, q2, rfl⟩⟩
    · cases he
  · rename_i q
    cases he
    exact ⟨x, true, hx, q, fun _ => ⟨rfl, rfl⟩, (fun z => nomatch z)⟩
  · cases he
theorem w_con {rest : List Expr} (ha : PT X a (tT X.K ta Φ Ψ ca)) (hb : PW X (.BoolOp .And (b :: rest) pos) (tT X.K ta Φ Ψ cb)) : PW X (.BoolOp .And (a :: b :: rest) pos) (tT X.K ta Φ Ψ (.con ca cb)) :=
  PW.weak (pw_and ha hb) fun σ H Q ⟨S, ρ, τ, r, τ', k0, hR, hT, he, hr, hQ⟩ => by
    obtain ⟨x, k, hx, q, h0, h1⟩ := con_cases (σ := σ) (H := H) (S := S) he
    refine ⟨S, ρ, τ, x.1, x.2, k, hR, hT, hx, q, fun S1 H1 st => ?_⟩
    cases k with
    | false =>
      obtain ⟨rfl, rfl⟩ := h0 rfl
      cases hr
      exact iteF (hQ S1 H1 st)
    | true =>
      obtain ⟨y, j, hy, q2, rfl⟩ := h1 rfl
      cases hr
      exact iteT ⟨S1, ρ, x.2, y, τ', _, hR.step st, st.tape, hy, q2, fun S2 H2 st2 => hQ S2 H2 (st.trans st2)⟩
theorem w_dis {rest : List Expr} (ha : PT X a (tT X.K ta Φ Ψ ca)) (hb : PW X (.BoolOp .Or (b :: rest) pos) (tT X.K ta Φ Ψ cb)) : PW X (.BoolOp .Or (a :: b :: rest) pos) (tT X.K ta Φ Ψ (.dis ca cb)) :=
  PW.weak (pw_or ha hb) fun σ H Q ⟨S, ρ, τ, r, τ', k0, hR, hT, he, hr, hQ⟩ => by
    obtain ⟨x, k, hx, q, h0, h1⟩ := dis_cases (σ := σ) (H := H) (S := S) he
    refine ⟨S, ρ, τ, x.1, x.2, k, hR, hT, hx, q, fun S1 H1 st => ?_⟩
    cases k with
    | true =>
      obtain ⟨rfl, rfl⟩ := h0 rfl
      cases hr
      exact iteT (hQ S1 H1 st)
    | false =>
      obtain ⟨y, j, hy, q2, rfl⟩ := h1 rfl
      cases hr
      exact iteF ⟨S1, ρ, x.2, y, τ', _, hR.step st, st.tape, hy, q2, fun S2 H2 st2 => hQ S2 H2 (st.trans st2)⟩
theorem tE_of {σ : L2.St} {H S : Hp} {ρ : Rho} {τ τ' : Tp} {y : R} {j : Bool} {Q : VK} (hR : Rel X.K ta ρ S σ H) (hT : TpOk X.K ta S H τ) (hy : ev Φ Ψ ρ τ cb = some (y, τ')) (q2 : y.d = .bool j) (hQ : ∀ S2 H2, Stp X.K ta τ' S H S2 H2 → Q (.bl j) H2) : (tE X.K ta Φ Ψ cb) σ H Q :=
  ⟨S, ρ, τ, y, τ', hR, hT, hy, fun v S2 H2 st rv => by
    obtain ⟨k', e1, e2⟩ := post_bool (Q := fun k H' => k = j → Q (.bl k) H') q2 (fun S' H' st' _ => hQ S' H' st') v S2 H2 st rv
    have : k' = j := by
      obtain ⟨kd, d⟩ := y
      have e : d = .bool j := q2
      subst e
      cases kd with
      | S => have e3 : v = .bl j := rv; rw [e3] at e1; cases e1; rfl
      | B => obtain ⟨p, ds, vs, z, _⟩ := rv; cases z
      | F => obtain ⟨p, ds, vs, z, _⟩ := rv; cases z
    subst this
    rw [e1]
    exact e2 rfl⟩
theorem e_con {rest : List Expr} (ha : PE X a (tE X.K ta Φ Ψ ca)) (hb : PE X (.BoolOp .And (b :: rest) pos) (tE X.K ta Φ Ψ cb)) : PE X (.BoolOp .And (a :: b :: rest) pos) (tE X.K ta Φ Ψ (.con ca cb)) :=
  PE.weak (pe_and ha hb) fun σ H Q ⟨S, ρ, τ, r, τ', hR, hT, he, hQ⟩ => by
    obtain ⟨x, k, hx, q, h0, h1⟩ := con_cases (σ := σ) (H := H) (S := S) he
    refine tE_of hR hT hx q fun S1 H1 st => ⟨k, rfl, ?_⟩
    cases k with
    | false =>
      obtain ⟨rfl, rfl⟩ := h0 rfl
      exact iteF (hQ _ S1 H1 st rfl)
    | true =>
      obtain ⟨y, j, hy, q2, rfl⟩ := h1 rfl
      exact iteT (tE_of (hR.step st) st.tape hy q2 fun S2 H2 st2 => hQ _ S2 H2 (st.trans st2) rfl)
theorem e_dis {rest : List Expr} (ha : PE X a (tE X.K ta Φ Ψ ca)) (hb : PE X (.BoolOp .Or (b :: rest) pos) (tE X.K ta Φ Ψ cb)) : PE X (.BoolOp .Or (a :: b :: rest) pos) (tE X.K ta Φ Ψ (.dis ca cb)) :=
  PE.weak (pe_or ha hb) fun σ H Q ⟨S, ρ, τ, r, τ', hR, hT, he, hQ⟩ => by
    obtain ⟨x, k, hx, q, h0, h1⟩ := dis_cases (σ := σ) (H := H) (S := S) he
    refine tE_of hR hT hx q fun S1 H1 st => ⟨k, rfl, ?_⟩
    cases k with
    | true =>
      obtain ⟨rfl, rfl⟩ := h0 rfl
      exact iteT (hQ _ S1 H1 st rfl)
    | false =>
      obtain ⟨y, j, hy, q2, rfl⟩ := h1 rfl
      exact iteF (tE_of (hR.step st) st.tape hy q2 fun S2 H2 st2 => hQ _ S2 H2 (st.trans st2) rfl)
theorem inv_cases {ρ : Rho} {τ τ' : Tp} {r : R} (he : ev Φ Ψ ρ τ (.inv ca) = some (r, τ')) : ∃ x k, ev Φ Ψ ρ τ ca = some (x, τ') ∧ x.d = .bool k ∧ r = ⟨.S, .bool (!k)⟩ := by
  simp only [ev] at he
  obtain ⟨x, hx, he⟩ := bind_some he
  split at he
  · rename_i k q
    cases he
    exact ⟨x.1, k, hx, q, rfl⟩
  · cases he
theorem t_inv (ha : PT X a (tT X.K ta Φ Ψ ca)) : PT X (.UnaryOp .Not a pos) (tT X.K ta Φ Ψ (.inv ca)) :=
  PT.weak (pt_not ha) fun σ H Q ⟨S, ρ, τ, r, τ', k0, hR, hT, he, hr, hQ⟩ => by
    obtain ⟨x, k, hx, q, rfl⟩ := inv_cases he
    cases hr
    exact ⟨S, ρ, τ, x, τ', k, hR, hT, hx, q, hQ⟩
theorem e_inv (ha : PE X a (tE X.K ta Φ Ψ ca)) : PE X (.UnaryOp .Not a pos) (tE X.K ta Φ Ψ (.inv ca)) :=
  PE.weak (pe_not ha) fun σ H Q ⟨S, ρ, τ, r, τ', hR, hT, he, hQ⟩ => by
    obtain ⟨x, k, hx, q, rfl⟩ := inv_cases he
    exact tE_of hR hT hx q fun S1 H1 st => ⟨k, rfl, hQ _ S1 H1 st rfl⟩
theorem e_ite (hc : PT X c (tT X.K ta Φ Ψ cc)) (ha : PE X a (tE X.K ta Φ Ψ ca)) (hb : PE X b (tE X.K ta Φ Ψ cb)) : PE X (.IfExp c a b pos) (tE X.K ta Φ Ψ (.ite cc ca cb)) :=
  PE.weak (pe_ifExp hc ha hb) fun σ H Q ⟨S, ρ, τ, r, τ', hR, hT, he, hQ⟩ => by
    simp only [ev] at he
    obtain ⟨x, hx, he⟩ := bind_some he
    split at he
    · rename_i q
      exact ⟨S, ρ, τ, x.1, x.2, true, hR, hT, hx, q, fun S1 H1 st => iteT ⟨S1, ρ, x.2, r, τ', hR.step st, st.tape, he, Post.later hQ st⟩⟩
    · rename_i q
      exact ⟨S, ρ, τ, x.1, x.2, false, hR, hT, hx, q, fun S1 H1 st => iteF ⟨S1, ρ, x.2, r, τ', hR.step st, st.tape, he, Post.later hQ st⟩⟩
    · cases he
/-- arguments -/
theorem as_nil : PA X [] (tAs X.K ta Φ Ψ []) := PA.weak pa_nil fun σ H Q ⟨S, ρ, τ, rs, τ', hR, hT, he, hQ⟩ => by
  simp only [evs, Option.some.injEq, Prod.mk.injEq] at he
  obtain ⟨rfl, rfl⟩ := he
  exact hQ [] S H (Stp.refl hR.sub hT) trivial
theorem as_cons {es : List Expr} {cs : List E} (ha : PE X e (tE X.K ta Φ Ψ ca)) (hr : PA X es (tAs X.K ta Φ Ψ cs)) (hs : starEach (e :: es) X.env = (false, eval e X.env) :: starEach es X.env) : PA X (e :: es) (tAs X.K ta Φ Ψ (ca :: cs)) :=
  PA.weak (pa_cons ha.use hr hs) fun σ H Q ⟨S, ρ, τ, rs, τ', hR, hT, he, hQ⟩ => by
    simp only [evs] at he
    obtain ⟨x, hx, he⟩ := bind_some he
    obtain ⟨y, hy, he⟩ := map_some he
    cases he
    exact one_ok hR hT hx fun vx S1 H1 st1 u1 => ⟨S1, ρ, x.2, y.1, y.2, hR.step st1, st1.tape, hy, fun vs S2 H2 st2 u2 => hQ _ S2 H2 (st1.trans st2) ⟨u1.mono st2, u2⟩⟩
theorem e_tup {es : List Expr} {cs : List E} {x1 : Nat} (h : PA X es (tAs X.K ta Φ Ψ cs)) : PE X (.Tuple es x1 pos) (tE X.K ta Φ Ψ (.tup cs)) :=
  PE.weak (pe_tup h) fun σ H Q ⟨S, ρ, τ, r, τ', hR, hT, he, hQ⟩ => by
    simp only [ev] at he
    obtain ⟨x, hx, he⟩ := bind_some he
    obtain ⟨ds, hd, he⟩ := bind_some he
    split at he
    · rename_i hc
      cases he
      refine ⟨S, ρ, τ, x.1, x.2, hR, hT, hx, fun vs S1 H1 st u => ?_⟩
      have hall := u.st hd
      refine ⟨len_of (by rw [hall.length]; exact of_decide_eq_true hc), fun p n => (Post.later hQ st).tup st.sub st.tape hall n⟩
    · cases he
theorem e_lst {es : List Expr} {cs : List E} (h : PA X es (tAs X.K ta Φ Ψ cs)) : PE X (.List es pos) (tE X.K ta Φ Ψ (.lst cs)) :=
  PE.weak (pe_lst h) fun σ H Q ⟨S, ρ, τ, r, τ', hR, hT, he, hQ⟩ => by
    simp only [ev] at he
    obtain ⟨x, hx, he⟩ := bind_some he
    obtain ⟨ds, hd, he⟩ := bind_some he
    split at he
    · rename_i hc
      cases he
      refine ⟨S, ρ, τ, x.1, x.2, hR, hT, hx, fun vs S1 H1 st u => ?_⟩
      have hall := u.st hd
      refine ⟨len_of (by rw [hall.length]; exact of_decide_eq_true hc), fun p n => (Post.later hQ st).lst st.sub st.tape hall n⟩
    · cases he
/-- subscripts, slices -/
theorem atI_len {α β : Type} {xs : List α} {ys : List β} {i : Int} {x : α} (h : xs.length = ys.length) (e : atI xs i = some x) : ∃ j, ixN ys.length i = some j ∧ xs[j]? = some x := by
  unfold atI at e
  rw [h] at e
  obtain ⟨j, h1, h2⟩ := bind_some e
  exact ⟨j, h1, h2⟩
theorem atD_rp {K : PySem.W.Frag} {H : Hp} {vs : List V} {ds : List D} {i : Int} {d : D} (h : RpAll K H vs ds) (e : atD ds i = some d) : ∃ v, atI vs i = some v ∧ Rp K H v d := by
  obtain ⟨j, h1, h2⟩ := atI_len (h.length).symm e
  obtain ⟨v, h3, h4⟩ := h.get h2
  exact ⟨v, by unfold atI; rw [h1]; exact h3, h4⟩
theorem e_idx (ha : PE X a (tE X.K ta Φ Ψ ca)) (hb : PE X b (tE X.K ta Φ Ψ cb)) (hs : PlainIx b) : PE X (.Subscript a b pos) (tE X.K ta Φ Ψ (.idx ca cb)) :=
  PE.weak (pe_ix ix_seq ha.use hb.use hs) fun σ H Q ⟨S, ρ, τ, r, τ', hR, hT, he, hQ⟩ => by
    simp only [ev] at he
    obtain ⟨x, hx, he⟩ := bind_some he
    obtain ⟨y, hy, he⟩ := bind_some he
    obtain ⟨z, hz, he⟩ := map_some he
    cases he
    refine two_ok hR hT hx hy fun vx vy S2 H2 st u1 u2 => ?_
    have p := Post.later hQ st
    cases q1 : x.1.d <;> cases q2 : y.1.d <;> rw [q1, q2] at hz <;> simp only [idxD] at hz <;> first | cases hz | skip
    · obtain ⟨d, hd, hz⟩ := map_some hz
      cases hz
      obtain ⟨q, vs, rfl, e2, e3⟩ := u1.lst st.sub q1
      obtain ⟨v, e4, e5⟩ := atD_rp e3 hd
      exact .inl ⟨q, vs, _, v, rfl, u2.int q2, SqL.of e2, e4, p.here st.sub st.tape e5⟩
    · obtain ⟨d, hd, hz⟩ := map_some hz
      cases hz
      obtain ⟨q, vs, rfl, e2, e3⟩ := u1.tup q1
      obtain ⟨v, e4, e5⟩ := atD_rp e3 hd
      exact .inr (.inl ⟨q, vs, _, v, rfl, u2.int q2, Same.seqT st.sub e2, e4, p.here st.sub st.tape e5⟩)
theorem cut_rp {K : PySem.W.Frag} {H : Hp} {vs : List V} {ds : List D} (h : RpAll K H vs ds) (lo hi : Option Int) : RpAll K H (cutV vs lo hi) (cutD ds lo hi) := by
  unfold cutV cutD
  rw [h.length]
  exact RpAll.take _ (RpAll.drop _ h)
theorem cut_all {ds : List D} {lo hi : Option Int} (h1 : HT.sIx ds.length 0 lo = 0) (h2 : HT.sIx ds.length ds.length hi = ds.length) : cutD ds lo hi = ds := by
  unfold cutD
  rw [h1, h2]
  simp
/-- a slice of a tuple or a list, by values -/
theorem slc_run : SlR X (fun x lo hi H Q => ∃ S τ r1 r, Same S H ∧ TpOk X.K ta S H τ ∧ UV X.K ta S H x r1 ∧ slcD r1.d lo hi = some r ∧ Post X.K ta S H τ r Q) := by
  intro pins s σ H x v vl vu lo hi sl Q I rx h1 h2 h3 ⟨S, τ, r1, r, hs, ht, u, e, p⟩
  unfold slcD at e
  split at e
  · rename_i ds q
    cases e
    obtain ⟨a, vs, rfl, e2, e3⟩ := u.tup q
    refine sl_tupA pins s σ H _ v vl vu lo hi sl Q I rx h1 h2 h3 ⟨a, vs, rfl, Same.seqT hs e2, fun z => ?_, fun z q n => p.tup hs ht (cut_rp e3 lo hi) n⟩
    rw [e3.length] at z
    rw [cut_all z.1 z.2] at p
    exact p.here hs ht ⟨a, vs, rfl, e2, e3⟩
  · rename_i ds q
    cases e
    obtain ⟨a, vs, rfl, e2, e3⟩ := u.lst hs q
    exact sl_list pins s σ H _ v vl vu lo hi sl Q I rx h1 h2 h3 ⟨a, vs, rfl, SqL.of e2, fun q n => p.lst hs ht (cut_rp e3 lo hi) n⟩
  · cases e
theorem e_slc {p2 : Pos} (ha : PE X a (tE X.K ta Φ Ψ ca)) (hb : PE X b (tE X.K ta Φ Ψ cb)) (hc : PE X c (tE X.K ta Φ Ψ cc)) : PE X (.Subscript a (.Slice (some b) (some c) none p2) pos) (tE X.K ta Φ Ψ (.slc ca cb cc)) :=
  PE.weak (pe_slice (slc_run (ta := ta)) ha.use (po_some hb.use) (po_some hc.use)) fun σ H Q ⟨S, ρ, τ, r, τ', hR, hT, he, hQ⟩ => by
    simp only [ev] at he
    obtain ⟨x, hx, he⟩ := bind_some he
    obtain ⟨y, hy, he⟩ := bind_some he
    obtain ⟨z, hz, he⟩ := bind_some he
    obtain ⟨i, hi, he⟩ := bind_some he
    obtain ⟨j, hj, he⟩ := bind_some he
    obtain ⟨w, hw, he⟩ := map_some he
    cases he
    refine one_ok hR hT hx fun vx S1 H1 st1 u1 => one_ok (hR.step st1) st1.tape hy fun vy S2 H2 st2 u2 => ⟨i, u2.int (intOf_some hi), ?_⟩
    refine one_ok (hR.step (st1.trans st2)) st2.tape hz fun vz S3 H3 st3 u3 => ⟨j, u3.int (intOf_some hj), ?_⟩
    exact ⟨S3, z.2, x.1, _, st3.sub, st3.tape, (u1.mono st2).mono st3, hw, Post.later hQ ((st1.trans st2).trans st3)⟩
theorem e_slcL {p2 : Pos} (ha : PE X a (tE X.K ta Φ Ψ ca)) (hb : PE X b (tE X.K ta Φ Ψ cb)) : PE X (.Subscript a (.Slice (some b) none none p2) pos) (tE X.K ta Φ Ψ (.slcL ca cb)) :=
  PE.weak (pe_slice (slc_run (ta := ta)) ha.use (po_some hb.use) po_none) fun σ H Q ⟨S, ρ, τ, r, τ', hR, hT, he, hQ⟩ => by
    simp only [ev] at he
    obtain ⟨x, hx, he⟩ := bind_some he
    obtain ⟨y, hy, he⟩ := bind_some he
    obtain ⟨i, hi, he⟩ := bind_some he
    obtain ⟨w, hw, he⟩ := map_some he
    cases he
    refine one_ok hR hT hx fun vx S1 H1 st1 u1 => one_ok (hR.step st1) st1.tape hy fun vy S2 H2 st2 u2 => ⟨i, u2.int (intOf_some hi), ?_⟩
    exact ⟨S2, y.2, x.1, _, st2.sub, st2.tape, u1.mono st2, hw, Post.later hQ (st1.trans st2)⟩
theorem e_slcH {p2 : Pos} (ha : PE X a (tE X.K ta Φ Ψ ca)) (hc : PE X c (tE X.K ta Φ Ψ cc)) : PE X (.Subscript a (.Slice none (some c) none p2) pos) (tE X.K ta Φ Ψ (.slcH ca cc)) :=
  PE.weak (pe_slice (slc_run (ta := ta)) ha.use po_none (po_some hc.use)) fun σ H Q ⟨S, ρ, τ, r, τ', hR, hT, he, hQ⟩ => by
    simp only [ev] at he
    obtain ⟨x, hx, he⟩ := bind_some he
    obtain ⟨y, hy, he⟩ := bind_some he
    obtain ⟨i, hi, he⟩ := bind_some he
    obtain ⟨w, hw, he⟩ := map_some he
    cases he
    refine one_ok hR hT hx fun vx S1 H1 st1 u1 => one_ok (hR.step st1) st1.tape hy fun vy S2 H2 st2 u2 => ⟨i, u2.int (intOf_some hi), ?_⟩
    exact ⟨S2, y.2, x.1, _, st2.sub, st2.tape, u1.mono st2, hw, Post.later hQ (st1.trans st2)⟩
theorem e_slcA {p2 : Pos} (ha : PE X a (tE X.K ta Φ Ψ ca)) : PE X (.Subscript a (.Slice none none none p2) pos) (tE X.K ta Φ Ψ (.slcA ca)) :=
  PE.weak (pe_slice (slc_run (ta := ta)) ha.use po_none po_none) fun σ H Q ⟨S, ρ, τ, r, τ', hR, hT, he, hQ⟩ => by
    simp only [ev] at he
    obtain ⟨x, hx, he⟩ := bind_some he
    obtain ⟨w, hw, he⟩ := map_some he
    cases he
    exact one_ok hR hT hx fun vx S1 H1 st1 u1 => ⟨S1, x.2, x.1, _, st1.sub, st1.tape, u1, hw, Post.later hQ st1⟩
theorem e_rev {k : Nat} {p1 p2 p3 : Pos} (ha : PE X a (tE X.K ta Φ Ψ ca)) : PE X (.Subscript a (.Slice none none (some (.UnaryOp .USub (.Constant (.int 1) k p1) p2)) p3) pos) (tE X.K ta Φ Ψ (.rev ca)) :=
  PE.weak (pe_revA ha.use) fun σ H Q ⟨S, ρ, τ, r, τ', hR, hT, he, hQ⟩ => by
    simp only [ev] at he
    obtain ⟨x, hx, he⟩ := bind_some he
    obtain ⟨w, hw, he⟩ := map_some he
    cases he
    refine one_ok hR hT hx fun vx S1 H1 st u => ?_
    cases q : x.1.d <;> rw [q] at hw <;> simp only [revD] at hw <;> first | cases hw | skip
    · obtain ⟨p, vs, rfl, e2, e3⟩ := u.lst st.sub q
      exact ⟨p, vs, rfl, .inl ⟨SqL.of e2, fun q' n => (Post.later hQ st).lst st.sub st.tape (RpAll.reverse e3) n⟩⟩
    · obtain ⟨p, vs, rfl, e2, e3⟩ := u.tup q
      exact ⟨p, vs, rfl, .inr ⟨Same.seqT st.sub e2, fun q' n => (Post.later hQ st).tup st.sub st.tape (RpAll.reverse e3) n⟩⟩
/-- a value as a test -/
theorem t_tru (ha : PE X a (tE X.K ta Φ Ψ ca)) (he : ∀ whole, isTrue a X.env whole = (do let v ← whole; standAt a.pos; holding [v] (truthy v))) : PT X a (tT X.K ta Φ Ψ (.tru ca)) :=
  PT.weak (pt_truth ha.use he) fun σ H Q ⟨S, ρ, τ, r, τ', k, hR, hT, hv, hr, hQ⟩ => by
    simp only [ev] at hv
    obtain ⟨x, hx, hv⟩ := bind_some hv
    obtain ⟨b, hb, hv⟩ := map_some hv
    cases hv
    have ek : k = b := by cases hr; rfl
    refine one_ok hR hT hx fun vx S1 H1 st u => ⟨k, ?_, hQ S1 H1 st⟩
    rw [ek]
    clear hr ek hQ
    cases q : x.1.d with
    | none =>
      rw [q] at hb
      cases hb
      have e : vx = .non := by
        obtain ⟨⟨kd, d⟩, τ1⟩ := x
        have q' : d = .none := q
        subst q'
        cases kd with
        | S => exact u
        | F => exact u
        | B => obtain ⟨_, _, _, z, _⟩ := u; cases z
      rw [e]; rfl
    | bool c =>
      rw [q] at hb
      cases hb
      rw [u.bool q]; rfl
    | int i =>
      rw [q] at hb
      cases hb
      rw [u.int q]
      show (!decide (i = 0)) = (i != 0)
      by_cases h : i = 0
      · subst h; rfl
      · rw [decide_eq_false h, bne_iff_ne.mpr h]; rfl
    | list ds =>
      rw [q] at hb
      cases hb
      obtain ⟨p, vs, rfl, e2, e3⟩ := u.lst st.sub q
      exact .inl ⟨vs, SqL.of e2, by cases ds <;> cases vs <;> first | rfl | (have := e3.length; simp at this)⟩
    | tuple ds =>
      rw [q] at hb
      cases hb
      obtain ⟨p, vs, rfl, e2, e3⟩ := u.tup q
      exact .inr (.inl ⟨vs, Same.seqT st.sub e2, by cases ds <;> cases vs <;> first | rfl | (have := e3.length; simp at this)⟩)
    | str _ => rw [q] at hb; cases hb
    | dict _ => rw [q] at hb; cases hb
/-- calls -/
theorem e_call {k n : Nat} {f : Addr} {fd : FuncData} {ps : List Str} {x : Str} {p : Pos} {es : List Expr} {cs : List E} (F : FnOk X.prog X.w X.K X.mg X.base CX0 k f fd ps (spP X.K (Φ n))) (hr : Room k X.A) (hg : Gl X x) (hm : X.mg x = some (.ref f)) (hk : PySem.W.keepIn X.K (.ref f) = true)
    (hb : Binds X.K fd ps []) (ha : PA X (e :: es) (tAs X.K ta Φ Ψ cs)) (hdb : (x == ("__debug__" : Str)) = false) (he : starEach (e :: es) X.env = (false, eval e X.env) :: starEach es X.env) (hpl : (backTo pos (starEach es X.env)).any (·.1) = false) :
    PE X (.Call (.Name x p) (e :: es) [] pos) (tE X.K ta Φ Ψ (.call n cs)) :=
  PE.weak (pe_call (dvs := []) F hr hg hm hk hb .nil (pass0 (X := X)) ha hdb he hpl) fun σ H Q ⟨S, ρ, τ, r, τ', hR, hT, hv, hQ⟩ => by
    simp only [ev] at hv
    obtain ⟨x, hx, hv⟩ := bind_some hv
    obtain ⟨y, hy, hv⟩ := bind_some hv
    split at hv
    · rename_i hc
      cases hv
      refine ⟨S, ρ, τ, x.1, x.2, hR, hT, hx, fun vs S1 H1 st u => ?_⟩
      refine ⟨x.1.map (·.d), _, by rw [List.append_nil]; exact u.rp st.sub, hy, hc, fun v H' hs hrp => ?_⟩
      obtain ⟨S', st', rv⟩ := after_call (τ2 := x.2) st.sub st.tape (fun b o _ e => hs _ _ e) (fun a e => ⟨hs _ _ (st.tape a e).2.1, rfl⟩) hc hrp
      exact hQ v S' H' (st.trans st') (rv.back st)
    · cases hv
theorem e_callT {k n i : Nat} {f : Addr} {fd : FuncData} {ps : List Str} {x : Str} {p : Pos} {es : List Expr} {cs : List E} (F : FnOk X.prog X.w X.K X.mg X.base CX0 k f fd ps (spT X.K (Ψ n))) (hr : Room k X.A) (hg : Gl X x) (hm : X.mg x = some (.ref f)) (hk : PySem.W.keepIn X.K (.ref f) = true)
    (hb : Binds X.K fd ps []) (hΨ : ∀ ds τ r τ', Ψ n ds τ = some (r, τ') → τ'.cells = τ.cells) (hv0 : PE X e (tVar i)) (ha : PA X es (tAs X.K ta Φ Ψ cs)) (hdb : (x == ("__debug__" : Str)) = false) (he : starEach (e :: es) X.env = (false, eval e X.env) :: starEach es X.env) (hpl : (backTo pos (starEach es X.env)).any (·.1) = false) :
    PE X (.Call (.Name x p) (e :: es) [] pos) (tE X.K ta Φ Ψ (.callT n i cs)) :=
  PE.weak (pe_call (dvs := []) F hr hg hm hk hb .nil (pass0 (X := X)) (pa_cons hv0 ha he) hdb he hpl) fun σ H Q ⟨S, ρ, τ, r, τ', hR, hT, hv, hQ⟩ => by
    simp only [ev] at hv
    split at hv
    · rename_i hi
      obtain ⟨x, hx, hv⟩ := bind_some hv
      obtain ⟨y, hy, hv⟩ := bind_some hv
      split at hv
      · rename_i hc
        cases hv
        obtain ⟨a, ea, ev⟩ := hR.slot i _ hi
        refine ⟨.ref a, getD_some ev, S, ρ, τ, x.1, x.2, hR, hT, hx, fun vs S1 H1 st u => ?_⟩
        have tp := st.tape a ea
        have sub1 : Same S1 (del H1 a) := fun b o e => by
          have nb : b ≠ a := fun z => by rw [z, tp.1] at e; cases e
          rw [del_ne nb]; exact st.sub _ _ e
        have hrp : RpAll X.K (del H1 a) vs (x.1.map (·.d)) := by
          have st2 : Stp X.K ta x.2 S1 H1 S1 H1 := Stp.refl st.sub st.tape
          clear hx hy hc
          generalize x.1 = rs at u
          clear tp hv0
          induction rs generalizing vs with
          | nil => cases vs with
            | nil => exact rfl
            | cons _ _ => exact u.elim
          | cons r0 rs ih => cases vs with
            | nil => exact u.elim
            | cons v0 vs =>
              refine ⟨v0, vs, rfl, ?_, ih vs u.2⟩
              have u0 := u.1
              obtain ⟨kd, d⟩ := r0
              cases kd with
              | S => exact Rp.mono sub1 d u0
              | F => exact Rp.mono sub1 d u0
              | B =>
                obtain ⟨q, ds, ws, e1, e2, e3, e4, e5⟩ := u0
                have e1' : d = .list ds := e1
                subst e1'
                exact ⟨q, ws, e2, by rw [del_ne (fun z => e5 (by rw [z]; exact ea))]; exact e3, RpAll.mono sub1 ds e4⟩
        refine ⟨a, ta.b, vs, x.1.map (·.d), x.2, r, τ', by simp, ⟨del_same, tp.2.1, sub1.seq tp.2.2⟩, hrp, hy, hc, fun v H' hs tp' hret => ?_⟩
        have gro : ∀ b o, ta.a ≠ some b → H1 b = some o → H' b = some o := fun b o n e => by
          have nb : b ≠ a := fun z => n (z ▸ ea)
          have := hs b o (by rw [del_ne nb]; exact e)
          rw [del_ne nb] at this; exact this
        have hret' : RetP X.K H1 H' v r := by
          obtain ⟨kd, d⟩ := r
          cases kd with
          | S => exact Rp.mono del_sub d hret
          | B => exact Rp.mono del_sub d hret
          | F =>
            obtain ⟨q, ds, ws, e1, e2, e3, e4, e5⟩ := hret
            have nq : q ≠ a := fun z => by rw [z, del_same] at e4; cases e4
            rw [del_ne nq] at e3 e4
            exact ⟨q, ds, ws, e1, e2, e3, e4, RpAll.mono del_sub ds e5⟩
        have hcells : τ'.cells = x.2.cells := hΨ _ _ _ _ hy
        obtain ⟨S', st', rv⟩ := after_call (τ2 := τ') st.sub st.tape gro (fun a' e' => by
          rw [ea] at e'
          cases e'
          exact ⟨tp'.2.1, hcells⟩) hc hret'
        exact hQ v S' H' (st.trans st') (rv.back st)
      · cases hv
    · cases hv
end
end Ev

/-! ## Ev6 -/
namespace Ev
open PySem PySem.Spec PyProof.Rows L2

/-! ### built-ins -/
def blV : Bl → Value
  | .len => .builtin "len" | .abs => .builtin "abs" | .min => .builtin "min" | .max => .builtin "max" | .int => .type "int" | .tuple => .type "tuple" | .list => .type "list"
  | .sum => .builtin "sum" | .any => .builtin "any" | .all => .builtin "all" | .sorted => .builtin "sorted" | .bitlen => .builtin "int.bit_length" | .setlen => .builtin "set"
def rBlt (K : PySem.W.Frag) (ta : Ta) (b : Bl) : List V → Hp → VK → Prop := fun xs H Q => ∃ S τ rs r, Same S H ∧ TpOk K ta S H τ ∧ UVs K ta S H xs rs ∧ bltD b (rs.map (·.d)) = some r ∧ Post K ta S H τ r Q
section
variable {K : PySem.W.Frag} {ta : Ta} {S H : Hp}
theorem UVs.one {xs : List V} {rs : List R} {d : D} (u : UVs K ta S H xs rs) (e : rs.map (·.d) = [d]) : ∃ x r, xs = [x] ∧ r.d = d ∧ UV K ta S H x r := by
  cases rs with
  | nil => cases e
  | cons r rs =>
    cases rs with
    | cons _ _ => simp at e
    | nil =>
      cases xs with
      | nil => exact u.elim
      | cons x xs =>
        cases xs with
        | cons _ _ => exact u.2.elim
        | nil => exact ⟨x, r, rfl, by simpa using e, u.1⟩
theorem UVs.two {xs : List V} {rs : List R} {d d2 : D} (u : UVs K ta S H xs rs) (e : rs.map (·.d) = [d, d2]) : ∃ x y r r2, xs = [x, y] ∧ r.d = d ∧ r2.d = d2 ∧ UV K ta S H x r ∧ UV K ta S H y r2 := by
  cases rs with
  | nil => cases e
  | cons r rs =>
    cases xs with
    | nil => exact u.elim
    | cons x xs =>
      have e2 : r.d = d ∧ rs.map (·.d) = [d2] := by simpa using e
      obtain ⟨y, r2, f1, f2, f3⟩ := UVs.one u.2 e2.2
      exact ⟨x, y, r, r2, by rw [f1], e2.1, f2, u.1, f3⟩
theorem maxL_best : ∀ {ns : List Int} {M : Int}, maxL ns = some M → M ∈ ns ∧ ∀ y, y ∈ ns → y ≤ M
  | [], _, h => by cases h
  | x :: r, M, h => by
    have h' : r.foldl max x = M := Option.some.inj h
    clear h
    induction r generalizing x with
    | nil => cases h'; simp
    | cons a r ih =>
      obtain ⟨h1, h2⟩ := ih (max x a) h'
      have h3 := h2 (max x a) List.mem_cons_self
      refine ⟨?_, fun y hy => ?_⟩
      · rcases List.mem_cons.mp h1 with e | e
        · by_cases hx : a ≤ x
          · rw [e, Int.max_eq_left hx]; simp
          · rw [e, Int.max_eq_right (by omega)]; simp
        · exact List.mem_cons_of_mem _ (List.mem_cons_of_mem _ e)
      · rcases List.mem_cons.mp hy with e | hy
        · omega
        · rcases List.mem_cons.mp hy with e | hy
          · omega
          · exact h2 y (List.mem_cons_of_mem _ hy)
theorem minL_best : ∀ {ns : List Int} {M : Int}, minL ns = some M → M ∈ ns ∧ ∀ y, y ∈ ns → M ≤ y
  | [], _, h => by cases h
  | x :: r, M, h => by
    have h' : r.foldl min x = M := Option.some.inj h
    clear h
    induction r generalizing x with
    | nil => cases h'; simp
    | cons a r ih =>
      obtain ⟨h1, h2⟩ := ih (min x a) h'
      have h3 := h2 (min x a) List.mem_cons_self
      refine ⟨?_, fun y hy => ?_⟩
      · rcases List.mem_cons.mp h1 with e | e
        · by_cases hx : a ≤ x
          · rw [e, Int.min_eq_right hx]; simp
          · rw [e, Int.min_eq_left (by omega)]; simp
        · exact List.mem_cons_of_mem _ (List.mem_cons_of_mem _ e)
      · rcases List.mem_cons.mp hy with e | hy
        · omega
        · rcases List.mem_cons.mp hy with e | hy
          · omega
          · exact h2 y (List.mem_cons_of_mem _ hy)
theorem intsOf_map : ∀ {ds : List D} {ns : List Int}, intsOf ds = some ns → ds = ns.map PyData.int
  | [], ns, h => by simp [intsOf] at h; subst h; rfl
  | d :: ds, ns, h => by
    cases d <;> simp [intsOf] at h
    obtain ⟨ms, h1, h2⟩ := h
    subst h2
    rw [intsOf_map h1]
    rfl
theorem depth_int : ∀ ns : List Int, PyData.depthAll (ns.map PyData.int) = 0
  | [] => by simp [PyData.depthAll]
  | n :: ns => by simp [PyData.depthAll, PyData.depth, depth_int ns]
theorem alike_int (ns : List Int) : PySem.W.AlikeAll (ns.map PyData.int) := by
  refine ⟨fun x hx y hy => ?_, fun x hx e => ?_⟩
  · obtain ⟨a, _, rfl⟩ := List.mem_map.mp hx
    obtain ⟨b, _, rfl⟩ := List.mem_map.mp hy
    simp [PySem.W.alike]
  · obtain ⟨a, _, z⟩ := List.mem_map.mp hx
    rw [e] at z; cases z
end
section
variable {X : Cx} {ta : Ta}
theorem tup_best (hc : X.calm = true) {pins : List (Addr × Obj)} {s : Shared} {σ : L2.St} {H : Hp} {a : Addr} {vs : List V} {us : List Value} {ns : List Int} {Q : VK} (I : Inv X pins σ H s) (hu : X.A.units + 80 < cLine) (rx : Vals [.ref a] us) (q : SqT X.K H a vs)
    (e : vs = ns.map V.int) : (∀ M, maxL ns = some M → Q (.int M) H → wpAny (model X.prog X.w) X.A (call (.builtin "max") us) (EP X pins σ Q) X.xe s) ∧ (∀ M, minL ns = some M → Q (.int M) H → wpAny (model X.prog X.w) X.A (call (.builtin "min") us) (EP X pins σ Q) X.xe s) := by
  subst e
  obtain ⟨its, rv, ht, hz⟩ := I.tuple q
  rw [Vals.ref1 rx]
  have hall : DpAll X.K H (ns.map V.int) (ns.map PyData.int) := by
    clear rv q hz
    induction ns with
    | nil => exact .nil
    | cons n ns ih => exact .cons (.int n) ih
  obtain ⟨as, hr⟩ := Dp.readsAll I (ns.map PyData.int) _ its hall rv
  have h0 := I.ok.hd hc
  cases ns with
  | nil => exact ⟨(fun M h => by cases h), (fun M h => by cases h)⟩
  | cons n ns =>
    have dp : PyData.depthAll (PyData.int n :: ns.map PyData.int) = 0 := depth_int (n :: ns)
    have fin : ∀ {i : Nat} {v : Value} {h' : Heap} {tk : Nat} {bs : List Addr} {M : Int}, Reads h' v (.int M) bs → (∀ b o, s.heap.get? b = some o → h'.get? b = some o) → Q (.int M) H → EP X pins σ Q v { s with heap := h', toks := tk } := fun {i v h' tk bs M} rd k qq => by
      cases rd
      exact ⟨.int M, H, I.kept k, ⟨_, rfl⟩, qq⟩
    refine ⟨fun M h hq => ?_, fun M h hq => ?_⟩
    · have h' : ns.foldl max n = M := Option.some.inj h
      refine PySem.W.max_tuple_data h0 (show s.heap.IsTuple a its.toArray from ht) (x := .int n) (xs := ns.map PyData.int) (by simpa using hr) (alike_int (n :: ns)) (by rw [dp]; omega) fun i v h2 tk bs hv rd k => ?_
      rw [PySem.W.maxD_ints, h'] at rd
      exact fin (i := i) rd k hq
    · have h' : ns.foldl min n = M := Option.some.inj h
      refine PySem.W.min_tuple_data h0 (show s.heap.IsTuple a its.toArray from ht) (x := .int n) (xs := ns.map PyData.int) (by simpa using hr) (alike_int (n :: ns)) (by rw [dp]; omega) fun i v h2 tk bs hv rd k => ?_
      rw [PySem.W.minD_ints, h'] at rd
      exact fin (i := i) rd k hq
theorem insI_perm (x : Int) : ∀ l : List Int, (insI x l).Perm (x :: l)
  | [] => .refl _
  | y :: r => by
    unfold insI
    split
    · exact .refl _
    · exact ((insI_perm x r).cons y).trans (.swap x y r)
theorem sortI_perm : ∀ l : List Int, (sortI l).Perm l
  | [] => .refl _
  | x :: r => (insI_perm x (sortI r)).trans ((sortI_perm r).cons x)
theorem insI_pw (x : Int) : ∀ l : List Int, l.Pairwise (· ≤ ·) → (insI x l).Pairwise (· ≤ ·)
  | [], _ => by simp [insI]
  | y :: r, h => by
    unfold insI
    split
    · rename_i hx
      refine List.Pairwise.cons (fun z hz => ?_) h
      rcases List.mem_cons.mp hz with rfl | hz
      · exact hx
      · exact Int.le_trans hx (List.rel_of_pairwise_cons h hz)
    · rename_i hx
      refine List.Pairwise.cons (fun z hz => ?_) (insI_pw x r (List.Pairwise.of_cons h))
      rcases List.mem_cons.mp ((insI_perm x r).mem_iff.mp hz) with rfl | hz
      · omega
      · exact List.rel_of_pairwise_cons h hz
theorem sortI_pw : ∀ l : List Int, (sortI l).Pairwise (· ≤ ·)
  | [] => by simp [sortI]
  | x :: r => insI_pw x _ (sortI_pw r)
theorem sort_uniq {ns ms : List Int} (p : ms.Perm ns) (h : ms.Pairwise (· ≤ ·)) : ms = sortI ns :=
  List.Perm.eq_of_pairwise (fun a b _ _ h1 h2 => Int.le_antisymm h1 h2) h (sortI_pw ns) (p.trans (sortI_perm ns).symm)
theorem rp_ints {K : PySem.W.Frag} {S : Hp} : ∀ ns : List Int, RpAll K S (ns.map V.int) (ns.map PyData.int)
  | [] => rfl
  | n :: r => ⟨_, _, rfl, rfl, rp_ints r⟩
theorem bl_run (hc : X.calm = true) (hu : X.A.units + 80 < cLine) (b : Bl) (h1 : b ≠ .setlen) (h2 : b ≠ .bitlen) : CallR X (blV b) (rBlt X.K ta b) := by
  intro pins s σ H xs us Q I rx ⟨S, τ, rs, r, hs, ht, u, e, p⟩
  generalize hd : rs.map (·.d) = dd at e
  unfold bltD at e
  split at e
  · cases e
    obtain ⟨x, r1, rfl, e1, u1⟩ := u.one hd
    obtain ⟨a, vs, rfl, e2, e3⟩ := u1.tup e1
    exact call_len_seq pins s σ H _ us Q I rx ⟨a, vs, rfl, .inr (Same.seqT hs e2), p.here hs ht (by rw [e3.length]; exact rfl)⟩
  · cases e
    obtain ⟨x, r1, rfl, e1, u1⟩ := u.one hd
    obtain ⟨a, vs, rfl, e2, e3⟩ := u1.lst hs e1
    exact call_len_seq pins s σ H _ us Q I rx ⟨a, vs, rfl, .inl (SqL.of e2), p.here hs ht (by rw [e3.length]; exact rfl)⟩
  · cases e
    obtain ⟨x, r1, rfl, e1, u1⟩ := u.one hd
    exact call_abs pins s σ H _ us Q I rx ⟨_, by rw [u1.int e1], p.here hs ht rfl⟩
  · cases e
    obtain ⟨x, y, r1, r2, rfl, e1, e2, u1, u2⟩ := u.two hd
    exact call_min2 hc pins s σ H _ us Q I rx ⟨_, _, by rw [u1.int e1, u2.int e2], p.here hs ht rfl⟩
  · cases e
    obtain ⟨x, y, r1, r2, rfl, e1, e2, u1, u2⟩ := u.two hd
    exact call_max2 hc pins s σ H _ us Q I rx ⟨_, _, by rw [u1.int e1, u2.int e2], p.here hs ht rfl⟩
  · obtain ⟨ns, en, e⟩ := bind_some e
    obtain ⟨M, em, e⟩ := map_some e
    cases e
    obtain ⟨x, r1, rfl, e1, u1⟩ := u.one hd
    obtain ⟨a, vs, rfl, e2, e3⟩ := u1.lst hs e1
    have ev := e3.ints en
    subst ev
    obtain ⟨b1, b2⟩ := maxL_best em
    refine cr_max hc pins s σ H _ us Q I rx ⟨a, ns, rfl, SqL.of e2, List.length_pos_of_mem b1, fun m m1 m2 => ?_⟩
    have : m = M := by have := b2 m m1; have := m2 M b1; omega
    subst this
    exact p.here hs ht rfl
  · obtain ⟨ns, en, e⟩ := bind_some e
    obtain ⟨M, em, e⟩ := map_some e
    cases e
    obtain ⟨x, r1, rfl, e1, u1⟩ := u.one hd
    obtain ⟨a, vs, rfl, e2, e3⟩ := u1.lst hs e1
    have ev := e3.ints en
    subst ev
    obtain ⟨b1, b2⟩ := minL_best em
    refine cr_min hc pins s σ H _ us Q I rx ⟨a, ns, rfl, SqL.of e2, List.length_pos_of_mem b1, fun m m1 m2 => ?_⟩
    have : m = M := by have := b2 m m1; have := m2 M b1; omega
    subst this
    exact p.here hs ht rfl
  · obtain ⟨ns, en, e⟩ := bind_some e
    obtain ⟨M, em, e⟩ := map_some e
    cases e
    obtain ⟨x, r1, rfl, e1, u1⟩ := u.one hd
    obtain ⟨a, vs, rfl, e2, e3⟩ := u1.tup e1
    exact (tup_best hc I hu rx (Same.seqT hs e2) (e3.ints en)).1 M em (p.here hs ht rfl)
  · obtain ⟨ns, en, e⟩ := bind_some e
    obtain ⟨M, em, e⟩ := map_some e
    cases e
    obtain ⟨x, r1, rfl, e1, u1⟩ := u.one hd
    obtain ⟨a, vs, rfl, e2, e3⟩ := u1.tup e1
    exact (tup_best hc I hu rx (Same.seqT hs e2) (e3.ints en)).2 M em (p.here hs ht rfl)
  · cases e
    obtain ⟨x, r1, rfl, e1, u1⟩ := u.one hd
    exact call_int1 pins s σ H _ us Q I rx (.inl ⟨_, by rw [u1.int e1], p.here hs ht rfl⟩)
  · cases e
    obtain ⟨x, r1, rfl, e1, u1⟩ := u.one hd
    exact call_int1 pins s σ H _ us Q I rx (.inr ⟨_, by rw [u1.bool e1], p.here hs ht rfl⟩)
  · cases e
    obtain ⟨x, r1, rfl, e1, u1⟩ := u.one hd
    obtain ⟨a, vs, rfl, e2, e3⟩ := u1.lst hs e1
    exact call_tuple_of pins s σ H _ us Q I rx ⟨a, vs, rfl, .inl ⟨SqL.of e2, fun q n => p.tup hs ht e3 n⟩⟩
  · cases e
    obtain ⟨x, r1, rfl, e1, u1⟩ := u.one hd
    obtain ⟨a, vs, rfl, e2, e3⟩ := u1.tup e1
    exact call_tuple_of pins s σ H _ us Q I rx ⟨a, vs, rfl, .inr ⟨Same.seqT hs e2, p.here hs ht ⟨a, vs, rfl, e2, e3⟩⟩⟩
  · cases e
    obtain ⟨x, r1, rfl, e1, u1⟩ := u.one hd
    obtain ⟨a, vs, rfl, e2, e3⟩ := u1.lst hs e1
    exact call_list_of pins s σ H _ us Q I rx ⟨a, vs, rfl, .inl (SqL.of e2), fun q n => p.lst hs ht e3 n⟩
  · cases e
    obtain ⟨x, r1, rfl, e1, u1⟩ := u.one hd
    obtain ⟨a, vs, rfl, e2, e3⟩ := u1.tup e1
    exact call_list_of pins s σ H _ us Q I rx ⟨a, vs, rfl, .inr (Same.seqT hs e2), fun q n => p.lst hs ht e3 n⟩
  · obtain ⟨ns, en, e⟩ := map_some e
    cases e
    obtain ⟨x, r1, rfl, e1, u1⟩ := u.one hd
    obtain ⟨a, vs, rfl, e2, e3⟩ := u1.lst hs e1
    have ev := e3.ints en
    subst ev
    exact cr_sum hc pins s σ H _ us Q I rx ⟨a, ns, rfl, SqL.of e2, p.here hs ht rfl⟩
  · obtain ⟨ns, en, e⟩ := map_some e
    cases e
    obtain ⟨x, r1, rfl, e1, u1⟩ := u.one hd
    obtain ⟨a, vs, rfl, e2, e3⟩ := u1.lst hs e1
    have ev := e3.ints en
    subst ev
    refine cr_sortedI pins s σ H _ us Q I rx ⟨a, ns, rfl, SqL.of e2, fun ns' q perm pw n => ?_⟩
    have e := sort_uniq perm pw
    subst e
    exact p.lst hs ht (rp_ints _) n
  · obtain ⟨ns, en, e⟩ := map_some e
    cases e
    obtain ⟨x, r1, rfl, e1, u1⟩ := u.one hd
    obtain ⟨a, vs, rfl, e2, e3⟩ := u1.lst hs e1
    have ev := e3.bools en
    subst ev
    exact cr_any hc pins s σ H _ us Q I rx ⟨a, ns, rfl, SqL.of e2, p.here hs ht rfl⟩
  · obtain ⟨ns, en, e⟩ := map_some e
    cases e
    obtain ⟨x, r1, rfl, e1, u1⟩ := u.one hd
    obtain ⟨a, vs, rfl, e2, e3⟩ := u1.lst hs e1
    have ev := e3.bools en
    subst ev
    exact cr_all hc pins s σ H _ us Q I rx ⟨a, ns, rfl, SqL.of e2, p.here hs ht rfl⟩
  · exact absurd rfl h1
  · exact absurd rfl h2
  · cases e
end

/-! ### what is walked -/
section
variable {K : PySem.W.Frag} {ta : Ta}
/-- what is given is stable, or a new tuple of stable things -/
def YldOk (K : PySem.W.Frag) (S H1 H2 : Hp) (v : V) (d : D) : Prop :=
  (H2 = H1 ∧ Rp K S v d) ∨ ∃ T vs es, v = .ref T ∧ H1 T = none ∧ H2 = upd H1 T (.tup vs) ∧ d = .tuple es ∧ RpAll K S vs es
/-- J yields ds; nb: what it walks is stable -/
def WalkOk (K : PySem.W.Frag) (ta : Ta) (nb : Bool) (J : It) (S H : Hp) (ds : List D) : Prop :=
  ∃ (G : Hp → Prop) (Y : Nat → Hp → V → Hp → Prop), Walk J ds.length G Y ∧ (∀ H', Same S H' → (nb = true ∨ ∀ b o, ta.a ≠ some b → H b = some o → H' b = some o) → G H') ∧
    ∀ i H1 v H2, i < ds.length → Y i H1 v H2 → ∃ d, ds[i]? = some d ∧ YldOk K S H1 H2 v d
def tIt (K : PySem.W.Frag) (ta : Ta) (Φ : Nat → List D → Option R) (Ψ : Nat → List D → Tp → Option (R × Tp)) (k : Nat) (its : List E) : TI := fun σ H Q => ∃ S ρ τ rs τ' ds, Rel K ta ρ S σ H ∧ TpOk K ta S H τ ∧ evs Φ Ψ ρ τ its = some (rs, τ') ∧ itD k (rs.map (·.d)) = some ds ∧
  ∀ J S' H', Stp K ta τ' S H S' H' → WalkOk K ta (!rs.any (fun r => r.k == .B)) J S' H' ds → Q J H'
theorem rngD_get : ∀ (n : Nat) (lo : Int) (i : Nat), i < n → (rngD lo n)[i]? = some (.int (lo + i))
  | n + 1, lo, 0, _ => by simp [rngD]
  | n + 1, lo, i + 1, h => by
    simp only [rngD, List.getElem?_cons_succ]
    rw [rngD_get n (lo + 1) i (by omega)]
    congr 2
    push_cast
    omega
theorem rngD_len : ∀ (n : Nat) (lo : Int), (rngD lo n).length = n
  | 0, _ => rfl
  | n + 1, lo => by simp [rngD, rngD_len n]
theorem rngC_len : ∀ (n : Nat) (lo c : Int), (rngC lo c n).length = n
  | 0, _, _ => rfl
  | n + 1, lo, c => by simp [rngC, rngC_len n]
theorem rngC_get : ∀ (n : Nat) (lo c : Int) (i : Nat), i < n → (rngC lo c n)[i]? = some (.int (lo + (i : Nat) * c))
  | n + 1, lo, c, 0, _ => by simp [rngC]
  | n + 1, lo, c, i + 1, h => by
    simp only [rngC, List.getElem?_cons_succ]
    rw [rngC_get n (lo + c) c i (by omega)]
    congr 2
    rw [show (((i + 1 : Nat) : Int)) = (i : Int) + 1 by omega, Int.add_mul, Int.one_mul]
    omega
theorem enumD_len : ∀ (ds : List D) (i : Nat), (enumD i ds).length = ds.length
  | [], _ => rfl
  | d :: ds, i => by simp [enumD, enumD_len ds]
theorem enumD_get : ∀ (ds : List D) (k i : Nat), (enumD k ds)[i]? = ds[i]?.map fun d => .tuple [.int ((k + i : Nat) : Int), d]
  | [], _, _ => by simp [enumD]
  | d :: ds, k, 0 => by simp [enumD]
  | d :: ds, k, i + 1 => by
    simp only [enumD, List.getElem?_cons_succ]
    rw [enumD_get ds (k + 1) i]
    congr 1
    funext e
    rw [show k + 1 + i = k + (i + 1) by omega]
theorem walk_rngOk {nb : Bool} {S H : Hp} (lo : Int) (n : Nat) : WalkOk K ta nb (Itr lo n) S H (rngD lo n) :=
  ⟨fun _ => True, YFn fun i => .int (lo + i), by rw [rngD_len]; exact walk_range, fun _ _ _ => trivial, fun i H1 v H2 hi y => ⟨_, rngD_get n lo i (by rw [rngD_len] at hi; exact hi), .inl ⟨y.1, y.2⟩⟩⟩
theorem walk_rngCOk {nb : Bool} {S H : Hp} (lo c : Int) (n : Nat) : WalkOk K ta nb (Itc lo c n) S H (rngC lo c n) :=
  ⟨fun _ => True, YFn fun i => .int (lo + (i : Nat) * c), by rw [rngC_len]; exact walk_rangeC, fun _ _ _ => trivial, fun i H1 v H2 hi y => ⟨_, rngC_get n lo c i (by rw [rngC_len] at hi; exact hi), .inl ⟨y.1, y.2⟩⟩⟩
theorem walk_lstOk {nb : Bool} {S H : Hp} {a : Addr} {vs : List V} {ds : List D} (h : H a = some (.lst vs)) (nt : ta.a ≠ some a) (ha : RpAll K S vs ds) (hs : nb = true → S a = some (.lst vs)) : WalkOk K ta nb (Itl K a) S H ds :=
  ⟨_, _, by rw [← ha.length]; exact walk_list (xs := vs), fun H' s c => by
    rcases c with c | c
    · exact SqL.of (s _ _ (hs c))
    · exact SqL.of (c a _ nt h), fun i H1 v H2 hi y => by
    obtain ⟨u, e1, e2⟩ := ha.get (List.getElem?_eq_getElem hi)
    have e3 := y.2
    rw [e1] at e3
    cases e3
    exact ⟨_, List.getElem?_eq_getElem hi, .inl ⟨y.1, e2⟩⟩⟩
theorem walk_tupOk {nb : Bool} {S H : Hp} {a : Addr} {vs : List V} {ds : List D} (h : SqT K S a vs) (ha : RpAll K S vs ds) : WalkOk K ta nb (Itt K a) S H ds :=
  ⟨_, _, by rw [← ha.length]; exact walk_tup (xs := vs), fun H' s _ => Same.seqT s h, fun i H1 v H2 hi y => by
    obtain ⟨u, e1, e2⟩ := ha.get (List.getElem?_eq_getElem hi)
    have e3 := y.2
    rw [e1] at e3
    cases e3
    exact ⟨_, List.getElem?_eq_getElem hi, .inl ⟨y.1, e2⟩⟩⟩
theorem walk_enumLOk {nb : Bool} {S H : Hp} {a : Addr} {vs : List V} {ds : List D} (h : H a = some (.lst vs)) (nt : ta.a ≠ some a) (ha : RpAll K S vs ds) (hs : nb = true → S a = some (.lst vs)) : WalkOk K ta nb (Ite K a) S H (enumD 0 ds) :=
  ⟨_, _, by rw [enumD_len, ← ha.length]; exact walk_enum (xs := vs), fun H' s c => by
    rcases c with c | c
    · exact SqL.of (s _ _ (hs c))
    · exact SqL.of (c a _ nt h), fun i H1 v H2 hi y => by
    rw [enumD_len] at hi
    obtain ⟨u, e1, e2⟩ := ha.get (List.getElem?_eq_getElem hi)
    obtain ⟨T, x, z, h1, h2, h3, h4, h5⟩ := y
    have h5' : vs[i]? = some z := h5
    have h4' : some (V.int (i : Nat)) = some x := h4
    rw [e1] at h5'
    cases h5'
    cases h4'
    exact ⟨_, by rw [enumD_get, List.getElem?_eq_getElem hi]; rfl, .inr ⟨T, _, [.int ((0 + i : Nat) : Int), ds[i]], h1, h2, h3, rfl, ⟨_, _, rfl, by rw [Nat.zero_add]; rfl, ⟨_, _, rfl, e2, rfl⟩⟩⟩⟩⟩
theorem walk_enumTOk {nb : Bool} {S H : Hp} {a : Addr} {vs : List V} {ds : List D} (h : SqT K S a vs) (ha : RpAll K S vs ds) : WalkOk K ta nb (IteT K a) S H (enumD 0 ds) :=
  ⟨_, _, by rw [enumD_len, ← ha.length]; exact walk_enumT (xs := vs), fun H' s _ => Same.seqT s h, fun i H1 v H2 hi y => by
    rw [enumD_len] at hi
    obtain ⟨u, e1, e2⟩ := ha.get (List.getElem?_eq_getElem hi)
    obtain ⟨T, x, z, h1, h2, h3, h4, h5⟩ := y
    have h5' : vs[i]? = some z := h5
    have h4' : some (V.int (i : Nat)) = some x := h4
    rw [e1] at h5'
    cases h5'
    cases h4'
    exact ⟨_, by rw [enumD_get, List.getElem?_eq_getElem hi]; rfl, .inr ⟨T, _, [.int ((0 + i : Nat) : Int), ds[i]], h1, h2, h3, rfl, ⟨_, _, rfl, by rw [Nat.zero_add]; rfl, ⟨_, _, rfl, e2, rfl⟩⟩⟩⟩⟩
end
section
variable {X : Cx} {ta : Ta} {Φ : Nat → List D → Option R} {Ψ : Nat → List D → Tp → Option (R × Tp)} {tg e a b : Expr} {ca cb : E}
theorem PI.weak {t t' : TI} (h : PI X tg e t) (w : ∀ σ H Q, t' σ H Q → t σ H Q) : PI X tg e t' := ⟨fun pins s σ H Q I q => h.run pins s σ H Q I (w _ _ _ q)⟩
/-- a list or a tuple is walked -/
theorem pi_seq {tl : TE} (hl : PE X e tl) : PI X tg e (fun σ H Q => tl σ H fun x H1 => ∃ a, x = .ref a ∧ (((∃ xs, SqL X.K H1 a xs) ∧ Q (Itl X.K a) H1) ∨ ((∃ xs, SqT X.K H1 a xs) ∧ Q (Itt X.K a) H1))) := by
  constructor
  intro pins s σ H Q I h
  apply thn (hl.run pins s σ H _ I h)
  rintro v s1 ⟨x, H1, I1, r1, a, rfl, q⟩
  cases r1
  have free : H1 s1.heap.objs.size = none := I1.hok.fresh (Nat.le_refl _)
  have young : ∀ b ∈ [s1.heap.objs.size], FpOk X pins H1 b := by
    intro b hb
    rw [List.mem_singleton.mp hb]
    exact I1.fpOk (Nat.le_refl _) free
  rcases q with ⟨⟨xs, hq⟩, q⟩ | ⟨⟨xs, hq⟩, q⟩
  · obtain ⟨its, rv, pl, _⟩ := I1.list hq
    apply wpAny_pyIter_list pl.isList
    exact ⟨_, _, _, _, H1, rfl, I1.kept (t' := s1.toks) (fun b o z => Heap.get?_push_of_some _ z), turn_list a _, ⟨_, Heap.get?_push_size _ rfl, rfl, rfl⟩, young, q⟩
  · obtain ⟨its, rv, pl, _⟩ := I1.tuple hq
    apply wpAny_pyIter_tuple (items := its.toArray) pl
    exact ⟨_, _, _, _, H1, rfl, I1.kept (t' := s1.toks) (fun b o z => Heap.get?_push_of_some _ z), turn_tuple a _, ⟨_, Heap.get?_push_size _ rfl, rfl, rfl⟩, young, q⟩
theorem lst2 {K : PySem.W.Frag} {S1 H1 : Hp} {v : V} {r : R} {τ : Tp} {ds : List D} (u : UV K ta S1 H1 v r) (s : Same S1 H1) (t : TpOk K ta S1 H1 τ) (e : r.d = .list ds) :
    ∃ p vs, v = .ref p ∧ H1 p = some (.lst vs) ∧ ta.a ≠ some p ∧ RpAll K S1 vs ds ∧ (r.k ≠ .B → S1 p = some (.lst vs)) := by
  obtain ⟨k, d⟩ := r
  have e' : d = .list ds := e
  subst e'
  have go : Rp K S1 v (.list ds) → ∃ p vs, v = .ref p ∧ H1 p = some (.lst vs) ∧ ta.a ≠ some p ∧ RpAll K S1 vs ds ∧ S1 p = some (.lst vs) := fun ⟨p, vs, e1, e2, e3⟩ =>
    ⟨p, vs, e1, s _ _ e2, (fun z => by have := (t p z).1; rw [e2] at this; cases this), e3, e2⟩
  cases k with
  | S => obtain ⟨p, vs, e1, e2, e3, e4, e5⟩ := go u; exact ⟨p, vs, e1, e2, e3, e4, fun _ => e5⟩
  | F => obtain ⟨p, vs, e1, e2, e3, e4, e5⟩ := go u; exact ⟨p, vs, e1, e2, e3, e4, fun _ => e5⟩
  | B =>
    obtain ⟨p, ds', vs, e1, e2, e3, e4, e5⟩ := u
    cases e1
    exact ⟨p, vs, e2, e3, e5, e4, fun z => absurd rfl z⟩
theorem i_seq (ha : PE X a (tE X.K ta Φ Ψ ca)) : PI X tg a (tIt X.K ta Φ Ψ 0 [ca]) :=
  PI.weak (pi_seq ha.use) fun σ H Q ⟨S, ρ, τ, rs, τ', ds, hR, hT, he, hi, hQ⟩ => by
    simp only [evs] at he
    obtain ⟨x, hx, he⟩ := bind_some he
    obtain ⟨y, hy, he⟩ := map_some he
    cases hy
    cases he
    refine one_ok hR hT hx fun vx S1 H1 st u => ?_
    simp only [List.map_cons, List.map_nil] at hi
    cases q : x.1.d <;> rw [q] at hi <;> simp only [itD] at hi <;> first | cases hi | skip
    · obtain ⟨p, vs, rfl, e2, nt, e3, e4⟩ := lst2 u st.sub st.tape q
      refine ⟨p, rfl, .inl ⟨⟨vs, SqL.of e2⟩, hQ _ S1 H1 st (walk_lstOk e2 nt e3 fun nb => e4 fun z => ?_)⟩⟩
      rw [List.any_cons, z] at nb
      cases nb
    · obtain ⟨p, vs, rfl, e2, e3⟩ := u.tup q
      exact ⟨p, rfl, .inr ⟨⟨vs, Same.seqT st.sub e2⟩, hQ _ S1 H1 st (walk_tupOk e2 e3)⟩⟩
theorem itD_one : ∀ {dd ds : List D}, itD 1 dd = some ds → ∃ j, dd = [.int j] ∧ rngFits 0 j = true ∧ ds = rngD 0 j.toNat
  | [], _, h => by simp [itD] at h
  | [d], _, h => by
    cases d <;> simp [itD] at h
    exact ⟨_, rfl, h.1, h.2.symm⟩
  | _ :: _ :: _, _, h => by simp [itD] at h
theorem itD_two : ∀ {dd ds : List D}, itD 2 dd = some ds → ∃ i j, dd = [.int i, .int j] ∧ rngFits i j = true ∧ ds = rngD i (j - i).toNat
  | [], _, h => by simp [itD] at h
  | [d], _, h => by simp [itD] at h
  | [d, e], _, h => by
    cases d <;> cases e <;> simp [itD] at h
    exact ⟨_, _, rfl, h.1, h.2.symm⟩
  | _ :: _ :: _ :: _, _, h => by simp [itD] at h
theorem i_rng1 {p pos : Pos} (hg : Gl X "range") (hm : X.mg "range" = none) (ha : PA X [a] (tAs X.K ta Φ Ψ [ca])) (hs : starEach [a] X.env = [(false, eval a X.env)]) : PI X tg (.Call (.Name "range" p) [a] [] pos) (tIt X.K ta Φ Ψ 1 [ca]) :=
  PI.weak (pi_range1 hg hm ha hs) fun σ H Q ⟨S, ρ, τ, rs, τ', ds, hR, hT, he, hi, hQ⟩ => by
    refine ⟨S, ρ, τ, rs, τ', hR, hT, he, fun vs S1 H1 st u => ?_⟩
    obtain ⟨j, hd, hf, rfl⟩ := itD_one hi
    obtain ⟨x, r1, rfl, e1, u1⟩ := u.one hd
    simp only [rngFits, Bool.and_eq_true, decide_eq_true_eq] at hf
    have ex := u1.int e1
    subst ex
    exact ⟨j, rfl, by omega, by omega, hQ _ S1 H1 st (walk_rngOk 0 j.toNat)⟩
theorem i_rng2 {p pos : Pos} (hg : Gl X "range") (hm : X.mg "range" = none) (ha : PA X [a, b] (tAs X.K ta Φ Ψ [ca, cb])) (hs : starEach [a, b] X.env = [(false, eval a X.env), (false, eval b X.env)]) (hs2 : starEach [b] X.env = [(false, eval b X.env)]) :
    PI X tg (.Call (.Name "range" p) [a, b] [] pos) (tIt X.K ta Φ Ψ 2 [ca, cb]) :=
  PI.weak (pi_range2 hg hm ha hs hs2) fun σ H Q ⟨S, ρ, τ, rs, τ', ds, hR, hT, he, hi, hQ⟩ => by
    refine ⟨S, ρ, τ, rs, τ', hR, hT, he, fun vs S1 H1 st u => ?_⟩
    obtain ⟨i, j, hd, hf, rfl⟩ := itD_two hi
    obtain ⟨x, y, r1, r2, rfl, e1, e2, u1, u2⟩ := u.two hd
    simp only [rngFits, Bool.and_eq_true, decide_eq_true_eq] at hf
    have ex := u1.int e1
    have ey := u2.int e2
    subst ex ey
    exact ⟨i, j, rfl, by omega, hQ _ S1 H1 st (walk_rngOk i (j - i).toNat)⟩

theorem i_enum {elts : List Expr} {kk : Nat} {p pos tpos : Pos} (hg : Gl X "enumerate") (hm : X.mg "enumerate" = none) (ha : PA X [a] (tAs X.K ta Φ Ψ [ca])) (hs : starEach [a] X.env = [(false, eval a X.env)]) :
    PI X (.Tuple elts kk tpos) (.Call (.Name "enumerate" p) [a] [] pos) (tIt X.K ta Φ Ψ 3 [ca]) :=
  PI.weak (pi_enumA hg hm ha hs) fun σ H Q ⟨S, ρ, τ, rs, τ', ds, hR, hT, he, hi, hQ⟩ => by
    refine ⟨S, ρ, τ, rs, τ', hR, hT, he, fun vs S1 H1 st u => ?_⟩
    cases rs with
    | nil => cases hi
    | cons r0 rr =>
      cases rr with
      | cons r1 rr => simp only [List.map_cons] at hi; cases hh : r0.d <;> rw [hh] at hi <;> cases hi
      | nil =>
        cases vs with
        | nil => exact u.elim
        | cons x xs =>
          cases xs with
          | cons _ _ => exact u.2.elim
          | nil =>
            have u1 := u.1
            simp only [List.map_cons, List.map_nil] at hi
            cases q : r0.d <;> rw [q] at hi <;> simp only [itD] at hi <;> first | cases hi | skip
            · obtain ⟨p, vs, rfl, e2, nt, e3, e4⟩ := lst2 u1 st.sub st.tape q
              refine ⟨p, rfl, .inl ⟨⟨vs, SqL.of e2⟩, hQ _ S1 H1 st (walk_enumLOk e2 nt e3 fun nb => e4 fun z => ?_)⟩⟩
              rw [List.any_cons, z] at nb
              cases nb
            · obtain ⟨p, vs, rfl, e2, e3⟩ := u1.tup q
              exact ⟨p, rfl, .inr ⟨⟨vs, Same.seqT st.sub e2⟩, hQ _ S1 H1 st (walk_enumTOk e2 e3)⟩⟩
theorem i_rng3 {c : Expr} {cc : E} {p pos : Pos} (hg : Gl X "range") (hm : X.mg "range" = none) (ha : PA X [a, b, c] (tAs X.K ta Φ Ψ [ca, cb, cc])) (hs : starEach [a, b, c] X.env = (false, eval a X.env) :: starEach [b, c] X.env) (hpl : (backTo pos (starEach [b, c] X.env)).any (·.1) = false) :
    PI X tg (.Call (.Name "range" p) [a, b, c] [] pos) (tIt X.K ta Φ Ψ 4 [ca, cb, cc]) :=
  PI.weak (pi_range3 hg hm ha hs hpl) fun σ H Q ⟨S, ρ, τ, rs, τ', ds, hR, hT, he, hi, hQ⟩ => by
    refine ⟨S, ρ, τ, rs, τ', hR, hT, he, fun vs S1 H1 st u => ?_⟩
    have h3 : ∃ r1 r2 r3 i j, rs = [r1, r2, r3] ∧ r1.d = .int i ∧ r2.d = .int j ∧ r3.d = .int (-1) ∧ rngFits i j = true ∧ ds = rngC i (-1) (i - j).toNat := by
      cases rs with
      | nil => cases hi
      | cons r1 rs => cases rs with
        | nil => simp only [List.map_cons, List.map_nil] at hi; cases q1 : r1.d <;> rw [q1] at hi <;> cases hi
        | cons r2 rs => cases rs with
          | nil => simp only [List.map_cons, List.map_nil] at hi; cases q1 : r1.d <;> rw [q1] at hi <;> cases q2 : r2.d <;> rw [q2] at hi <;> cases hi
          | cons r3 rs => cases rs with
            | cons r4 rs => simp only [List.map_cons] at hi; cases q1 : r1.d <;> rw [q1] at hi <;> cases q2 : r2.d <;> rw [q2] at hi <;> cases q3 : r3.d <;> rw [q3] at hi <;> cases hi
            | nil =>
              simp only [List.map_cons, List.map_nil] at hi
              cases q1 : r1.d <;> rw [q1] at hi <;> first | cases hi | skip
              cases q2 : r2.d <;> rw [q2] at hi <;> first | cases hi | skip
              cases q3 : r3.d <;> rw [q3] at hi <;> first | cases hi | skip
              simp only [itD] at hi
              split at hi
              · rename_i hc
                simp only [Bool.and_eq_true, decide_eq_true_eq] at hc
                cases hi
                exact ⟨r1, r2, r3, _, _, rfl, q1, q2, by rw [q3, hc.2], hc.1, rfl⟩
              · cases hi
    obtain ⟨r1, r2, r3, i, j, rfl, e1, e2, e3, hf, rfl⟩ := h3
    cases vs with
    | nil => exact u.elim
    | cons x vs => cases vs with
      | nil => exact u.2.elim
      | cons y vs => cases vs with
        | nil => exact u.2.2.elim
        | cons z vs => cases vs with
          | cons _ _ => exact u.2.2.2.elim
          | nil =>
            have ex := u.1.int e1
            have ey := u.2.1.int e2
            have ez := u.2.2.1.int e3
            subst ex ey ez
            simp only [rngFits, Bool.and_eq_true, decide_eq_true_eq] at hf
            exact ⟨i, j, -1, (i - j).toNat, rfl, RgC.neg (by omega) (by omega) (by omega) (by omega), hQ _ S1 H1 st (walk_rngCOk i (-1) (i - j).toNat)⟩

/-! ### targets -/
def gNms : List Nat → TGs
  | [] => gNil
  | i :: is => gCons (gName i) (gNms is)
def gT (K : PySem.W.Frag) : Tg → TG
  | .nm i => gName i
  | .tu is => gTup K is.length (gNms is)
theorem Rel.put {K : PySem.W.Frag} {ρ : Rho} {S H : Hp} {σ : L2.St} {i : Nat} {v : V} {d : D} (R : Rel K ta ρ S σ H) (h : Rp K S v d) : Rel K ta (ρ.set i (.im d)) S (σ.set i (some v)) H := by
  refine ⟨by simp [R.len], R.sub, fun j s e => ?_, fun j l dj dl p e1 e2 e3 e4 => ?_⟩
  · by_cases hj : j = i
    · subst hj
      have hl : j < ρ.length := by
        have := (List.getElem?_eq_some_iff.mp e).1
        simpa using this
      rw [List.getElem?_set_self hl] at e
      cases e
      exact ⟨v, by rw [List.getElem?_set_self (by rw [← R.len]; exact hl)]; rfl, h⟩
    · rw [List.getElem?_set_ne (Ne.symm hj)] at e
      rw [List.getElem?_set_ne (Ne.symm hj)]
      exact R.slot j s e
  · have nj : j ≠ i := fun z => by
      subst z
      have hl : j < ρ.length := by
        have := (List.getElem?_eq_some_iff.mp e1).1
        simpa using this
      rw [List.getElem?_set_self hl] at e1
      cases e1
    have nl : l ≠ i := fun z => by
      subst z
      have hl : l < ρ.length := by
        have := (List.getElem?_eq_some_iff.mp e2).1
        simpa using this
      rw [List.getElem?_set_self hl] at e2
      cases e2
    rw [List.getElem?_set_ne (Ne.symm nj)] at e1 e3
    rw [List.getElem?_set_ne (Ne.symm nl)] at e2 e4
    exact R.dist j l dj dl p e1 e2 e3 e4
theorem Rel.unset {K : PySem.W.Frag} {ρ : Rho} {S H : Hp} {σ : L2.St} {i : Nat} (R : Rel K ta ρ S σ H) : Rel K ta (ρ.set i .un) S (σ.set i none) H := by
  refine ⟨by simp [R.len], R.sub, fun j s e => ?_, fun j l dj dl p e1 e2 e3 e4 => ?_⟩
  · by_cases hj : j = i
    · subst hj
      have hl : j < ρ.length := by
        have := (List.getElem?_eq_some_iff.mp e).1
        simpa using this
      rw [List.getElem?_set_self hl] at e
      cases e
      trivial
    · rw [List.getElem?_set_ne (Ne.symm hj)] at e
      rw [List.getElem?_set_ne (Ne.symm hj)]
      exact R.slot j s e
  · have nj : j ≠ i := fun z => by
      subst z
      have hl : j < ρ.length := by
        have := (List.getElem?_eq_some_iff.mp e1).1
        simpa using this
      rw [List.getElem?_set_self hl] at e1
      cases e1
    have nl : l ≠ i := fun z => by
      subst z
      have hl : l < ρ.length := by
        have := (List.getElem?_eq_some_iff.mp e2).1
        simpa using this
      rw [List.getElem?_set_self hl] at e2
      cases e2
    rw [List.getElem?_set_ne (Ne.symm nj)] at e1 e3
    rw [List.getElem?_set_ne (Ne.symm nl)] at e2 e4
    exact R.dist j l dj dl p e1 e2 e3 e4
theorem Rel.wipe {K : PySem.W.Frag} {ρ : Rho} {S H : Hp} {σ : L2.St} (R : Rel K ta ρ S σ H) : ∀ vs : List Nat, Rel K ta (wipeR ρ vs) S (wipe σ vs) H
  | [] => R
  | v :: vs => (Rel.wipe R vs).unset
/-- several names take the items of a tuple -/
theorem sets_ok {K : PySem.W.Frag} {S H : Hp} {Q : L2.St → Hp → Prop} : ∀ {is : List Nat} {ds : List D} {vs : List V} {ρ ρ1 : Rho} {σ : L2.St}, Rel K ta ρ S σ H → RpAll K S vs ds → setsD ρ is ds = some ρ1 →
    (∀ σ1, Rel K ta ρ1 S σ1 H → (∀ j, j ∉ is → σ1[j]? = σ[j]?) → σ1.length = σ.length → Q σ1 H) → gNms is vs σ H Q
  | [], [], vs, ρ, ρ1, σ, R, h, e, hQ => by cases h; cases e; exact ⟨rfl, hQ σ R (fun _ _ => rfl) rfl⟩
  | i :: is, d :: ds, vs, ρ, ρ1, σ, R, ⟨x, r, e1, e2, e3⟩, e, hQ => by
    subst e1
    refine ⟨x, r, rfl, sets_ok (R.put e2) e3 e fun σ1 R1 h1 h2 => hQ σ1 R1 (fun j hj => ?_) (by rw [h2, List.length_set])⟩
    simp only [List.mem_cons, not_or] at hj
    rw [h1 j hj.2, List.getElem?_set_ne (Ne.symm hj.1)]
  | [], _ :: _, _, _, _, _, _, _, e, _ => by cases e
  | _ :: _, [], _, _, _, _, _, _, e, _ => by cases e
theorem sets_len : ∀ {is : List Nat} {ds : List D} {ρ ρ1 : Rho}, setsD ρ is ds = some ρ1 → ds.length = is.length
  | [], [], _, _, _ => rfl
  | i :: is, d :: ds, _, _, e => by simp [sets_len (is := is) (ds := ds) e]
  | [], _ :: _, _, _, e => by cases e
  | _ :: _, [], _, _, e => by cases e
theorem tg_ok {K : PySem.W.Frag} {S H : Hp} {Q : L2.St → Hp → Prop} {tg : Tg} {d : D} {v : V} {ρ ρ1 : Rho} {σ : L2.St} (R : Rel K ta ρ S σ H) (h : Rp K S v d) (e : tgD ρ tg d = some ρ1)
    (hQ : ∀ σ1, Rel K ta ρ1 S σ1 H → (∀ j, j ∉ tgVs tg → σ1[j]? = σ[j]?) → σ1.length = σ.length → Q σ1 H) : gT K tg v σ H Q := by
  cases tg with
  | nm i =>
    cases e
    refine hQ _ (R.put h) (fun j hj => ?_) (by simp)
    rw [List.getElem?_set_ne]
    intro z
    subst z
    exact hj List.mem_cons_self
  | tu is =>
    cases d <;> simp only [tgD] at e <;> first | cases e | skip
    rename_i ds
    obtain ⟨p, vs, rfl, e2, e3⟩ := h
    exact ⟨p, vs, rfl, Same.seqT R.sub e2, by rw [e3.length, sets_len e], sets_ok R e3 e hQ⟩
end
end Ev

/-! ## Ev7 -/
namespace Ev
open PySem PySem.Spec PyProof.Rows L2

section
variable {X : Cx} {ta : Ta} {Φ : Nat → List D → Option R} {Ψ : Nat → List D → Tp → Option (R × Tp)} {tg e a b : Expr} {ca cb : E} {x : Str} {p pos : Pos} {es : List Expr} {cs : List E}
theorem blt_data {b : Bl} {σ : L2.St} {H : Hp} {Q : VK} {S : Hp} {ρ : Rho} {τ τ' : Tp} {r : R} (hR : Rel X.K ta ρ S σ H) (hT : TpOk X.K ta S H τ) (he : ev Φ Ψ ρ τ (.blt b cs) = some (r, τ')) (hQ : Post X.K ta S H τ' r Q) :
    tCB (rBlt X.K ta b) (tAs X.K ta Φ Ψ cs) σ H Q := by
  simp only [ev] at he
  obtain ⟨x, hx, he⟩ := bind_some he
  obtain ⟨y, hy, he⟩ := map_some he
  cases he
  exact ⟨S, ρ, τ, x.1, x.2, hR, hT, hx, fun vs S1 H1 st u => ⟨S1, x.2, x.1, _, st.sub, st.tape, u, hy, Post.later hQ st⟩⟩
theorem e_blB {b : Bl} {id : String} (hb : blV b = .builtin id) (hc : X.calm = true) (hu : X.A.units + 80 < cLine) (h1 : b ≠ .setlen) (h2 : b ≠ .bitlen) (hg : Gl X x) (hm : X.mg x = none) (hv : bootBuiltins x = some (.builtin id)) (ha : PA X (e :: es) (tAs X.K ta Φ Ψ cs)) (hn : x ≠ "__name__") (hdb : (x == ("__debug__" : Str)) = false)
    (he : starEach (e :: es) X.env = (false, eval e X.env) :: starEach es X.env) (hpl : (backTo pos (starEach es X.env)).any (·.1) = false) : PE X (.Call (.Name x p) (e :: es) [] pos) (tE X.K ta Φ Ψ (.blt b cs)) :=
  PE.weak (pe_callB (r := rBlt X.K ta b) (by rw [← hb]; exact bl_run hc hu b h1 h2) hg hm hv ha hn hdb he hpl) fun σ H Q ⟨S, ρ, τ, r, τ', hR, hT, he, hQ⟩ => blt_data hR hT he hQ
theorem e_blT {b : Bl} {id : String} (hb : blV b = .type id) (hc : X.calm = true) (hu : X.A.units + 80 < cLine) (h1 : b ≠ .setlen) (h2 : b ≠ .bitlen) (hg : Gl X x) (hm : X.mg x = none) (hv : bootBuiltins x = some (.type id)) (ha : PA X (e :: es) (tAs X.K ta Φ Ψ cs)) (hn : x ≠ "__name__") (hdb : (x == ("__debug__" : Str)) = false)
    (he : starEach (e :: es) X.env = (false, eval e X.env) :: starEach es X.env) (hpl : (backTo pos (starEach es X.env)).any (·.1) = false) : PE X (.Call (.Name x p) (e :: es) [] pos) (tE X.K ta Φ Ψ (.blt b cs)) :=
  PE.weak (pe_callTy (r := rBlt X.K ta b) (by rw [← hb]; exact bl_run hc hu b h1 h2) hg hm hv ha hn hdb he hpl) fun σ H Q ⟨S, ρ, τ, r, τ', hR, hT, he, hQ⟩ => blt_data hR hT he hQ
theorem e_setlen {a : Expr} {p2 q : Pos} (hg : Gl X "len") (hm : X.mg "len" = none) (hg2 : Gl X "set") (hm2 : X.mg "set" = none) (ha : PE X a (tE X.K ta Φ Ψ ca)) (hc : X.calm = true) (na : starEach [a] X.env = (false, eval a X.env) :: starEach [] X.env) :
    PE X (.Call (.Name "len" p) [.Call (.Name "set" p2) [a] [] q] [] pos) (tE X.K ta Φ Ψ (.blt .setlen [ca])) :=
  PE.weak (RZ.pe_lenSetT hg hm hg2 hm2 ha.use hc na) fun σ H Q ⟨S, ρ, τ, r, τ', hR, hT, he, hQ⟩ => by
    simp only [ev, evs] at he
    obtain ⟨x, hx, he⟩ := bind_some he
    obtain ⟨x1, hx1, hx⟩ := bind_some hx
    obtain ⟨y, hy, hx⟩ := map_some hx
    cases hy
    cases hx
    obtain ⟨z, hz, he⟩ := map_some he
    cases he
    refine one_ok hR hT hx1 fun vx S1 H1 st u => ?_
    simp only [List.map_cons, List.map_nil] at hz
    cases qq : x1.1.d <;> rw [qq] at hz <;> simp only [bltD] at hz <;> first | cases hz | skip
    obtain ⟨ns, en, hz⟩ := bind_some hz
    split at hz
    · rename_i hl
      cases hz
      obtain ⟨l, vs, rfl, e2, e3⟩ := u.tup qq
      have ev := e3.ints en
      subst ev
      exact ⟨l, ns, rfl, Same.seqT st.sub e2, of_decide_eq_true hl, hQ _ S1 H1 st rfl⟩
    · cases hz
theorem e_bits {o : Expr} {apos : Pos} (ho : PE X o (tE X.K ta Φ Ψ ca)) (hbase : attributeBase o "bit_length" X.env (eval o X.env) = eval o X.env) (hline : (apos.endLine == pos.line) = true) : PE X (.Call (.Attribute o "bit_length" apos) [] [] pos) (tE X.K ta Φ Ψ (.blt .bitlen [ca])) :=
  PE.weak (pe_bits ho.use hbase hline) fun σ H Q ⟨S, ρ, τ, r, τ', hR, hT, he, hQ⟩ => by
    simp only [ev, evs] at he
    obtain ⟨x, hx, he⟩ := bind_some he
    obtain ⟨x1, hx1, hx⟩ := bind_some hx
    obtain ⟨y, hy, hx⟩ := map_some hx
    cases hy
    cases hx
    obtain ⟨z, hz, he⟩ := map_some he
    cases he
    refine one_ok hR hT hx1 fun vx S1 H1 st u => ?_
    simp only [List.map_cons, List.map_nil] at hz
    cases q : x1.1.d <;> rw [q] at hz <;> simp only [bltD] at hz <;> first | cases hz | skip
    exact ⟨_, u.int q, hQ _ S1 H1 st rfl⟩

/-! ### comprehensions -/
def tAll (K : PySem.W.Frag) (ta : Ta) (Φ : Nat → List D → Option R) (Ψ : Nat → List D → Tp → Option (R × Tp)) (cs : List E) : TT := fun σ H Q => ∃ S ρ τ b τ', Rel K ta ρ S σ H ∧ TpOk K ta S H τ ∧ evAll Φ Ψ ρ τ cs = some (b, τ') ∧ ∀ S' H', Stp K ta τ' S H S' H' → Q b H'
theorem PTs.weak {ifs : List Expr} {t t' : TT} (h : PTs X ifs t) (w : ∀ σ H Q, t' σ H Q → t σ H Q) : PTs X ifs t' := ⟨fun pins s σ H Q I q => h.run pins s σ H Q I (w _ _ _ q)⟩
theorem c_nil : PTs X [] (tAll X.K ta Φ Ψ []) := PTs.weak pts_nil fun σ H Q ⟨S, ρ, τ, b, τ', hR, hT, he, hQ⟩ => by
  simp only [evAll] at he
  cases he
  exact hQ S H (Stp.refl hR.sub hT)
theorem c_one (h : PT X e (tT X.K ta Φ Ψ ca)) : PTs X [e] (tAll X.K ta Φ Ψ [ca]) := PTs.weak (pts_one h) fun σ H Q ⟨S, ρ, τ, b, τ', hR, hT, he, hQ⟩ => by
  simp only [evAll] at he
  obtain ⟨x, hx, he⟩ := bind_some he
  split at he
  · rename_i q
    cases he
    exact ⟨S, ρ, τ, x.1, x.2, true, hR, hT, hx, q, hQ⟩
  · rename_i q
    cases he
    exact ⟨S, ρ, τ, x.1, x.2, false, hR, hT, hx, q, hQ⟩
  · cases he
theorem wipe_eq : ∀ (vs : List Nat) {σ σ' : L2.St}, σ'.length = σ.length → (∀ j, j ∉ vs → σ'[j]? = σ[j]?) → wipe σ' vs = wipe σ vs := by
  have get : ∀ (vs : List Nat) (σ : L2.St) (j : Nat), (wipe σ vs)[j]? = if j ∈ vs then (if j < σ.length then some none else none) else σ[j]? := by
    intro vs
    induction vs with
    | nil => intro σ j; rfl
    | cons v vs ih =>
      intro σ j
      show ((wipe σ vs).set v none)[j]? = _
      by_cases hj : j = v
      · subst hj
        rw [if_pos List.mem_cons_self]
        by_cases hl : j < σ.length
        · rw [if_pos hl, List.getElem?_set_self (by rw [wipe_length]; exact hl)]
        · rw [if_neg hl, List.getElem?_eq_none]
          rw [List.length_set, wipe_length]
          omega
      · rw [List.getElem?_set_ne (Ne.symm hj), ih]
        simp [hj]
  intro vs σ σ' hl h
  apply List.ext_getElem?
  intro j
  rw [get, get, hl]
  split
  · rfl
  · rename_i hj
    exact h j hj
theorem Stp.grow {K : PySem.W.Frag} {τ : Tp} {S H S1 H2 : Hp} {D : Addr} (a : Stp K ta τ S H S1 (del H2 D)) : Stp K ta τ S H S1 H2 where
  same := a.same
  sub := a.sub.trans del_sub
  gro := fun b o n e => del_sub _ _ (a.gro b o n e)
  nn := a.nn
  tape := fun b e => ⟨(a.tape b e).1, del_sub _ _ (a.tape b e).2.1, (a.tape b e).2.2⟩
theorem comp_data {elt : E} {tg : Tg} {k : Nat} {its cond : List E} {σ : L2.St} {H : Hp} {Q : VK} {S : Hp} {ρ : Rho} {τ τ' : Tp} {r : R} (hR : Rel X.K ta ρ S σ H) (hT : TpOk X.K ta S H τ) (he : ev Φ Ψ ρ τ (.comp elt tg k its cond) = some (r, τ')) (hQ : Post X.K ta S H τ' r Q) :
    tLc (tIt X.K ta Φ Ψ k its) (gT X.K tg) (tAll X.K ta Φ Ψ cond) (tU X.K ta Φ Ψ elt) (tgVs tg) σ H Q := by
  simp only [ev] at he
  obtain ⟨x, hx, he⟩ := bind_some he
  obtain ⟨ds, hd, he⟩ := bind_some he
  obtain ⟨y, hy, he⟩ := bind_some he
  split at he
  · rename_i hc
    cases he
    refine ⟨S, ρ, τ, x.1, x.2, ds, hR, hT, hx, hd, fun J S1 H1 st1 wk D nD => ?_⟩
    generalize hfe : (fun ρ τ => ev Φ Ψ ρ τ elt) = fe at hy
    generalize hfc : (fun ρ τ => evAll Φ Ψ ρ τ cond) = fc at hy
    have nS : S1 D = none := st1.free' nD
    have nT : ta.a ≠ some D := st1.nta nD
    let Pv : Nat → Hp → Prop := fun i H' => ∃ S' τi acc vs rest, Stp X.K ta τi S1 H1 S' (del H' D) ∧ H' D = some (.lst vs) ∧ S' D = none ∧ RpAll X.K S' vs acc ∧ compL fe fc (wipeR ρ (tgVs tg)) tg (ds.drop i) τi = some (rest, y.2) ∧ y.1 = acc ++ rest
    have start : Pv 0 (upd H1 D (.lst [])) := ⟨S1, x.2, [], [], y.1, by rw [del_upd, del_none nD]; exact Stp.refl st1.sub st1.tape, upd_same, nS, rfl, hy, rfl⟩
    have done : ∀ H', Pv ds.length H' → Q (.ref D) H' := fun H' ⟨S', τi, acc, vs, rest, st, hD, nD', hall, hl, hy'⟩ => by
      rw [List.drop_length] at hl
      unfold compL at hl
      cases hl
      rw [List.append_nil] at hy'
      have st2 := (st1.trans st).grow
      exact hQ (.ref D) S' H' st2 ⟨D, y.1, vs, rfl, rfl, hD, nD', st1.free nD, by rw [hy']; exact hall⟩
    have turn : ∀ (i : Nat) (d : Ev.D) (v : V) (H0 H' : Hp), ds[i]? = some d → Pv i H0 → YldOk X.K S1 H0 H' v d → gT X.K tg v (wipe σ (tgVs tg)) H' fun σ2 H2 => wipe σ2 (tgVs tg) = wipe σ (tgVs tg) ∧ tAll X.K ta Φ Ψ cond σ2 H2 fun b H3 =>
        if b = true then tU X.K ta Φ Ψ elt σ2 H3 fun y H4 => ∃ acc, H4 D = some (.lst acc) ∧ acc.length < sizeLine ∧ Pv (i + 1) (upd H4 D (.lst (acc ++ [y]))) else Pv (i + 1) H3 := by
      intro i d v H0 H' hi ⟨S0, τi, acc, vs, rest, st0, hD0, nD0, hall0, hl, hy'⟩ hv
      have grown : ∃ S', Same S0 S' ∧ Stp X.K ta τi S1 H1 S' (del H' D) ∧ H' D = some (.lst vs) ∧ S' D = none ∧ Rp X.K S' v d := by
        rcases hv with ⟨e, hd⟩ | ⟨T, us, es, ev1, n, e, ed, hes⟩
        · subst e
          exact ⟨S0, Same.refl _, st0, hD0, nD0, Rp.mono st0.same d hd⟩
        · subst e ev1 ed
          have nTD : D ≠ T := fun z => by rw [← z, hD0] at n; cases n
          have nd : del H0 D T = none := by rw [del_ne (Ne.symm nTD)]; exact n
          have st2 := st0.newS (o := .tup us) nd (fun _ _ => trivial)
          have ed : del (upd H0 T (.tup us)) D = upd (del H0 D) T (.tup us) := by
            funext b
            by_cases hb : b = D
            · subst hb; rw [del_same, upd_ne nTD, del_same]
            · rw [del_ne hb]
              by_cases hb2 : b = T
              · subst hb2; rw [upd_same, upd_same]
              · rw [upd_ne hb2, upd_ne hb2, del_ne hb]
          refine ⟨_, same_upd (st0.free' nd), by rw [ed]; exact st2, by rw [upd_ne nTD]; exact hD0, by rw [upd_ne nTD]; exact nD0, ⟨T, us, rfl, SqT.of upd_same, RpAll.mono st2.same es hes⟩⟩
      obtain ⟨S', s0, st, hD, nD', hvd⟩ := grown
      have hall := RpAll.mono s0 acc hall0
      have hlt : i < ds.length := (List.getElem?_eq_some_iff.mp hi).1
      have hdrop : ds.drop i = d :: ds.drop (i + 1) := by
        rw [List.drop_eq_getElem_cons hlt]
        congr 1
        exact (List.getElem?_eq_some_iff.mp hi).2
      rw [hdrop] at hl
      unfold compL at hl
      obtain ⟨ρ1, hρ, hl⟩ := bind_some hl
      obtain ⟨c, hcc, hl⟩ := bind_some hl
      have stH := st.grow
      have relW : Rel X.K ta (wipeR ρ (tgVs tg)) S' (wipe σ (tgVs tg)) H' := ((hR.step st1).step stH).wipe _
      refine tg_ok relW hvd hρ fun σ1 R1 e1 e2 => ⟨?_, ?_⟩
      · have e3 : wipe σ1 (tgVs tg) = wipe (wipe σ (tgVs tg)) (tgVs tg) := wipe_eq (tgVs tg) e2 e1
        rw [e3]
        refine wipe_eq (tgVs tg) (wipe_length _ _) fun j hj => ?_
        exact wipe_out hj
      · refine ⟨S', ρ1, τi, c.1, c.2, R1, stH.tape, by rw [← hfc] at hcc; exact hcc, fun S3 H3 st3 => ?_⟩
        have nD3 : S3 D = none := st3.nn D vs nT hD nD'
        have hD3 : H3 D = some (.lst vs) := st3.gro D _ nT hD
        have del3 : ∀ {τ3 : Tp} {S3 H3 : Hp}, Stp X.K ta τ3 S' H' S3 H3 → S3 D = none → Stp X.K ta τ3 S1 H1 S3 (del H3 D) := fun {τ3 S3 H3} st3 n3 => st.trans ⟨st3.same, fun b o e => by
            have nb : b ≠ D := fun z => by rw [z, n3] at e; cases e
            rw [del_ne nb]; exact st3.sub b o e, fun b o n e => by
            have nb : b ≠ D := fun z => by rw [z, del_same] at e; cases e
            rw [del_ne nb] at e ⊢
            exact st3.gro b o n e, fun b xs n e z => st3.nn b xs n (del_sub _ _ e) z, fun b e => by
            have nb : b ≠ D := fun z => nT (by rw [← z]; exact e)
            obtain ⟨t1, t2, t3⟩ := st3.tape b e
            exact ⟨t1, by rw [del_ne nb]; exact t2, t3⟩⟩
        by_cases hb : c.1 = true
        · rw [if_pos hb] at hl
          obtain ⟨z, hz, hl⟩ := bind_some hl
          obtain ⟨w, hw, hl⟩ := bind_some hl
          obtain ⟨q, hq, hl⟩ := map_some hl
          have hl1 := congrArg Prod.fst hl
          have hl2 := congrArg Prod.snd hl
          simp only at hl1 hl2
          show if c.1 = true then _ else _
          rw [if_pos hb]
          refine ⟨S3, ρ1, c.2, z.1, z.2, R1.step st3, st3.tape, by rw [← hfe] at hz; exact hz, fun v4 S4 H4 st4 u4 => ?_⟩
          have st34 := st3.trans st4
          have nD4 : S4 D = none := st34.nn D vs nT hD nD'
          have hD4 : H4 D = some (.lst vs) := st34.gro D _ nT hD
          have rv : Rp X.K S4 v4 w := u4.st hw
          have hall4 : RpAll X.K S4 (vs ++ [v4]) (acc ++ [w]) := (RpAll.mono st34.same acc hall).append ⟨v4, [], rfl, rv, rfl⟩
          refine ⟨vs, hD4, lt_of ?_, S4, z.2, acc ++ [w], vs ++ [v4], q.1, by rw [del_upd]; exact del3 st34 nD4, upd_same, nD4, hall4, by rw [hq, ← hl2], ?_⟩
          · have h1 := of_decide_eq_true hc
            have h2 := hall.length
            rw [hy', ← hl1, List.length_append, List.length_cons] at h1
            omega
          · rw [hy', ← hl1, List.append_assoc]
            rfl
        · rw [if_neg hb] at hl
          show if c.1 = true then _ else _
          rw [if_neg hb]
          exact ⟨S3, c.2, acc, vs, rest, del3 st3 nD3, hD3, nD3, RpAll.mono st3.same acc hall, hl, hy'⟩
    obtain ⟨G, Y, wk, hG, hY⟩ := wk
    refine lc_it wk Pv start (fun i H' _ ⟨S', τi, acc, vs', rest, st, _⟩ => hG H' (st.same.trans (st.grow).sub) (.inr fun b o nt hb => del_sub _ _ (st.gro b o nt hb))) (fun i x H0 H' hi hP y => ?_) done
    obtain ⟨d, e1, e2⟩ := hY i H0 x H' hi y
    exact turn i d x H0 H' e1 hP e2
  · cases he
end
end Ev

/-! ## Ev8 -/
namespace Ev
open PySem PySem.Spec PyProof.Rows L2

def RetV (K : PySem.W.Frag) (ta : Ta) (S' H' : Hp) (v : V) (r : R) : Prop := match r.k with
  | .S => Rp K S' v r.d
  | .F => ∃ p ds vs, r.d = .list ds ∧ v = .ref p ∧ H' p = some (.lst vs) ∧ S' p = none ∧ RpAll K S' vs ds ∧ ta.a ≠ some p
  | .B => False
def OutP (K : PySem.W.Frag) (ta : Ta) (S : Hp) (D : Ends) : Out → Prop
  | .nx ρ τ => ∀ σ' H' S', Same S S' → Rel K ta ρ S' σ' H' → TpOk K ta S' H' τ → D.nx σ' H'
  | .bk ρ τ => ∀ σ' H' S', Same S S' → Rel K ta ρ S' σ' H' → TpOk K ta S' H' τ → D.bk σ' H'
  | .ct ρ τ => ∀ σ' H' S', Same S S' → Rel K ta ρ S' σ' H' → TpOk K ta S' H' τ → D.ct σ' H'
  | .rt r τ => ∀ v H' S', Same S S' → Same S' H' → TpOk K ta S' H' τ → RetV K ta S' H' v r → D.rt v H'
theorem OutP.mono {K : PySem.W.Frag} {ta : Ta} {S S1 : Hp} {D : Ends} {o : Out} (h : OutP K ta S D o) (s : Same S S1) : OutP K ta S1 D o := by
  cases o with
  | nx ρ τ => exact fun σ' H' S' s' => h σ' H' S' (s.trans s')
  | bk ρ τ => exact fun σ' H' S' s' => h σ' H' S' (s.trans s')
  | ct ρ τ => exact fun σ' H' S' s' => h σ' H' S' (s.trans s')
  | rt r τ => exact fun v H' S' s' => h v H' S' (s.trans s')
section
variable (K : PySem.W.Frag) (ta : Ta) (Φ : Nat → List D → Option R) (Ψ : Nat → List D → Tp → Option (R × Tp)) (N : Nat)
def tSt (c : S) : TS := fun D σ H => ∃ S ρ τ o, Rel K ta ρ S σ H ∧ TpOk K ta S H τ ∧ evS Φ Ψ N ρ τ c = some o ∧ OutP K ta S D o
def tSts (c : List S) : TS := fun D σ H => ∃ S ρ τ o, Rel K ta ρ S σ H ∧ TpOk K ta S H τ ∧ evSs Φ Ψ N ρ τ c = some o ∧ OutP K ta S D o
end
section
variable {K : PySem.W.Frag} {ta : Ta} {ρ : Rho} {S H : Hp} {σ : L2.St}
/-- a fresh list comes into a slot -/
theorem Rel.putOwO {i : Nat} {p : Addr} {ds : List D} {vs : List V} (R : Rel K ta ρ S σ H) (other : ∀ (j : Nat) (dj : List D), ρ[j]? = some (.ow dj) → σ[j]? ≠ some (some (.ref p))) (nt : ta.a ≠ some p) (h : H p = some (.lst vs)) (n : S p = none) (ha : RpAll K S vs ds) :
    Rel K ta (ρ.set i (.ow ds)) S (σ.set i (some (.ref p))) H := by
  refine ⟨by simp [R.len], R.sub, fun j s e => ?_, fun j l dj dl q e1 e2 e3 e4 => ?_⟩
  · by_cases hj : j = i
    · subst hj
      have hl : j < ρ.length := by simpa using (List.getElem?_eq_some_iff.mp e).1
      rw [List.getElem?_set_self hl] at e
      cases e
      exact ⟨p, vs, by rw [List.getElem?_set_self (by rw [← R.len]; exact hl)]; rfl, h, n, ha, nt⟩
    · rw [List.getElem?_set_ne (Ne.symm hj)] at e
      rw [List.getElem?_set_ne (Ne.symm hj)]
      exact R.slot j s e
  · by_cases hj : j = i
    · by_cases hl : l = i
      · rw [hj, hl]
      · subst hj
        have hlj : j < ρ.length := by simpa using (List.getElem?_eq_some_iff.mp e1).1
        rw [List.getElem?_set_self (by rw [← R.len]; exact hlj)] at e3
        cases e3
        rw [List.getElem?_set_ne (Ne.symm hl)] at e2 e4
        exact absurd e4 (other l dl e2)
    · by_cases hl : l = i
      · subst hl
        have hll : l < ρ.length := by simpa using (List.getElem?_eq_some_iff.mp e2).1
        rw [List.getElem?_set_self (by rw [← R.len]; exact hll)] at e4
        cases e4
        rw [List.getElem?_set_ne (Ne.symm hj)] at e1 e3
        exact absurd e3 (other j dj e1)
      · rw [List.getElem?_set_ne (Ne.symm hj)] at e1 e3
        rw [List.getElem?_set_ne (Ne.symm hl)] at e2 e4
        exact R.dist j l dj dl q e1 e2 e3 e4
theorem Rel.putOw {H0 S0 : Hp} {i : Nat} {p : Addr} {ds : List D} {vs : List V} (R0 : Rel K ta ρ S0 σ H0) (R : Rel K ta ρ S σ H) (n0 : H0 p = none) (nt : ta.a ≠ some p) (h : H p = some (.lst vs)) (n : S p = none) (ha : RpAll K S vs ds) :
    Rel K ta (ρ.set i (.ow ds)) S (σ.set i (some (.ref p))) H := by
  have other : ∀ (j : Nat) (dj : List D), ρ[j]? = some (.ow dj) → σ[j]? ≠ some (some (.ref p)) := fun j dj e z => by
    obtain ⟨p', vs', e1, e2, _⟩ := R0.slot j _ e
    have := getD_some e1
    rw [z] at this
    cases this
    rw [n0] at e2; cases e2
  exact Rel.putOwO R other nt h n ha
/-- a slot is left alone from now on -/
theorem Rel.drop {j : Nat} (R : Rel K ta ρ S σ H) : Rel K ta (ρ.set j .un) S σ H := by
  refine ⟨by simp [R.len], R.sub, fun l s e => ?_, fun k l dk dl q e1 e2 e3 e4 => ?_⟩
  · by_cases hl : l = j
    · subst hl
      have hlt : l < ρ.length := by simpa using (List.getElem?_eq_some_iff.mp e).1
      rw [List.getElem?_set_self hlt] at e
      cases e
      trivial
    · rw [List.getElem?_set_ne (Ne.symm hl)] at e
      exact R.slot l s e
  · have no : ∀ {k : Nat} {dk : List D}, (ρ.set j .un)[k]? = some (.ow dk) → ρ[k]? = some (.ow dk) := fun {k dk} e => by
      by_cases hk : k = j
      · subst hk
        have hlt : k < ρ.length := by simpa using (List.getElem?_eq_some_iff.mp e).1
        rw [List.getElem?_set_self hlt] at e
        cases e
      · rw [List.getElem?_set_ne (Ne.symm hk)] at e
        exact e
    exact R.dist k l dk dl q (no e1) (no e2) e3 e4
/-- an owned list is changed -/
theorem Rel.mut {i : Nat} {p : Addr} {ds ds' : List D} {vs vs' : List V} (R : Rel K ta ρ S σ H) (hi : ρ[i]? = some (.ow ds)) (hp : σ[i]? = some (some (.ref p))) (n : S p = none) (nt : ta.a ≠ some p) (ha : RpAll K S vs' ds') :
    Rel K ta (ρ.set i (.ow ds')) S σ (upd H p (.lst vs')) := by
  have hl : i < ρ.length := (List.getElem?_eq_some_iff.mp hi).1
  refine ⟨by simp [R.len], fun b o e => ?_, fun j s e => ?_, fun j l dj dl q e1 e2 e3 e4 => ?_⟩
  · have nb : b ≠ p := fun z => by rw [z, n] at e; cases e
    rw [upd_ne nb]; exact R.sub b o e
  · by_cases hj : j = i
    · subst hj
      rw [List.getElem?_set_self hl] at e
      cases e
      exact ⟨p, vs', by rw [hp]; rfl, upd_same, n, ha, nt⟩
    · rw [List.getElem?_set_ne (Ne.symm hj)] at e
      have h := R.slot j s e
      cases s with
      | un => trivial
      | im d => exact h
      | tp => exact h
      | ow dj =>
        obtain ⟨q, ws, e1, e2, e3, e4, e5⟩ := h
        have nq : q ≠ p := fun z => by
          subst z
          exact hj (R.dist j i dj ds q e hi (getD_some e1) hp)
        exact ⟨q, ws, e1, by rw [upd_ne nq]; exact e2, e3, e4, e5⟩
  · have pre : ∀ (j : Nat) (dj : List D), (ρ.set i (.ow ds'))[j]? = some (.ow dj) → ∃ d0, ρ[j]? = some (.ow d0) := fun j dj e => by
      by_cases hj : j = i
      · subst hj; exact ⟨ds, hi⟩
      · rw [List.getElem?_set_ne (Ne.symm hj)] at e; exact ⟨dj, e⟩
    obtain ⟨d1, f1⟩ := pre j dj e1
    obtain ⟨d2, f2⟩ := pre l dl e2
    exact R.dist j l d1 d2 q f1 f2 e3 e4
theorem TpOk.mut {τ : Tp} {p : Addr} {o : HO} (t : TpOk K ta S H τ) (nt : ta.a ≠ some p) : TpOk K ta S (upd H p o) τ := fun a e => by
  have na : a ≠ p := fun z => nt (by rw [← z]; exact e)
  exact (t a e).mono (Same.refl _) (t a e).1 (upd_ne na)
/-- an owned list is made stable -/
theorem Rel.frzOw {i : Nat} {p : Addr} {ds : List D} {vs : List V} (R : Rel K ta ρ S σ H) (hi : ρ[i]? = some (.ow ds)) (hp : σ[i]? = some (some (.ref p))) (h : H p = some (.lst vs)) (n : S p = none) (ha : RpAll K S vs ds) :
    Rel K ta (ρ.set i (.im (.list ds))) (upd S p (.lst vs)) σ H := by
  have hl : i < ρ.length := (List.getElem?_eq_some_iff.mp hi).1
  have s1 : Same S (upd S p (.lst vs)) := same_upd n
  have pre : ∀ (j : Nat) (dj : List D), (ρ.set i (.im (.list ds)))[j]? = some (.ow dj) → j ≠ i ∧ ρ[j]? = some (.ow dj) := fun j dj e => by
    by_cases hj : j = i
    · subst hj; rw [List.getElem?_set_self hl] at e; cases e
    · rw [List.getElem?_set_ne (Ne.symm hj)] at e; exact ⟨hj, e⟩
  refine ⟨by simp [R.len], fun b o e => ?_, fun j s e => ?_, fun j l dj dl q e1 e2 e3 e4 => R.dist j l dj dl q (pre j dj e1).2 (pre l dl e2).2 e3 e4⟩
  · by_cases hb : b = p
    · subst hb; rw [upd_same] at e; cases e; exact h
    · rw [upd_ne hb] at e; exact R.sub b o e
  · by_cases hj : j = i
    · subst hj
      rw [List.getElem?_set_self hl] at e
      cases e
      exact ⟨.ref p, by rw [hp]; rfl, p, vs, rfl, upd_same, RpAll.mono s1 ds ha⟩
    · rw [List.getElem?_set_ne (Ne.symm hj)] at e
      have q := R.slot j s e
      cases s with
      | un => trivial
      | im d => obtain ⟨v, e1, e2⟩ := q; exact ⟨v, e1, Rp.mono s1 d e2⟩
      | tp => exact q
      | ow dj =>
        obtain ⟨q, ws, e1, e2, e3, e4, e5⟩ := q
        have nq : q ≠ p := fun z => by
          subst z
          exact hj (R.dist j i dj ds q e hi (getD_some e1) hp)
        exact ⟨q, ws, e1, e2, by rw [upd_ne nq]; exact e3, RpAll.mono s1 dj e4, e5⟩
end
section
variable {X : Cx} {ta : Ta} {Φ : Nat → List D → Option R} {Ψ : Nat → List D → Tp → Option (R × Tp)} {N : Nat} {e a b c : Expr} {ca cb cc : E} {x : Str} {p pos : Pos} {es : List Expr} {cs : List E} {st : Stmt} {sts : List Stmt} {s : S} {ss : List S}
theorem s_nil : PSs X [] (tSts X.K ta Φ Ψ N []) := PSs.weak pss_nil fun D σ H ⟨S, ρ, τ, o, hR, hT, he, hO⟩ => by
  simp only [evSs] at he
  cases he
  exact hO σ H S (Same.refl _) hR hT
theorem s_cons (h1 : PS X st (tSt X.K ta Φ Ψ N s)) (h2 : PSs X sts (tSts X.K ta Φ Ψ N ss)) : PSs X (st :: sts) (tSts X.K ta Φ Ψ N (s :: ss)) := PSs.weak (pss_cons h1 h2) fun D σ H ⟨S, ρ, τ, o, hR, hT, he, hO⟩ => by
  simp only [evSs] at he
  obtain ⟨o1, h1, he⟩ := bind_some he
  refine ⟨S, ρ, τ, o1, hR, hT, h1, ?_⟩
  cases o1 with
  | nx ρ1 τ1 => exact fun σ' H' S' s' R' t' => ⟨S', ρ1, τ1, o, R', t', he, hO.mono s'⟩
  | bk ρ1 τ1 => cases he; exact hO
  | ct ρ1 τ1 => cases he; exact hO
  | rt r τ1 => cases he; exact hO
/-- target = value, by data -/
theorem set_data {tg : Tg} {D : Ends} {σ : L2.St} {H : Hp} (h : tSt X.K ta Φ Ψ N (.set tg ca) D σ H) : tAsg (tE X.K ta Φ Ψ ca) (gT X.K tg) D σ H := by
  obtain ⟨S, ρ, τ, o, hR, hT, he, hO⟩ := h
  simp only [evS] at he
  obtain ⟨x, hx, he⟩ := bind_some he
  obtain ⟨ρ1, hp, he⟩ := map_some he
  cases he
  refine ⟨S, ρ, τ, x.1, x.2, hR, hT, hx, fun v S1 H1 st rv => ?_⟩
  have R1 := hR.step st
  cases tg with
  | nm i =>
    obtain ⟨⟨k, d⟩, τ'⟩ := x
    cases k with
    | B => cases d <;> simp [putTg, putR] at hp
    | S =>
      simp only [putTg, putR, Option.some.injEq] at hp
      subst hp
      exact hO _ H1 S1 st.same (R1.put rv) st.tape
    | F =>
      obtain ⟨q, ds, vs, e1, e2, e3, e4, e5, e6⟩ := rv
      have e1' : d = .list ds := e1
      subst e1' e2
      simp only [putTg, putR, Option.some.injEq] at hp
      subst hp
      exact hO _ H1 S1 st.same (Rel.putOw hR R1 e5 (st.ntaF hT e5) e3 e4 e6) st.tape
  | tu is =>
    obtain ⟨⟨k, d⟩, τ'⟩ := x
    have hd : ∃ ds, d = .tuple ds := by cases d <;> simp only [putTg] at hp <;> first | cases hp | exact ⟨_, rfl⟩
    obtain ⟨ds, rfl⟩ := hd
    simp only [putTg] at hp
    have rp : Rp X.K S1 v (.tuple ds) := by
      cases k with
      | S => exact rv
      | B => obtain ⟨q, _, _, z, _⟩ := rv; cases z
      | F => obtain ⟨q, _, _, z, _⟩ := rv; cases z
    exact tg_ok (tg := .tu is) R1 rp hp fun σ1 R2 _ _ => hO σ1 H1 S1 st.same R2 st.tape
theorem s_set {i : Nat} {pos' : Pos} (hN : X.N.Nodup) (hi : X.N[i]? = some x) (hx : Loc X.env.scope x) (he : PE X e (tE X.K ta Φ Ψ ca)) (hs : swapsWith e (some (.Name x pos')) pos.line X.env = pure false) (hf : X.fn x = true ∨ X.env.scope.names.lookup x = some .local) :
    PS X (.Assign [.Name x pos'] e pos) (tSt X.K ta Φ Ψ N (.set (.nm i) ca)) := PS.weak (ps_set hN hi hx he hs hf) fun D σ H h => set_data h
theorem s_asg {tg : Expr} {t : Tg} (he : PE X e (tE X.K ta Φ Ψ ca)) (hg : PG X tg (gT X.K t)) (hs : swapsWithSole [tg] e pos.line X.env = pure false) (hw : swappedStores [tg] e X.env = pure none) (h1 : (assignEach [tg] X.env).map (·.2) = [assign tg X.env]) :
    PS X (.Assign [tg] e pos) (tSt X.K ta Φ Ψ N (.set t ca)) := PS.weak (ps_asg he hg hs hw h1) fun D σ H h => set_data h
theorem par_ok {K : PySem.W.Frag} {S H : Hp} {v : V} {r : R} {d : D} (u : UV K ta S H v r) (h : stb r = some d) : Rp K S v d := u.st h
theorem s_par2 {i j : Nat} {y : Str} {px py pt : Pos} {kt k2 pt2} (hc : X.calm = true) (hN : X.N.Nodup) (hi : X.N[i]? = some x) (hj : X.N[j]? = some y) (hij : i ≠ j) (hx : X.env.scope.names.lookup x = some .local) (hy : X.env.scope.names.lookup y = some .local) (ha : PA X [a, b] (tAs X.K ta Φ Ψ [ca, cb]))
    (hw : swappedStores [.Tuple [.Name x px, .Name y py] kt pt] (.Tuple [a, b] k2 pt2) X.env = pure (some [x, y])) (hs : swapsWithSole [.Tuple [.Name x px, .Name y py] kt pt] (.Tuple [a, b] k2 pt2) pos.line X.env = pure false) :
    PS X (.Assign [.Tuple [.Name x px, .Name y py] kt pt] (.Tuple [a, b] k2 pt2) pos) (tSt X.K ta Φ Ψ N (.par2 i j ca cb)) := PS.weak (ps_par hc hN hi hj hij hx hy ha hw hs) fun D σ H ⟨S, ρ, τ, o, hR, hT, he, hO⟩ => by
  simp only [evS] at he
  obtain ⟨x1, h1, he⟩ := bind_some he
  obtain ⟨x2, h2, he⟩ := bind_some he
  obtain ⟨v1, g1, he⟩ := bind_some he
  obtain ⟨v2, g2, he⟩ := map_some he
  cases he
  refine ⟨S, ρ, τ, [x1.1, x2.1], x2.2, hR, hT, by simp [evs, h1, h2], fun vs S1 H1 st u => ?_⟩
  cases vs with
  | nil => exact u.elim
  | cons w1 vs => cases vs with
    | nil => exact u.2.elim
    | cons w2 vs => cases vs with
      | cons _ _ => exact u.2.2.elim
      | nil => exact ⟨w1, w2, rfl, hO _ H1 S1 st.same (((hR.step st).put (u.1.st g1)).put (u.2.1.st g2)) st.tape⟩
theorem s_par3 {i j l : Nat} {y z : Str} {px py pz pt : Pos} {kt k2 pt2} (hc : X.calm = true) (hN : X.N.Nodup) (hi : X.N[i]? = some x) (hj : X.N[j]? = some y) (hl : X.N[l]? = some z) (hij : i ≠ j) (hil : i ≠ l) (hjl : j ≠ l) (hx : X.env.scope.names.lookup x = some .local) (hy : X.env.scope.names.lookup y = some .local) (hz : X.env.scope.names.lookup z = some .local)
    (ha : PA X [a, b, c] (tAs X.K ta Φ Ψ [ca, cb, cc])) (h : PS X (.Assign [.Tuple [.Name x px, .Name y py, .Name z pz] kt pt] (.Tuple [a, b, c] k2 pt2) pos) (tPar3 i j l (tAs X.K ta Φ Ψ [ca, cb, cc]))) :
    PS X (.Assign [.Tuple [.Name x px, .Name y py, .Name z pz] kt pt] (.Tuple [a, b, c] k2 pt2) pos) (tSt X.K ta Φ Ψ N (.par3 i j l ca cb cc)) := PS.weak h fun D σ H ⟨S, ρ, τ, o, hR, hT, he, hO⟩ => by
  simp only [evS] at he
  obtain ⟨x1, h1, he⟩ := bind_some he
  obtain ⟨x2, h2, he⟩ := bind_some he
  obtain ⟨x3, h3, he⟩ := bind_some he
  obtain ⟨v1, g1, he⟩ := bind_some he
  obtain ⟨v2, g2, he⟩ := bind_some he
  obtain ⟨v3, g3, he⟩ := map_some he
  cases he
  refine ⟨S, ρ, τ, [x1.1, x2.1, x3.1], x3.2, hR, hT, by simp [evs, h1, h2, h3], fun vs S1 H1 st u => ?_⟩
  cases vs with
  | nil => exact u.elim
  | cons w1 vs => cases vs with
    | nil => exact u.2.elim
    | cons w2 vs => cases vs with
      | nil => exact u.2.2.elim
      | cons w3 vs => cases vs with
        | cons _ _ => exact u.2.2.2.elim
        | nil => exact ⟨w1, w2, w3, rfl, hO _ H1 S1 st.same ((((hR.step st).put (u.1.st g1)).put (u.2.1.st g2)).put (u.2.2.1.st g3)) st.tape⟩
/-- name op= value -/
theorem imulW : OpR X (inplaceOp .Mult) (rI CMulW fun i j => .int (i * j)) := opI fun _ _ _ _ _ _ _ hc q => imul_int q hc.ok
def rAug (op : Bo) : TIp := fun x y H Q => ∃ i j k, x = .int i ∧ y = .int j ∧ augD op (.int i) (.int j) = some (.int k) ∧ Q (.int k) H
theorem aug_run (op : Bo) : PIp X (boO op) (rAug op) := by
  intro pins s σ H x y v u Q I rx ry ⟨i, j, k, ex, ey, e, q⟩
  subst ex ey
  cases op with
  | add => simp only [augD] at e; cases e; exact iop_add pins s σ H _ _ v u Q I rx ry ⟨i, j, rfl, rfl, q⟩
  | sub => simp only [augD] at e; cases e; exact iop_sub pins s σ H _ _ v u Q I rx ry ⟨i, j, rfl, rfl, q⟩
  | mul =>
    simp only [augD] at e
    by_cases hc : mulFits i j = true
    · rw [if_pos hc] at e
      cases e
      exact imulW pins s σ H _ _ v u Q I rx ry ⟨i, j, rfl, rfl, (show CMulW i j by unfold CMulW; unfold mulFits at hc; exact of_decide_eq_true hc), q⟩
    · rw [if_neg hc] at e; cases e
  | fdiv =>
    simp only [augD, divFits, Bool.and_eq_true, decide_eq_true_eq] at e
    split at e
    · rename_i hc
      cases e
      refine iop_fdivW pins s σ H _ _ v u Q I rx ry ⟨i, j, rfl, rfl, ⟨hc.2, hc.1.2⟩, ?_⟩
      have h0 : 0 ≤ j := by omega
      rw [Int.fdiv_eq_ediv_of_nonneg i h0] at q
      exact q
    · cases e
  | mod =>
    simp only [augD, decide_eq_true_eq] at e
    split at e
    · rename_i hc
      cases e
      refine iop_mod pins s σ H _ _ v u Q I rx ry ⟨i, j, rfl, rfl, hc, ?_⟩
      have h0 : 0 ≤ j := by omega
      rw [Int.fmod_eq_emod_of_nonneg i h0] at q
      exact q
    · cases e
  | pow => cases e
theorem s_aug {i : Nat} {op : Bo} {pos' : Pos} (hN : X.N.Nodup) (hi : X.N[i]? = some x) (hx : Loc X.env.scope x) (he : PE X e (tE X.K ta Φ Ψ ca)) (hf : X.fn x = true ∨ X.env.scope.names.lookup x = some .local) :
    PS X (.AugAssign (.Name x pos') (boO op) e pos) (tSt X.K ta Φ Ψ N (.aug i op ca)) := PS.weak (ps_aug hN hi hx he.use (aug_run op) hf) fun D σ H ⟨S, ρ, τ, o, hR, hT, hv, hO⟩ => by
  simp only [evS] at hv
  split at hv
  · rename_i d hq
    obtain ⟨y, hy, hv⟩ := bind_some hv
    obtain ⟨r, hr, hv⟩ := map_some hv
    cases hv
    obtain ⟨v, e1, e2⟩ := hR.slot i _ hq
    refine ⟨v, getD_some e1, one_ok hR hT hy fun vx S1 H1 st u => ?_⟩
    have isI : ∃ k l m, d = .int k ∧ y.1.d = .int l ∧ r = .int m := by
      cases d <;> cases q : y.1.d <;> rw [q] at hr <;> cases op <;> simp [augD] at hr <;> first | exact ⟨_, _, _, rfl, rfl, hr.symm⟩ | exact ⟨_, _, _, rfl, rfl, hr.2.symm⟩
    obtain ⟨k, l, m, rfl, q2, rfl⟩ := isI
    rw [q2] at hr
    refine ⟨k, l, m, e2, u.int q2, hr, hO _ H1 S1 st.same ((hR.step st).put (show Rp X.K S1 (.int m) (.int m) from rfl)) st.tape⟩
  · cases hv
/-- methods of an owned list -/
theorem ow_at {S H : Hp} {ρ : Rho} {σ : L2.St} {i : Nat} {ds : List D} (hR : Rel X.K ta ρ S σ H) (hi : ρ[i]? = some (.ow ds)) : ∃ p vs, σ[i]? = some (some (.ref p)) ∧ H p = some (.lst vs) ∧ S p = none ∧ RpAll X.K S vs ds ∧ ta.a ≠ some p := by
  obtain ⟨p, vs, e1, e2⟩ := hR.slot i _ hi
  exact ⟨p, vs, getD_some e1, e2⟩
theorem s_app {i : Nat} (h : PS X st (tDrop (tBM X.K "list" rAppend (tVar i) (tCons (tU X.K ta Φ Ψ ca) tNil)))) : PS X st (tSt X.K ta Φ Ψ N (.app i ca)) := PS.weak h fun D σ H ⟨S, ρ, τ, o, hR, hT, hv, hO⟩ => by
  simp only [evS] at hv
  split at hv
  · rename_i ds hq
    obtain ⟨y, hy, hv⟩ := bind_some hv
    obtain ⟨d, hd, hv⟩ := bind_some hv
    split at hv
    · rename_i hc
      cases hv
      obtain ⟨p, vs, e1, e2, e3, e4, e5⟩ := ow_at hR hq
      refine ⟨.ref p, e1, .inl ⟨rfl, vs, SqL.of e2⟩, one_ok hR hT hy fun vx S1 H1 st u => ?_⟩
      have R1 := hR.step st
      have f2 : H1 p = some (.lst vs) := st.gro _ _ e5 e2
      have f3 : S1 p = none := st.nn _ _ e5 e2 e3
      refine ⟨p, vs, vx, rfl, rfl, f2, lt_of (by rw [e4.length]; exact of_decide_eq_true hc), ?_⟩
      exact hO σ _ S1 st.same (R1.mut hq e1 f3 e5 ((RpAll.mono st.same ds e4).append ⟨vx, [], rfl, u.st hd, rfl⟩) (vs := vs)) (st.tape.mut e5)
    · cases hv
  · cases hv
theorem s_ext {i : Nat} (h : PS X st (tDrop (tBM X.K "list" rExtend (tVar i) (tCons (tU X.K ta Φ Ψ ca) tNil)))) : PS X st (tSt X.K ta Φ Ψ N (.ext i ca)) := PS.weak h fun D σ H ⟨S, ρ, τ, o, hR, hT, hv, hO⟩ => by
  simp only [evS] at hv
  split at hv
  · rename_i ds hq
    obtain ⟨y, hy, hv⟩ := bind_some hv
    split at hv
    · rename_i es hd
      split at hv
      · rename_i hc
        cases hv
        obtain ⟨p, vs, e1, e2, e3, e4, e5⟩ := ow_at hR hq
        refine ⟨.ref p, e1, .inl ⟨rfl, vs, SqL.of e2⟩, one_ok hR hT hy fun vx S1 H1 st u => ?_⟩
        have R1 := hR.step st
        have f2 : H1 p = some (.lst vs) := st.gro _ _ e5 e2
        have f3 : S1 p = none := st.nn _ _ e5 e2 e3
        obtain ⟨q, ws, rfl, g1, g2⟩ := u.lst st.sub hd
        have hc' := of_decide_eq_true hc
        rw [List.length_append, ← e4.length, ← g2.length] at hc'
        refine ⟨p, q, vs, ws, rfl, rfl, f2, g1, len_of hc', ?_⟩
        exact hO σ _ S1 st.same (R1.mut hq e1 f3 e5 ((RpAll.mono st.same ds e4).append g2) (vs := vs)) (st.tape.mut e5)
      · cases hv
    · cases hv
  · cases hv
theorem RpAll.dropLast {K : PySem.W.Frag} {H : Hp} {ds : List D} {vs : List V} (h : RpAll K H vs ds) : RpAll K H vs.dropLast ds.dropLast := by
  rw [List.dropLast_eq_take, List.dropLast_eq_take, h.length]
  exact RpAll.take _ h
theorem s_pop {i : Nat} (h : PS X st (tDrop (tBM0 X.K "list" rPop (tVar i)))) : PS X st (tSt X.K ta Φ Ψ N (.pop i)) := PS.weak h fun D σ H ⟨S, ρ, τ, o, hR, hT, hv, hO⟩ => by
  simp only [evS] at hv
  split at hv
  · rename_i ds hq
    split at hv
    · cases hv
    · rename_i hne
      cases hv
      obtain ⟨p, vs, e1, e2, e3, e4, e5⟩ := ow_at hR hq
      have hl : 0 < vs.length := by
        rw [e4.length]
        cases ds with
        | nil => simp at hne
        | cons _ _ => simp
      refine ⟨.ref p, e1, .inl ⟨rfl, vs, SqL.of e2⟩, p, vs, vs[vs.length - 1]'(by omega), rfl, rfl, e2, List.getElem?_eq_getElem _, ?_⟩
      exact hO σ _ S (Same.refl _) (hR.mut hq e1 e3 e5 (RpAll.dropLast e4) (vs := vs)) (hT.mut e5)
  · cases hv
theorem popt_data {tg : Tg} {i : Nat} {D : Ends} {σ : L2.St} {H : Hp} (h : tSt X.K ta Φ Ψ N (.popt tg i) D σ H) : tAsg (tBM0 X.K "list" rPop (tVar i)) (gT X.K tg) D σ H := by
  obtain ⟨S, ρ, τ, o, hR, hT, hv, hO⟩ := h
  simp only [evS] at hv
  split at hv
  · rename_i ds hq
    split at hv
    · rename_i d hd
      obtain ⟨ρ1, h1, hv⟩ := map_some hv
      cases hv
      obtain ⟨p, vs, e1, e2, e3, e4, e5⟩ := ow_at hR hq
      have hne : ds ≠ [] := fun z => by subst z; cases hd
      have hd' : ds[ds.length - 1]? = some d := by rw [List.getLast?_eq_getElem?] at hd; exact hd
      obtain ⟨y, y1, y2⟩ := e4.get hd'
      rw [← e4.length] at y1
      refine ⟨.ref p, e1, .inl ⟨rfl, vs, SqL.of e2⟩, p, vs, y, rfl, rfl, e2, y1, ?_⟩
      have R1 := hR.mut hq e1 e3 e5 (RpAll.dropLast e4) (vs := vs)
      exact tg_ok R1 y2 h1 fun σ1 R2 _ _ => hO σ1 _ S (Same.refl _) R2 (hT.mut e5)
    · cases hv
  · cases hv
theorem mov_data {i j : Nat} {D : Ends} {σ : L2.St} {H : Hp} (h : tSt X.K ta Φ Ψ N (.mov i j) D σ H) : tAsg (tVar j) (gT X.K (.nm i)) D σ H := by
  obtain ⟨S, ρ, τ, o, hR, hT, hv, hO⟩ := h
  simp only [evS] at hv
  split at hv
  · rename_i d hq
    cases hv
    obtain ⟨v, e1, e2⟩ := hR.slot j _ hq
    exact ⟨v, getD_some e1, hO _ H S (Same.refl _) (hR.put e2) hT⟩
  · rename_i ds hq
    cases hv
    obtain ⟨p, vs, e1, e2, e3, e4, e5⟩ := ow_at hR hq
    refine ⟨.ref p, e1, hO _ H S (Same.refl _) ?_ hT⟩
    refine Rel.putOwO (vs := vs) hR.drop (fun l dl el z => ?_) e5 e2 e3 e4
    by_cases hl : l = j
    · subst hl
      have hlt : l < ρ.length := (List.getElem?_eq_some_iff.mp hq).1
      rw [List.getElem?_set_self hlt] at el
      cases el
    · rw [List.getElem?_set_ne (Ne.symm hl)] at el
      exact hl (hR.dist l j dl ds p el hq z e1)
  · cases hv
theorem s_sti {i : Nat} (h : PS X st (tAsg (tU X.K ta Φ Ψ ca) (gSub (tVar i) (tU X.K ta Φ Ψ cb) rSetL))) : PS X st (tSt X.K ta Φ Ψ N (.sti i cb ca)) := PS.weak h fun D σ H ⟨S, ρ, τ, o, hR, hT, hv, hO⟩ => by
  simp only [evS] at hv
  obtain ⟨y, hy, hv⟩ := bind_some hv
  obtain ⟨d, hd, hv⟩ := bind_some hv
  split at hv
  · rename_i ds hq
    obtain ⟨z, hz, hv⟩ := bind_some hv
    obtain ⟨k, hk, hv⟩ := bind_some hv
    obtain ⟨j, hj, hv⟩ := map_some hv
    cases hv
    refine one_ok hR hT hy fun vx S1 H1 st u => ?_
    have R1 := hR.step st
    obtain ⟨p, vs, e1, e2, e3, e4, e5⟩ := ow_at R1 hq
    refine ⟨.ref p, e1, one_ok R1 st.tape hz fun vy S2 H2 st2 u2 => ?_⟩
    have R2 := R1.step st2
    have f2 : H2 p = some (.lst vs) := st2.gro _ _ e5 e2
    have f3 : S2 p = none := st2.nn _ _ e5 e2 e3
    refine ⟨p, vs, k, j, rfl, u2.int (intOf_some hk), f2, by rw [e4.length]; exact hj, ?_⟩
    exact hO σ _ S2 (st.trans st2).same (R2.mut hq e1 f3 e5 (RpAll.set j (RpAll.mono st2.same ds e4) (Rp.mono st2.same d (u.st hd))) (vs := vs)) (st2.tape.mut e5)
  · cases hv
/-- return -/
theorem s_ret (he : PE X e (tE X.K ta Φ Ψ ca)) : PS X (.Return (some e) pos) (tSt X.K ta Φ Ψ N (.ret ca)) := PS.weak (ps_ret he) fun D σ H ⟨S, ρ, τ, o, hR, hT, hv, hO⟩ => by
  simp only [evS] at hv
  obtain ⟨y, hy, hv⟩ := bind_some hv
  refine ⟨S, ρ, τ, y.1, y.2, hR, hT, hy, fun v S1 H1 st rv => ?_⟩
  obtain ⟨⟨k, d⟩, τ'⟩ := y
  cases k with
  | B => cases hv
  | S => cases hv; exact hO v H1 S1 st.same st.sub st.tape rv
  | F =>
    cases hv
    obtain ⟨q, ds, vs, e1, e2, e3, e4, e5, e6⟩ := rv
    exact hO v H1 S1 st.same st.sub st.tape ⟨q, ds, vs, e1, e2, e3, e4, e6, st.ntaF hT e5⟩
theorem s_retv {i : Nat} (he : PE X e (tVar i)) : PS X (.Return (some e) pos) (tSt X.K ta Φ Ψ N (.retv i)) := PS.weak (ps_ret he) fun D σ H ⟨S, ρ, τ, o, hR, hT, hv, hO⟩ => by
  simp only [evS] at hv
  split at hv
  · rename_i d hq
    cases hv
    obtain ⟨v, e1, e2⟩ := hR.slot i _ hq
    exact ⟨v, getD_some e1, hO v H S (Same.refl _) hR.sub hT e2⟩
  · rename_i ds hq
    cases hv
    obtain ⟨p, vs, e1, e2, e3, e4, e5⟩ := ow_at hR hq
    exact ⟨.ref p, e1, hO _ H S (Same.refl _) hR.sub hT ⟨p, ds, vs, rfl, rfl, e2, e3, e4, e5⟩⟩
  · cases hv
theorem s_retn : PS X (.Return none pos) (tSt X.K ta Φ Ψ N .retn) := PS.weak ps_retN fun D σ H ⟨S, ρ, τ, o, hR, hT, hv, hO⟩ => by
  simp only [evS] at hv
  cases hv
  exact hO .non H S (Same.refl _) hR.sub hT (show Rp X.K S .non .none from rfl)
theorem s_ite {sa sb : List Stmt} {xa xb : List S} (hc : PT X c (tT X.K ta Φ Ψ cc)) (ha : PSs X sa (tSts X.K ta Φ Ψ N xa)) (hb : PSs X sb (tSts X.K ta Φ Ψ N xb)) : PS X (.If c sa sb pos) (tSt X.K ta Φ Ψ N (.ite cc xa xb)) := PS.weak (ps_if hc ha hb) fun D σ H ⟨S, ρ, τ, o, hR, hT, hv, hO⟩ => by
  simp only [evS] at hv
  obtain ⟨y, hy, hv⟩ := bind_some hv
  split at hv
  · rename_i q
    exact ⟨S, ρ, τ, y.1, y.2, true, hR, hT, hy, q, fun S1 H1 st => iteT ⟨S1, ρ, y.2, o, hR.step st, st.tape, hv, hO.mono st.same⟩⟩
  · rename_i q
    exact ⟨S, ρ, τ, y.1, y.2, false, hR, hT, hy, q, fun S1 H1 st => iteF ⟨S1, ρ, y.2, o, hR.step st, st.tape, hv, hO.mono st.same⟩⟩
  · cases hv
theorem s_whl {body : List Stmt} (hp : PassesOwn (model X.prog X.w) X.A X.env X.xe) (hc : PT X c (tT X.K ta Φ Ψ cc)) (hb : PSs X body (tSts X.K ta Φ Ψ N ss)) : PS X (.While c body [] pos) (tSt X.K ta Φ Ψ N (.whl cc ss)) := PS.weak (ps_while hp hc hb) fun D σ H ⟨S, ρ, τ, o, hR, hT, hv, hO⟩ => by
  simp only [evS] at hv
  generalize hf : (fun ρ τ => evSs Φ Ψ N ρ τ ss) = f at hv
  generalize hg : (fun ρ τ => ev Φ Ψ ρ τ cc) = g at hv
  refine ⟨fun m σ' H' => ∃ S' ρ' τ', Same S S' ∧ Rel X.K ta ρ' S' σ' H' ∧ TpOk X.K ta S' H' τ' ∧ whL g f m ρ' τ' = some o, ⟨N, S, ρ, τ, Same.refl _, hR, hT, hv⟩, ?_⟩
  rintro m σ' H' ⟨S', ρ', τ', s', R', t', w⟩
  cases m with
  | zero => cases w
  | succ m =>
    unfold whL at w
    obtain ⟨y, hy, w⟩ := bind_some w
    rw [← hg] at hy
    split at w
    · rename_i q
      obtain ⟨o1, h1, w⟩ := bind_some w
      rw [← hf] at h1
      refine ⟨S', ρ', τ', y.1, y.2, true, R', t', hy, q, fun S1 H1 st => iteT ⟨fun σ2 H2 => ∃ S2 ρ2 τ2, Same S S2 ∧ Rel X.K ta ρ2 S2 σ2 H2 ∧ TpOk X.K ta S2 H2 τ2 ∧ whL g f m ρ2 τ2 = some o, fun σ2 H2 h => ⟨m, Nat.lt_succ_self m, h⟩, ?_⟩⟩
      refine ⟨S1, ρ', y.2, o1, R'.step st, st.tape, h1, ?_⟩
      have sS := s'.trans st.same
      cases o1 with
      | nx ρ1 τ1 => exact fun σ2 H2 S2 s2 R2 t2 => ⟨S2, ρ1, τ1, sS.trans s2, R2, t2, w⟩
      | ct ρ1 τ1 => exact fun σ2 H2 S2 s2 R2 t2 => ⟨S2, ρ1, τ1, sS.trans s2, R2, t2, w⟩
      | bk ρ1 τ1 => cases w; exact fun σ2 H2 S2 s2 R2 t2 => hO σ2 H2 S2 (sS.trans s2) R2 t2
      | rt r τ1 => cases w; exact fun v H2 S2 s2 => hO v H2 S2 (sS.trans s2)
    · rename_i q
      cases w
      exact ⟨S', ρ', τ', y.1, y.2, false, R', t', hy, q, fun S1 H1 st => iteF (hO σ' H1 S1 (s'.trans st.same) (R'.step st) st.tape)⟩
    · cases w
/-- a for over what is stable -/
theorem for_core {tb : TS} {tg : Tg} {D : Ends} {f : Rho → Tp → Option Out} {J : It} {S1 H1 : Hp} {σ : L2.St} {ρ : Rho} {τ : Tp} {o : Out} {ds : List Ev.D} (hb : ∀ D σ H S ρ τ o, Rel X.K ta ρ S σ H → TpOk X.K ta S H τ → f ρ τ = some o → OutP X.K ta S D o → tb D σ H)
    (hR : Rel X.K ta ρ S1 σ H1) (hT : TpOk X.K ta S1 H1 τ) (hv : forL f tg ds ρ τ = some o) (hO : OutP X.K ta S1 D o) (wk : WalkOk X.K ta true J S1 H1 ds) :
    ∃ W : Nat → Nat → L2.St → Hp → Prop, (∃ m, W 0 m σ H1) ∧ ∀ i m σ H, W i m σ H →
      (J.stop i H ∧ D.nx σ H) ∨ (J.go i H ∧ ∃ N : L2.St → Hp → Prop, (∀ σ' H', N σ' H' → ∃ m', m' < m ∧ W (i + 1) m' σ' H') ∧ ∀ x H', J.yld i H x H' → gT X.K tg x σ H' fun σ2 H2 => tb { D with nx := N, ct := N, bk := D.nx } σ2 H2) := by
  let Pv : Nat → L2.St → Hp → Prop := fun i σ' H' => ∃ S' ρ' τ', Same S1 S' ∧ Rel X.K ta ρ' S' σ' H' ∧ TpOk X.K ta S' H' τ' ∧ forL f tg (ds.drop i) ρ' τ' = some o
  have start : Pv 0 σ H1 := ⟨S1, ρ, τ, Same.refl _, hR, hT, hv⟩
  have done : ∀ σ' H', Pv ds.length σ' H' → D.nx σ' H' := fun σ' H' ⟨S', ρ', τ', s, R', t', w⟩ => by
    rw [List.drop_length] at w
    cases w
    exact hO σ' H' S' s R' t'
  have turn : ∀ (i : Nat) (d : Ev.D) (v : V) (σ' : L2.St) (H' H2 : Hp), ds[i]? = some d → Pv i σ' H' → YldOk X.K S1 H' H2 v d → gT X.K tg v σ' H2 fun σ2 H2 => tb { D with nx := Pv (i + 1), ct := Pv (i + 1), bk := D.nx } σ2 H2 := by
    intro i d v σ' H' H2 hi ⟨S', ρ', τ', s, R', t', w⟩ hd
    have hlt : i < ds.length := (List.getElem?_eq_some_iff.mp hi).1
    have hdrop : ds.drop i = d :: ds.drop (i + 1) := by
      rw [List.drop_eq_getElem_cons hlt]
      congr 1
      exact (List.getElem?_eq_some_iff.mp hi).2
    rw [hdrop] at w
    unfold forL at w
    obtain ⟨ρ1, h1, w⟩ := bind_some w
    obtain ⟨o1, h2, w⟩ := bind_some w
    have hnew : ∃ S2, Same S' S2 ∧ Rel X.K ta ρ' S2 σ' H2 ∧ TpOk X.K ta S2 H2 τ' ∧ Rp X.K S2 v d := by
      rcases hd with ⟨e, hd⟩ | ⟨T, vs, es, ev1, n, e, ed, hall⟩
      · subst e
        exact ⟨S', Same.refl _, R', t', Rp.mono s d hd⟩
      · subst e ev1 ed
        have st : Stp X.K ta τ' S' H' (upd S' T (.tup vs)) (upd H' T (.tup vs)) := (Stp.refl R'.sub t').newS n (fun _ _ => trivial)
        exact ⟨_, st.same, R'.step st, st.tape, ⟨T, vs, rfl, SqT.of upd_same, RpAll.mono (s.trans st.same) es hall⟩⟩
    obtain ⟨S2, s2, R2, t2, hd2⟩ := hnew
    refine tg_ok R2 hd2 h1 fun σ1 R1 _ _ => ?_
    refine hb _ σ1 H2 S2 ρ1 τ' o1 R1 t2 h2 ?_
    have sS := s.trans s2
    cases o1 with
    | nx ρ2 τ2 => exact fun σ3 H3 S3 s3 R3 t3 => ⟨S3, ρ2, τ2, sS.trans s3, R3, t3, w⟩
    | ct ρ2 τ2 => exact fun σ3 H3 S3 s3 R3 t3 => ⟨S3, ρ2, τ2, sS.trans s3, R3, t3, w⟩
    | bk ρ2 τ2 => cases w; exact fun σ3 H3 S3 s3 R3 t3 => hO σ3 H3 S3 (sS.trans s3) R3 t3
    | rt r τ2 => cases w; exact fun v2 H3 S3 s3 => hO v2 H3 S3 (sS.trans s3)
  obtain ⟨G, Y, wk, hG, hY⟩ := wk
  refine for_it wk Pv start (fun i σ' H' _ ⟨S', ρ', τ', s, R', _⟩ => hG H' (s.trans R'.sub) (.inl rfl)) (fun i x σ' H' H2 hi hP y => ?_) done
  obtain ⟨d, e1, e2⟩ := hY i H' x H2 hi y
  exact turn i d x σ' H' H2 e1 hP e2
theorem s_for {tg iter : Expr} {body : List Stmt} {t : Tg} {k : Nat} {its : List E} (hp : PassesOwn (model X.prog X.w) X.A X.env X.xe) (hc : X.calm = true) (hi : PI X tg iter (tIt X.K ta Φ Ψ k its)) (hg : PG X tg (gT X.K t)) (hb : PSs X body (tSts X.K ta Φ Ψ N ss))
    (hs : ∀ x, foldedSetIterable iter X.env x = pure x) : PS X (.For tg iter body [] pos) (tSt X.K ta Φ Ψ N (.for_ t k its ss)) := PS.weak (ps_for hp hc hi hg hb hs) fun D σ H ⟨S, ρ, τ, o, hR, hT, hv, hO⟩ => by
  simp only [evS] at hv
  obtain ⟨y, hy, hv⟩ := bind_some hv
  obtain ⟨ds, hd, hv⟩ := bind_some hv
  split at hv
  · cases hv
  · rename_i hnb
    refine ⟨S, ρ, τ, y.1, y.2, ds, hR, hT, hy, hd, fun J S1 H1 st wk => ?_⟩
    have hnb' : (!y.1.any fun r => r.k == .B) = true := by simpa using hnb
    rw [hnb'] at wk
    exact for_core (f := fun ρ τ => evSs Φ Ψ N ρ τ ss) (fun D σ H S ρ τ o h1 h2 h3 h4 => ⟨S, ρ, τ, o, h1, h2, h3, h4⟩) (hR.step st) st.tape hv (hO.mono st.same) wk
theorem s_forv {tg : Expr} {body : List Stmt} {t : Tg} {i : Nat} (hp : PassesOwn (model X.prog X.w) X.A X.env X.xe) (hc : X.calm = true) (hi : PE X e (tVar i)) (hg : PG X tg (gT X.K t)) (hb : PSs X body (tSts X.K ta Φ Ψ N ss))
    (hs : ∀ x, foldedSetIterable e X.env x = pure x) : PS X (.For tg e body [] pos) (tSt X.K ta Φ Ψ N (.forv t i ss)) := PS.weak (ps_for hp hc (pi_seq hi) hg hb hs) fun D σ H ⟨S, ρ, τ, o, hR, hT, hv, hO⟩ => by
  simp only [evS] at hv
  split at hv
  · rename_i ds hq
    obtain ⟨p, vs, e1, e2, e3, e4, e5⟩ := ow_at hR hq
    have s1 : Same S (upd S p (.lst vs)) := same_upd e3
    have hT1 : TpOk X.K ta (upd S p (.lst vs)) H τ := fun a ea => by
      have na : a ≠ p := fun z => e5 (by rw [← z]; exact ea)
      exact (hT a ea).mono s1 (by rw [upd_ne na]; exact (hT a ea).1) rfl
    refine ⟨.ref p, e1, p, rfl, .inl ⟨⟨vs, SqL.of e2⟩, ?_⟩⟩
    exact for_core (f := fun ρ τ => evSs Φ Ψ N ρ τ ss) (fun D σ H S ρ τ o h1 h2 h3 h4 => ⟨S, ρ, τ, o, h1, h2, h3, h4⟩) (hR.frzOw hq e1 e2 e3 e4) hT1 hv (hO.mono s1) (walk_lstOk e2 e5 (RpAll.mono s1 ds e4) fun _ => upd_same)
  · rename_i d hq
    obtain ⟨ds, hd, hv⟩ := bind_some hv
    obtain ⟨v, e1, e2⟩ := hR.slot i _ hq
    refine ⟨v, getD_some e1, ?_⟩
    cases d <;> simp only [itD] at hd <;> first | cases hd | skip
    · obtain ⟨p, vs, rfl, f2, f3⟩ := e2
      refine ⟨p, rfl, .inl ⟨⟨vs, SqL.of (hR.sub _ _ f2)⟩, ?_⟩⟩
      exact for_core (f := fun ρ τ => evSs Φ Ψ N ρ τ ss) (fun D σ H S ρ τ o h1 h2 h3 h4 => ⟨S, ρ, τ, o, h1, h2, h3, h4⟩) hR hT hv hO (walk_lstOk (hR.sub _ _ f2) (fun z => (by have := (hT p z).1; rw [f2] at this; cases this)) f3 fun _ => f2)
    · obtain ⟨p, vs, rfl, f2, f3⟩ := e2
      refine ⟨p, rfl, .inr ⟨⟨vs, Same.seqT hR.sub f2⟩, ?_⟩⟩
      exact for_core (f := fun ρ τ => evSs Φ Ψ N ρ τ ss) (fun D σ H S ρ τ o h1 h2 h3 h4 => ⟨S, ρ, τ, o, h1, h2, h3, h4⟩) hR hT hv hO (walk_tupOk f2 f3)
  · cases hv
theorem s_brk : PS X (.Break pos) (tSt X.K ta Φ Ψ N .brk) := PS.weak ps_break fun D σ H ⟨S, ρ, τ, o, hR, hT, hv, hO⟩ => by
  simp only [evS] at hv
  cases hv
  exact hO σ H S (Same.refl _) hR hT
theorem s_cnt : PS X (.Continue pos) (tSt X.K ta Φ Ψ N .cnt) := PS.weak ps_continue fun D σ H ⟨S, ρ, τ, o, hR, hT, hv, hO⟩ => by
  simp only [evS] at hv
  cases hv
  exact hO σ H S (Same.refl _) hR hT
theorem s_pas : PS X (.Pass pos) (tSt X.K ta Φ Ψ N .pas) := PS.weak ps_pass fun D σ H ⟨S, ρ, τ, o, hR, hT, hv, hO⟩ => by
  simp only [evS] at hv
  cases hv
  exact hO σ H S (Same.refl _) hR hT
theorem s_exp (he : PE X e (tE X.K ta Φ Ψ ca)) (hs : swapsWith e none pos.line X.env = pure false) : PS X (.Expr e pos) (tSt X.K ta Φ Ψ N (.exp ca)) := PS.weak (ps_expr he hs) fun D σ H ⟨S, ρ, τ, o, hR, hT, hv, hO⟩ => by
  simp only [evS] at hv
  obtain ⟨y, hy, hv⟩ := map_some hv
  cases hv
  exact ⟨S, ρ, τ, y.1, y.2, hR, hT, hy, fun v S1 H1 st rv => hO σ H1 S1 st.same (hR.step st) st.tape⟩
theorem s_nev : PS X st (tSt X.K ta Φ Ψ N .nev) := PS.weak ps_never fun D σ H ⟨S, ρ, τ, o, hR, hT, hv, hO⟩ => by
  simp only [evS] at hv
  cases hv
end
end Ev

/-! ## Ev9 -/
namespace Ev
open PySem PySem.Spec PyProof.Rows L2

/-! ### from the syntax tree to the code -/
structure Cc where
  N : List Str
  sc : Scope
  cs : List (Str × D)
  fs : List Str
  ft : List Str
  bl : List Str
def ixOf : List Str → Str → Option Nat
  | [], _ => none
  | y :: r, x => if y = x then some 0 else (ixOf r x).map (· + 1)
theorem ixOf_get : ∀ {N : List Str} {x : Str} {i : Nat}, ixOf N x = some i → N[i]? = some x
  | [], _, _, h => by cases h
  | y :: r, x, i, h => by
    unfold ixOf at h
    split at h
    · rename_i e
      cases h
      simp [e]
    · obtain ⟨j, h1, h2⟩ := map_some h
      subst h2
      simpa using ixOf_get h1
def visB (sc : Scope) (x : Str) : Bool := match sc.names.lookup x with
  | some .local => true
  | some .cell => true
  | some .free => true
  | _ => false
theorem visB_ok {sc : Scope} {x : Str} (h : visB sc x = true) : Vis sc x := by
  unfold visB at h
  split at h
  · rename_i q; exact .inl q
  · rename_i q; exact .inr (.inl q)
  · rename_i q; exact .inr (.inr q)
  · cases h
def locB (sc : Scope) (x : Str) : Bool := match sc.names.lookup x with
  | some .local => true
  | some .cell => true
  | _ => false
theorem locB_ok {sc : Scope} {x : Str} (h : locB sc x = true) : Loc sc x := by
  unfold locB at h
  split at h
  · rename_i q; exact .inl q
  · rename_i q; exact .inr q
  · cases h
def glB (sc : Scope) (x : Str) : Bool := match sc.names.lookup x with
  | some .globalImplicit => true
  | _ => false
theorem glB_ok {X : Cx} {x : Str} (h : glB X.env.scope x = true) : Gl X x := by
  unfold glB at h
  split at h
  · rename_i q; exact q
  · cases h
def sDebug : Str := "__debug__"
def sClassdict : Str := "__classdict__"
def sName : Str := "__name__"
def sBits : Str := "bit_length"
def sRange : Str := "range"
def sAppend : Str := "append"
def sExtend : Str := "extend"
def sPop : Str := "pop"
def okName (x : Str) : Bool := !(x == sDebug) && !(x == sClassdict) && !(x == sName)
theorem okName_ok {x : Str} (h : okName x = true) : (x == ("__debug__" : Str)) = false ∧ (x == ("__classdict__" : Str)) = false ∧ x ≠ "__name__" := by
  unfold okName at h
  simp only [Bool.and_eq_true, Bool.not_eq_true'] at h
  exact ⟨h.1.1, h.1.2, fun e => by have := h.2; rw [e] at this; exact absurd (beq_self_eq_true _) (by rw [show (sName == sName) = false from this]; decide)⟩
def cVar (c : Cc) (x : Str) : Option Nat := if visB c.sc x && okName x then ixOf c.N x else none
def cOp : Operator → Option Bo
  | .Add => some .add | .Sub => some .sub | .Mult => some .mul | .FloorDiv => some .fdiv | .Mod => some .mod | .Pow => some .pow | _ => none
theorem cOp_ok {op : Operator} {b : Bo} (h : cOp op = some b) : boO b = op := by cases op <;> cases h <;> rfl
def cCo : CmpOp → Option Co
  | .Eq => some .eq | .NotEq => some .ne | .Lt => some .lt | .LtE => some .le | .Gt => some .gt | .GtE => some .ge | .In => some .isin | .NotIn => some .notin | _ => none
theorem cCo_ok {op : CmpOp} {b : Co} (h : cCo op = some b) : coO b = op := by cases op <;> cases h <;> rfl
def noneB : Expr → Bool
  | .Constant .none _ _ => true
  | _ => false
def cEs (f : Expr → Option E) : List Expr → Option (List E)
  | [] => some []
  | e :: es => (f e).bind fun x => (cEs f es).map fun xs => x :: xs
def cCompare (f : Expr → Option E) (a : Expr) (ops : List CmpOp) (bs : List Expr) : Option E := match ops, bs with
  | [op], [b] => match op with
    | .Is => if noneB b then (f a).map .isN else if behindInMarks .Is b then none else (f a).bind fun x => (f b).map fun y => .isB x y
    | .IsNot => if noneB b then (f a).map .notN else if behindInMarks .IsNot b then none else (f a).bind fun x => (f b).map fun y => .notB x y
    | op => if behindInMarks op b then none else (cCo op).bind fun o => (f a).bind fun x => (f b).map fun y => .cmp o x y
  | [o1, o2], [b, c] => if lastMarks [o1, o2] [b, c] then none else (cCo o1).bind fun p => (cCo o2).bind fun q => (f a).bind fun x => (f b).bind fun y => (f c).map fun z => .chn p q x y z
  | _, _ => none
def conL : List E → Option E
  | [] => none
  | [a] => some a
  | a :: b :: r => (conL (b :: r)).map fun x => .con a x
def disL : List E → Option E
  | [] => none
  | [a] => some a
  | a :: b :: r => (disL (b :: r)).map fun x => .dis a x
def cBool (f : Expr → Option E) (op : BoolOp) (vs : List Expr) : Option E := (cEs f vs).bind fun cs => match op with
  | .And => conL cs
  | .Or => disL cs
def isRev : Option Expr → Bool
  | some (.UnaryOp .USub (.Constant (.int i) _ _) _) => decide (i = 1)
  | _ => false
def cSub (f : Expr → Option E) (a : Expr) (s : Expr) : Option E := match s with
  | .Slice lo hi st _ => match st with
    | none => match lo, hi with
      | none, none => (f a).map .slcA
      | some l, none => (f a).bind fun x => (f l).map fun y => .slcL x y
      | none, some h => (f a).bind fun x => (f h).map fun y => .slcH x y
      | some l, some h => (f a).bind fun x => (f l).bind fun y => (f h).map fun z => .slc x y z
    | st => match lo, hi with
      | none, none => if isRev st then (f a).map .rev else none
      | _, _ => none
  | b => (f a).bind fun x => (f b).map fun y => .idx x y
/-- the built-ins by name -/
def blNames : List (Str × Bl) := [("len", .len), ("abs", .abs), ("min", .min), ("max", .max), ("int", .int), ("tuple", .tuple), ("list", .list), ("sum", .sum), ("any", .any), ("all", .all), ("sorted", .sorted)]
def sLen : Str := "len"
def sSetN : Str := "set"
/-- set(e), and nothing else -/
def setB (c : Cc) (es : List Expr) : Option Expr := match es with
  | [.Call (.Name y _) [a] [] _] => if y = sSetN ∧ glB c.sc y = true ∧ c.bl.contains y = true then some a else none
  | _ => none
def cCall (c : Cc) (f : Expr → Option E) (fn : Expr) (args : List Expr) (kws : List Keyword) (pos : Pos) : Option E := match fn, args, kws with
  | .Name x _, e :: es, [] => if glB c.sc x && okName x then
      match ixOf c.fs x with
      | some k => (cEs f (e :: es)).map fun cs => .call k cs
      | none => match ixOf c.ft x with
        | some k => match e with
          | .Name d _ => (cVar c d).bind fun i => (cEs f es).map fun cs => .callT k i cs
          | _ => none
        | none => if c.bl.contains x then (match setB c (e :: es) with
          | some a => if x = sLen then (f a).map fun y => .blt .setlen [y] else none
          | none => (blNames.lookup x).bind fun b => (cEs f (e :: es)).map fun cs => .blt b cs) else none
      else none
  | .Attribute (.Name o p) at_ apos, [], [] => if at_ = sBits ∧ (apos.endLine == pos.line) = true then (f (.Name o p)).map fun x => .blt .bitlen [x] else none
  | _, _, _ => none
def cTgs (c : Cc) : List Expr → Option (List (Str × Nat))
  | [] => some []
  | .Name x _ :: r => if okName x then (ixOf c.N x).bind fun i => (cTgs c r).map fun xs => (x, i) :: xs else none
  | _ :: _ => none
def cTg (c : Cc) : Expr → Option (Tg × List (Str × Nat))
  | .Name x _ => if okName x then (ixOf c.N x).map fun i => (.nm i, [(x, i)]) else none
  | .Tuple es _ _ => (cTgs c es).map fun xs => (.tu (xs.map (·.2)), xs)
  | _ => none
def sEnum : Str := "enumerate"
def cIt (c : Cc) (f : Expr → Option E) (tg : Expr) (e : Expr) : Option (Nat × List E) := match e with
  | .Call (.Name x _) [a] [] _ => if x = sRange ∧ glB c.sc x = true ∧ c.bl.contains x = true then (f a).map fun y => (1, [y])
    else if x = sEnum ∧ glB c.sc x = true ∧ c.bl.contains x = true then match tg with
      | .Tuple _ _ _ => (f a).map fun y => (3, [y])
      | _ => none
    else (f e).map fun y => (0, [y])
  | .Call (.Name x _) [a, b] [] _ => if x = sRange ∧ glB c.sc x = true ∧ c.bl.contains x = true then (f a).bind fun y => (f b).map fun z => (2, [y, z]) else (f e).map fun y => (0, [y])
  | .Call (.Name x _) [a, b, d] [] _ => if x = sRange ∧ glB c.sc x = true ∧ c.bl.contains x = true then (f a).bind fun y => (f b).bind fun z => (f d).map fun w => (4, [y, z, w]) else (f e).map fun y => (0, [y])
  | e => (f e).map fun y => (0, [y])
def cComp (c : Cc) (f g : Expr → Option E) (elt : Expr) (gs : List Comprehension) (scope : Scope) : Option E := match gs with
  | [⟨tg, iter, ifs, z⟩] => if z = 0 ∧ ifs.length ≤ 1 then (cTg c tg).bind fun t => if blkC c.N c.sc scope t.2 && t.2.all (fun p => locB scope p.1) then
      (cIt c f tg iter).bind fun it => (cEs g ifs).bind fun cs => (g elt).map fun x => .comp x t.1 it.1 it.2 cs else none else none
  | _ => none
/-- what may stand for a truth that is not a bool -/
def truB : Expr → Bool
  | .Name _ _ => true
  | .Call _ _ _ _ => true
  | .Subscript _ _ _ => true
  | _ => false
def cTest (f : Expr → Option E) : Nat → Expr → Option E
  | 0, e => f e
  | n + 1, e => match e with
    | .BoolOp op vs _ => cBool (cTest f n) op vs
    | .UnaryOp op a _ => match op with
      | .Not => (cTest f n a).map .inv
      | _ => f e
    | e => if truB e then (f e).map .tru else f e
def compE : Nat → Cc → Expr → Option E
  | 0, _, _ => none
  | n + 1, c, e => match e with
    | .Constant k _ _ => match k with
      | .int i => some (.cst (.int i))
      | .bool b => some (.cst (.bool b))
      | .none => some (.cst .none)
      | .str s => some (.cst (.str s))
      | _ => none
    | .Name x _ => match cVar c x with
      | some i => some (.var i)
      | none => if glB c.sc x && okName x then (c.cs.lookup x).map .cst else none
    | .BinOp a op b _ => (cOp op).bind fun o => (compE n c a).bind fun x => (compE n c b).map fun y => .bin o x y
    | .UnaryOp op a _ => match op with
      | .USub => (compE n c a).map .neg
      | .Not => (compE n c a).map .inv
      | _ => none
    | .Compare a ops bs _ => cCompare (compE n c) a ops bs
    | .BoolOp op vs _ => cBool (compE n c) op vs
    | .IfExp t a b _ => (cTest (compE n c) 8 t).bind fun x => (compE n c a).bind fun y => (compE n c b).map fun z => .ite x y z
    | .Tuple es _ _ => (cEs (compE n c) es).map .tup
    | .List es _ => (cEs (compE n c) es).map .lst
    | .Subscript a s _ => cSub (compE n c) a s
    | .Call fn args kws pos => cCall c (compE n c) fn args kws pos
    | .ListComp elt gs scope _ => cComp c (compE n c) (compE n { c with sc := relS scope c.sc }) elt gs scope
    | _ => none

/-! ### what the code needs of the context -/
structure CxOk (X : Cx) (c : Cc) (Φ : Nat → List D → Option R) (Ψ : Nat → List D → Tp → Option (R × Tp)) : Prop where
  hN : X.N = c.N
  nd : c.N.Nodup
  sc : X.env.scope = c.sc
  kind : c.sc.kind = .function
  calm : X.calm = true
  xe : X.xe = fun _ _ => False
  hu : X.A.units + 80 < cLine
  con : ∀ x d, c.cs.lookup x = some d → ∃ v u, X.mg x = some u ∧ RelV v u ∧ ∀ H, Rp X.K H v d
  bl : ∀ x, c.bl.contains x = true → X.mg x = none
  fns : ∀ n x, c.fs[n]? = some x → ∃ k f fd ps, FnOk X.prog X.w X.K X.mg X.base CX0 k f fd ps (spP X.K (Φ n)) ∧ Room k X.A ∧ X.mg x = some (.ref f) ∧ PySem.W.keepIn X.K (.ref f) = true ∧ Binds X.K fd ps []
  fts : ∀ n x, c.ft[n]? = some x → (∀ ds τ r τ', Ψ n ds τ = some (r, τ') → τ'.cells = τ.cells) ∧ ∃ k f fd ps, FnOk X.prog X.w X.K X.mg X.base CX0 k f fd ps (spT X.K (Ψ n)) ∧ Room k X.A ∧ X.mg x = some (.ref f) ∧ PySem.W.keepIn X.K (.ref f) = true ∧ Binds X.K fd ps []
def nsB : Expr → Bool
  | .Starred _ _ => false
  | .Set _ _ _ => false
  | _ => true
theorem star_ns {e : Expr} {es : List Expr} {env : Env} (h : nsB e = true) : starEach (e :: es) env = (false, eval e env) :: starEach es env := by
  cases e <;> first | rfl | cases h
theorem star_any {pos : Pos} {env : Env} : ∀ {es : List Expr}, (∀ e ∈ es, nsB e = true) → (backTo pos (starEach es env)).any (·.1) = false
  | [], _ => rfl
  | e :: es, h => by
    rw [star_ns (h e List.mem_cons_self)]
    show ((false, _) :: backTo pos (starEach es env)).any (·.1) = false
    rw [List.any_cons, star_any fun e he => h e (List.mem_cons_of_mem _ he)]
    rfl
/-- what a code says of its expression -/
def EOk (X : Cx) (ta : Ta) (Φ : Nat → List D → Option R) (Ψ : Nat → List D → Tp → Option (R × Tp)) (e : Expr) (c : E) : Prop := PE X e (tE X.K ta Φ Ψ c) ∧ PT X e (tT X.K ta Φ Ψ c) ∧ nsB e = true
section
variable {X : Cx} {ta : Ta} {Φ : Nat → List D → Option R} {Ψ : Nat → List D → Tp → Option (R × Tp)} {c : Cc} {f g : Expr → Option E} {e a b : Expr} {es : List Expr} {code : E} {cs : List E} {pos : Pos}
theorem EOk.of (h : PE X e (tE X.K ta Φ Ψ code)) (hn : nsB e = true) (he : ∀ whole, isTrue e X.env whole = (do let v ← whole; standAt e.pos; holding [v] (truthy v))) : EOk X ta Φ Ψ e code := ⟨h, t_val h he, hn⟩
theorem cEs_ok (hf : ∀ e code, f e = some code → EOk X ta Φ Ψ e code) : ∀ {es : List Expr} {cs : List E}, cEs f es = some cs → PA X es (tAs X.K ta Φ Ψ cs) ∧ (∀ e ∈ es, nsB e = true) ∧ Paired (EOk X ta Φ Ψ) es cs
  | [], cs, h => by
    cases h
    exact ⟨as_nil, (fun _ h => by cases h), .nil⟩
  | e :: es, cs, h => by
    unfold cEs at h
    obtain ⟨x, h1, h⟩ := bind_some h
    obtain ⟨xs, h2, h⟩ := map_some h
    subst h
    have p := hf e x h1
    obtain ⟨q1, q2, q3⟩ := cEs_ok hf h2
    refine ⟨as_cons p.1 q1 (star_ns p.2.2), fun e' he' => ?_, .cons p q3⟩
    rcases List.mem_cons.mp he' with rfl | h
    · exact p.2.2
    · exact q2 e' h
theorem noneB_ok {b : Expr} (h : noneB b = true) : ∃ j p, b = .Constant .none j p := by
  cases b <;> simp only [noneB] at h <;> try cases h
  rename_i v k p
  cases v <;> simp only [noneB] at h <;> try cases h
  exact ⟨_, _, rfl⟩
theorem cCompare_ok (hu : X.A.units + 80 < cLine) (hf : ∀ e code, f e = some code → EOk X ta Φ Ψ e code) {ops : List CmpOp} {bs : List Expr} (h : cCompare f a ops bs = some code) :
    PE X (.Compare a ops bs pos) (tE X.K ta Φ Ψ code) ∧ PT X (.Compare a ops bs pos) (tT X.K ta Φ Ψ code) := by
  unfold cCompare at h
  split at h
  · rename_i op b
    split at h
    · split at h
      · rename_i hb
        obtain ⟨j, p, rfl⟩ := noneB_ok hb
        obtain ⟨x, h1, h⟩ := map_some h
        subst h
        exact ⟨e_isN (hf _ _ h1).1, t_isN (hf _ _ h1).1⟩
      · split at h
        · cases h
        · rename_i hm
          obtain ⟨x, h1, h⟩ := bind_some h
          obtain ⟨y, h2, h⟩ := map_some h
          subst h
          have hm' : behindInMarks .Is b = false := by simpa using hm
          exact ⟨e_isB (hf _ _ h1).1 (hf _ _ h2).1 hm', t_isB (hf _ _ h1).1 (hf _ _ h2).1 hm'⟩
    · split at h
      · rename_i hb
        obtain ⟨j, p, rfl⟩ := noneB_ok hb
        obtain ⟨x, h1, h⟩ := map_some h
        subst h
        exact ⟨e_notN (hf _ _ h1).1, t_notN (hf _ _ h1).1⟩
      · split at h
        · cases h
        · rename_i hm
          obtain ⟨x, h1, h⟩ := bind_some h
          obtain ⟨y, h2, h⟩ := map_some h
          subst h
          have hm' : behindInMarks .IsNot b = false := by simpa using hm
          exact ⟨e_notB (hf _ _ h1).1 (hf _ _ h2).1 hm', t_notB (hf _ _ h1).1 (hf _ _ h2).1 hm'⟩
    · split at h
      · cases h
      · rename_i hm
        obtain ⟨o, ho, h⟩ := bind_some h
        obtain ⟨x, h1, h⟩ := bind_some h
        obtain ⟨y, h2, h⟩ := map_some h
        subst h
        have eo := cCo_ok ho
        subst eo
        have hm' : behindInMarks (coO o) b = false := by simpa using hm
        exact ⟨e_cmp hu (hf _ _ h1).1 (hf _ _ h2).1 hm', t_cmp hu (hf _ _ h1).1 (hf _ _ h2).1 hm'⟩
  · rename_i o1 o2 b c
    split at h
    · cases h
    · rename_i hm
      obtain ⟨p, hp, h⟩ := bind_some h
      obtain ⟨q, hq, h⟩ := bind_some h
      obtain ⟨x, h1, h⟩ := bind_some h
      obtain ⟨y, h2, h⟩ := bind_some h
      obtain ⟨z, h3, h⟩ := map_some h
      subst h
      have e1 := cCo_ok hp
      have e2 := cCo_ok hq
      subst e1 e2
      have hm' : lastMarks [coO p, coO q] [b, c] = false := by simpa using hm
      exact ⟨e_chn hu (hf _ _ h1).1 (hf _ _ h2).1 (hf _ _ h3).1 hm', t_chn hu (hf _ _ h1).1 (hf _ _ h2).1 (hf _ _ h3).1 hm'⟩
  · cases h
theorem conL_ok : ∀ {es : List Expr} {cs : List E} {code : E}, Paired (EOk X ta Φ Ψ) es cs → conL cs = some code → PE X (.BoolOp .And es pos) (tE X.K ta Φ Ψ code) ∧ PW X (.BoolOp .And es pos) (tT X.K ta Φ Ψ code)
  | [], [], _, _, h => by cases h
  | [e], [c], code, .cons p .nil, h => by cases h; exact ⟨pe_one p.1, pw_and1 p.2.1⟩
  | e :: e2 :: es, c :: c2 :: cs, code, .cons p r, h => by
    unfold conL at h
    obtain ⟨x, h1, h⟩ := map_some h
    subst h
    obtain ⟨q1, q2⟩ := conL_ok r h1
    exact ⟨e_con p.1 q1, w_con p.2.1 q2⟩
theorem disL_ok : ∀ {es : List Expr} {cs : List E} {code : E}, Paired (EOk X ta Φ Ψ) es cs → disL cs = some code → PE X (.BoolOp .Or es pos) (tE X.K ta Φ Ψ code) ∧ PW X (.BoolOp .Or es pos) (tT X.K ta Φ Ψ code)
  | [], [], _, _, h => by cases h
  | [e], [c], code, .cons p .nil, h => by cases h; exact ⟨pe_one p.1, pw_or1 p.2.1⟩
  | e :: e2 :: es, c :: c2 :: cs, code, .cons p r, h => by
    unfold disL at h
    obtain ⟨x, h1, h⟩ := map_some h
    subst h
    obtain ⟨q1, q2⟩ := disL_ok r h1
    exact ⟨e_dis p.1 q1, w_dis p.2.1 q2⟩
theorem cBool_ok (hf : ∀ e code, f e = some code → EOk X ta Φ Ψ e code) {op : BoolOp} {vs : List Expr} (h : cBool f op vs = some code) : PE X (.BoolOp op vs pos) (tE X.K ta Φ Ψ code) ∧ PT X (.BoolOp op vs pos) (tT X.K ta Φ Ψ code) := by
  unfold cBool at h
  obtain ⟨cs, h1, h⟩ := bind_some h
  obtain ⟨_, _, q⟩ := cEs_ok hf h1
  cases op with
  | And => obtain ⟨a1, a2⟩ := conL_ok (pos := pos) q h; exact ⟨a1, a2.pt⟩
  | Or => obtain ⟨a1, a2⟩ := disL_ok (pos := pos) q h; exact ⟨a1, a2.pt⟩
theorem conLT_ok : ∀ {es : List Expr} {cs : List E} {code : E}, Paired (fun e c => PT X e (tT X.K ta Φ Ψ c)) es cs → conL cs = some code → PW X (.BoolOp .And es pos) (tT X.K ta Φ Ψ code)
  | [], [], _, _, h => by cases h
  | [e], [c], code, .cons p .nil, h => by cases h; exact pw_and1 p
  | e :: e2 :: es, c :: c2 :: cs, code, .cons p r, h => by
    unfold conL at h
    obtain ⟨x, h1, h⟩ := map_some h
    subst h
    exact w_con p (conLT_ok r h1)
theorem disLT_ok : ∀ {es : List Expr} {cs : List E} {code : E}, Paired (fun e c => PT X e (tT X.K ta Φ Ψ c)) es cs → disL cs = some code → PW X (.BoolOp .Or es pos) (tT X.K ta Φ Ψ code)
  | [], [], _, _, h => by cases h
  | [e], [c], code, .cons p .nil, h => by cases h; exact pw_or1 p
  | e :: e2 :: es, c :: c2 :: cs, code, .cons p r, h => by
    unfold disL at h
    obtain ⟨x, h1, h⟩ := map_some h
    subst h
    exact w_dis p (disLT_ok r h1)
theorem cEsT_ok {g : Expr → Option E} (hg : ∀ e code, g e = some code → PT X e (tT X.K ta Φ Ψ code)) : ∀ {es : List Expr} {cs : List E}, cEs g es = some cs → Paired (fun e c => PT X e (tT X.K ta Φ Ψ c)) es cs
  | [], _, h => by cases h; exact .nil
  | e :: es, _, h => by
    unfold cEs at h
    obtain ⟨x, h1, h⟩ := bind_some h
    obtain ⟨xs, h2, h⟩ := map_some h
    subst h
    exact .cons (hg _ _ h1) (cEsT_ok hg h2)
theorem cTest_ok (hf : ∀ e code, f e = some code → EOk X ta Φ Ψ e code) : ∀ (n : Nat) (e : Expr) (code : E), cTest f n e = some code → PT X e (tT X.K ta Φ Ψ code) := by
  intro n
  induction n with
  | zero => intro e code h; exact (hf _ _ h).2.1
  | succ n ih =>
    intro e code h
    unfold cTest at h
    split at h
    · rename_i op vs pos
      unfold cBool at h
      obtain ⟨cs, h1, h⟩ := bind_some h
      have q := cEsT_ok ih h1
      cases op with
      | And => exact (conLT_ok (pos := pos) q h).pt
      | Or => exact (disLT_ok (pos := pos) q h).pt
    · split at h
      · obtain ⟨x, hx, h⟩ := map_some h
        subst h
        exact t_inv (ih _ _ hx)
      · exact (hf _ _ h).2.1
    · split at h
      · rename_i hb
        obtain ⟨x, hx, h⟩ := map_some h
        subst h
        refine t_tru (hf _ _ hx).1 fun whole => ?_
        cases e <;> first | rfl | cases hb
      · exact (hf _ _ h).2.1
theorem isRev_ok {o : Option Expr} (h : isRev o = true) : ∃ k p1 p2, o = some (.UnaryOp .USub (.Constant (.int 1) k p1) p2) := by
  unfold isRev at h
  split at h
  · rename_i i k p1 p2
    have := of_decide_eq_true h
    subst this
    exact ⟨_, _, _, rfl⟩
  · cases h
theorem cSub_ok (hf : ∀ e code, f e = some code → EOk X ta Φ Ψ e code) {s : Expr} (h : cSub f a s = some code) : PE X (.Subscript a s pos) (tE X.K ta Φ Ψ code) := by
  unfold cSub at h
  split at h
  · split at h
    · split at h
      · obtain ⟨x, h1, h⟩ := map_some h
        subst h
        exact e_slcA (hf _ _ h1).1
      · obtain ⟨x, h1, h⟩ := bind_some h
        obtain ⟨y, h2, h⟩ := map_some h
        subst h
        exact e_slcL (hf _ _ h1).1 (hf _ _ h2).1
      · obtain ⟨x, h1, h⟩ := bind_some h
        obtain ⟨y, h2, h⟩ := map_some h
        subst h
        exact e_slcH (hf _ _ h1).1 (hf _ _ h2).1
      · obtain ⟨x, h1, h⟩ := bind_some h
        obtain ⟨y, h2, h⟩ := bind_some h
        obtain ⟨z, h3, h⟩ := map_some h
        subst h
        exact e_slc (hf _ _ h1).1 (hf _ _ h2).1 (hf _ _ h3).1
    · split at h
      · split at h
        · rename_i hr
          obtain ⟨k, p1, p2, e⟩ := isRev_ok hr
          subst e
          obtain ⟨x, h1, h⟩ := map_some h
          subst h
          exact e_rev (hf _ _ h1).1
        · cases h
      · cases h
  · rename_i hs
    obtain ⟨x, h1, h⟩ := bind_some h
    obtain ⟨y, h2, h⟩ := map_some h
    subst h
    refine e_idx (hf _ _ h1).1 (hf _ _ h2).1 ?_
    intro o i
    cases s <;> first | rfl | exact absurd rfl (hs _ _ _ _)
theorem cVar_ok (C : CxOk X c Φ Ψ) {x : Str} {i : Nat} (h : cVar c x = some i) : PE X (.Name x pos) (tVar i) := by
  unfold cVar at h
  split at h
  · rename_i hb
    rw [Bool.and_eq_true] at hb
    obtain ⟨q1, q2, q3⟩ := okName_ok hb.2
    exact pe_var (by rw [C.hN]; exact ixOf_get h) (by rw [C.sc]; exact visB_ok hb.1) q1 q2
  · cases h
theorem bl_ok {x : Str} {b : Bl} (h : blNames.lookup x = some b) : (bootBuiltins x = some (blV b) ∧ b ≠ .setlen ∧ b ≠ .bitlen) ∧ ((∃ id, blV b = .builtin id) ∨ ∃ id, blV b = .type id) := by
  have key : ∀ (l : List (Str × Bl)), (∀ p ∈ l, (bootBuiltins p.1 = some (blV p.2) ∧ p.2 ≠ .setlen ∧ p.2 ≠ .bitlen) ∧ ((∃ id, blV p.2 = .builtin id) ∨ ∃ id, blV p.2 = .type id)) → l.lookup x = some b →
      (bootBuiltins x = some (blV b) ∧ b ≠ .setlen ∧ b ≠ .bitlen) ∧ ((∃ id, blV b = .builtin id) ∨ ∃ id, blV b = .type id) := by
    intro l
    induction l with
    | nil => intro _ h; cases h
    | cons p r ih =>
      intro hp h
      rw [List.lookup_cons] at h
      cases hb : x == p.1 with
      | true =>
        rw [hb] at h
        cases h
        have e : x = p.1 := by simpa using hb
        rw [e]
        exact hp p List.mem_cons_self
      | false =>
        rw [hb] at h
        exact ih (fun q hq => hp q (List.mem_cons_of_mem _ hq)) h
  refine key blNames ?_ h
  intro p hp
  unfold blNames at hp
  simp only [List.mem_cons, List.not_mem_nil, or_false] at hp
  rcases hp with rfl | rfl | rfl | rfl | rfl | rfl | rfl | rfl | rfl | rfl | rfl
  · exact ⟨⟨boot_len, by decide, by decide⟩, .inl ⟨_, rfl⟩⟩
  · exact ⟨⟨boot_abs, by decide, by decide⟩, .inl ⟨_, rfl⟩⟩
  · exact ⟨⟨boot_min, by decide, by decide⟩, .inl ⟨_, rfl⟩⟩
  · exact ⟨⟨boot_max, by decide, by decide⟩, .inl ⟨_, rfl⟩⟩
  · exact ⟨⟨PyProof.Rows.boot_int, by decide, by decide⟩, .inr ⟨_, rfl⟩⟩
  · exact ⟨⟨PyProof.Rows.boot_tuple, by decide, by decide⟩, .inr ⟨_, rfl⟩⟩
  · exact ⟨⟨PyProof.Rows.boot_list, by decide, by decide⟩, .inr ⟨_, rfl⟩⟩
  · exact ⟨⟨boot_sum, by decide, by decide⟩, .inl ⟨_, rfl⟩⟩
  · exact ⟨⟨boot_any, by decide, by decide⟩, .inl ⟨_, rfl⟩⟩
  · exact ⟨⟨boot_all, by decide, by decide⟩, .inl ⟨_, rfl⟩⟩
  · exact ⟨⟨PyProof.Rows.boot_sorted, by decide, by decide⟩, .inl ⟨_, rfl⟩⟩
theorem cCall_ok (C : CxOk X c Φ Ψ) (hf : ∀ e code, f e = some code → EOk X ta Φ Ψ e code) {fn : Expr} {args : List Expr} {kws : List Keyword} (h : cCall c f fn args kws pos = some code) : PE X (.Call fn args kws pos) (tE X.K ta Φ Ψ code) := by
  unfold cCall at h
  split at h
  · rename_i x p e es
    split at h
    · rename_i hb
      rw [Bool.and_eq_true] at hb
      obtain ⟨q1, q2, q3⟩ := okName_ok hb.2
      have hg : Gl X x := glB_ok (by rw [C.sc]; exact hb.1)
      split at h
      · rename_i k hk
        obtain ⟨cs, h1, h⟩ := map_some h
        subst h
        obtain ⟨a1, a2, _⟩ := cEs_ok hf h1
        obtain ⟨kk, fa, fd, ps, F, hr, hm, hkp, hbd⟩ := C.fns k x (ixOf_get hk)
        exact e_call F hr hg hm hkp hbd a1 q1 (star_ns (a2 e List.mem_cons_self)) (star_any fun e' he' => a2 e' (List.mem_cons_of_mem _ he'))
      · split at h
        · rename_i k hk
          split at h
          · rename_i d dp
            obtain ⟨i, hi, h⟩ := bind_some h
            obtain ⟨cs, h1, h⟩ := map_some h
            subst h
            obtain ⟨a1, a2, _⟩ := cEs_ok hf h1
            obtain ⟨hΨ, kk, fa, fd, ps, F, hr, hm, hkp, hbd⟩ := C.fts k x (ixOf_get hk)
            exact e_callT F hr hg hm hkp hbd hΨ (cVar_ok C hi) a1 q1 (star_ns rfl) (star_any a2)
          · cases h
        · split at h
          · rename_i hbl
            have hm := C.bl x hbl
            split at h
            · rename_i a hset
              split at h
              · rename_i hx
                obtain ⟨y, hy, h⟩ := map_some h
                subst h hx
                unfold setB at hset
                split at hset
                · rename_i y0 py a0 q0 heq
                  split at hset
                  · rename_i hb0
                    cases hset
                    obtain ⟨e1, e2, e3⟩ := hb0
                    subst e1
                    cases heq
                    obtain ⟨p1, _, n1⟩ := hf _ _ hy
                    exact e_setlen hg hm (glB_ok (by rw [C.sc]; exact e2)) (C.bl _ e3) p1 C.calm (star_ns n1)
                  · cases hset
                · cases hset
              · cases h
            obtain ⟨b, hb1, h⟩ := bind_some h
            obtain ⟨cs, h1, h⟩ := map_some h
            subst h
            obtain ⟨a1, a2, _⟩ := cEs_ok hf h1
            obtain ⟨⟨b1, b2, b3⟩, b4⟩ := bl_ok hb1
            rcases b4 with ⟨id, b4⟩ | ⟨id, b4⟩
            · exact e_blB b4 C.calm C.hu b2 b3 hg hm (by rw [b1, b4]) a1 q3 q1 (star_ns (a2 e List.mem_cons_self)) (star_any fun e' he' => a2 e' (List.mem_cons_of_mem _ he'))
            · exact e_blT b4 C.calm C.hu b2 b3 hg hm (by rw [b1, b4]) a1 q3 q1 (star_ns (a2 e List.mem_cons_self)) (star_any fun e' he' => a2 e' (List.mem_cons_of_mem _ he'))
          · cases h
    · cases h
  · split at h
    · rename_i hb
      obtain ⟨x, h1, h⟩ := map_some h
      subst h
      have e1 := hb.1
      subst e1
      exact e_bits (hf _ _ h1).1 rfl hb.2
    · cases h
  · cases h
end
end Ev

/-! ## Ev10 -/
namespace Ev
open PySem PySem.Spec PyProof.Rows L2

section
variable {X : Cx} {ta : Ta} {Φ : Nat → List D → Option R} {Ψ : Nat → List D → Tp → Option (R × Tp)} {c : Cc} {f g : Expr → Option E} {e a b : Expr} {es : List Expr} {code : E} {cs : List E} {pos : Pos}
/-- names that may be stored -/
def StoOk (X : Cx) (x : Str) : Prop := Loc X.env.scope x ∧ (X.fn x = true ∨ X.env.scope.names.lookup x = some .local)
theorem cTgs_ok (hN : X.N = c.N) (nd : c.N.Nodup) : ∀ {es : List Expr} {xs : List (Str × Nat)}, cTgs c es = some xs → (∀ p ∈ xs, StoOk X p.1) → PGs X es (gNms (xs.map (·.2))) ∧ (assignEach es X.env).length = xs.length ∧ (assignEach es X.env).findIdx? (·.1) = none ∧ ∀ p ∈ xs, c.N[p.2]? = some p.1
  | [], xs, h, _ => by
    cases h
    exact ⟨pgs_nil, rfl, rfl, (fun _ h => by cases h)⟩
  | e :: es, xs, h, hs => by
    cases e <;> simp only [cTgs] at h <;> try cases h
    rename_i x p
    split at h
    · obtain ⟨i, hi, h⟩ := bind_some h
      obtain ⟨ys, h2, h⟩ := map_some h
      subst h
      obtain ⟨q1, q2, q3, q4⟩ := cTgs_ok hN nd h2 fun p hp => hs p (List.mem_cons_of_mem _ hp)
      obtain ⟨s1, s2⟩ := hs (x, i) List.mem_cons_self
      refine ⟨pgs_cons (pg_name (by rw [hN]; exact nd) (by rw [hN]; exact ixOf_get hi) s1 s2) q1 rfl, ?_, ?_, fun p hp => ?_⟩
      · show (assignEach es X.env).length + 1 = ys.length + 1
        rw [q2]
      · show List.findIdx? _ ((false, _) :: assignEach es X.env) = none
        rw [List.findIdx?_cons, q3]
        rfl
      · rcases List.mem_cons.mp hp with rfl | hp
        · exact ixOf_get hi
        · exact q4 p hp
    · cases h
theorem cTg_ok (hN : X.N = c.N) (nd : c.N.Nodup) (hc : X.calm = true) {tg : Expr} {t : Tg × List (Str × Nat)} (h : cTg c tg = some t) (hs : ∀ p ∈ t.2, StoOk X p.1) : PG X tg (gT X.K t.1) := by
  unfold cTg at h
  split at h
  · split at h
    · obtain ⟨i, hi, h⟩ := map_some h
      subst h
      obtain ⟨s1, s2⟩ := hs (_, i) List.mem_cons_self
      exact pg_name (by rw [hN]; exact nd) (by rw [hN]; exact ixOf_get hi) s1 s2
    · cases h
  · obtain ⟨xs, h1, h⟩ := map_some h
    subst h
    obtain ⟨q1, q2, q3, _⟩ := cTgs_ok hN nd h1 hs
    exact pg_tup hc q1 (by rw [q2, List.length_map]) q3
  · cases h
theorem cTg_vs {tg : Expr} {t : Tg × List (Str × Nat)} (h : cTg c tg = some t) : t.2.map (·.2) = tgVs t.1 := by
  unfold cTg at h
  split at h
  · split at h
    · obtain ⟨i, hi, h⟩ := map_some h
      subst h
      rfl
    · cases h
  · obtain ⟨xs, h1, h⟩ := map_some h
    subst h
    rfl
  · cases h
theorem cIt_ok (C : CxOk X c Φ Ψ) (hf : ∀ e code, f e = some code → EOk X ta Φ Ψ e code) {tg : Expr} {it : Nat × List E} (h : cIt c f tg e = some it) : PI X tg e (tIt X.K ta Φ Ψ it.1 it.2) ∧ ∀ x, foldedSetIterable e X.env x = pure x := by
  have seq : ∀ {e : Expr} {it : Nat × List E}, (f e).map (fun y => (0, [y])) = some it → PI X tg e (tIt X.K ta Φ Ψ it.1 it.2) ∧ ∀ x, foldedSetIterable e X.env x = pure x := fun {e it} h => by
    obtain ⟨y, h1, h⟩ := map_some h
    subst h
    obtain ⟨p, _, n⟩ := hf _ _ h1
    refine ⟨i_seq p, fun x => ?_⟩
    cases e <;> first | rfl | cases n
  unfold cIt at h
  split at h
  · rename_i x p a pos
    split at h
    · rename_i hb
      obtain ⟨y, h1, h⟩ := map_some h
      subst h
      have e1 := hb.1
      subst e1
      obtain ⟨p1, _, n1⟩ := hf _ _ h1
      exact ⟨i_rng1 (glB_ok (by rw [C.sc]; exact hb.2.1)) (C.bl _ hb.2.2) (as_cons p1 as_nil (star_ns n1)) (by rw [star_ns n1]; rfl), fun x => rfl⟩
    · split at h
      · rename_i hb
        split at h
        · obtain ⟨y, h1, h⟩ := map_some h
          subst h
          have e1 := hb.1
          subst e1
          obtain ⟨p1, _, n1⟩ := hf _ _ h1
          exact ⟨i_enum (glB_ok (by rw [C.sc]; exact hb.2.1)) (C.bl _ hb.2.2) (as_cons p1 as_nil (star_ns n1)) (by rw [star_ns n1]; rfl), fun x => rfl⟩
        · cases h
      · exact seq h
  · rename_i x p a b pos
    split at h
    · rename_i hb
      obtain ⟨y, h1, h⟩ := bind_some h
      obtain ⟨z, h2, h⟩ := map_some h
      subst h
      have e1 := hb.1
      subst e1
      obtain ⟨p1, _, n1⟩ := hf _ _ h1
      obtain ⟨p2, _, n2⟩ := hf _ _ h2
      exact ⟨i_rng2 (glB_ok (by rw [C.sc]; exact hb.2.1)) (C.bl _ hb.2.2) (as_cons p1 (as_cons p2 as_nil (star_ns n2)) (star_ns n1)) (by rw [star_ns n1, star_ns n2]; rfl) (by rw [star_ns n2]; rfl), fun x => rfl⟩
    · exact seq h
  · rename_i x p a b d pos
    split at h
    · rename_i hb
      obtain ⟨y, h1, h⟩ := bind_some h
      obtain ⟨z, h2, h⟩ := bind_some h
      obtain ⟨w, h3, h⟩ := map_some h
      subst h
      have e1 := hb.1
      subst e1
      obtain ⟨p1, _, n1⟩ := hf _ _ h1
      obtain ⟨p2, _, n2⟩ := hf _ _ h2
      obtain ⟨p3, _, n3⟩ := hf _ _ h3
      exact ⟨i_rng3 (glB_ok (by rw [C.sc]; exact hb.2.1)) (C.bl _ hb.2.2) (as_cons p1 (as_cons p2 (as_cons p3 as_nil (star_ns n3)) (star_ns n2)) (star_ns n1)) (star_ns n1) (star_any fun e he => by
        rcases List.mem_cons.mp he with rfl | he
        · exact n2
        · rcases List.mem_cons.mp he with rfl | he
          · exact n3
          · cases he), fun x => rfl⟩
    · exact seq h
  · exact seq h
theorem CxOk.blk (C : CxOk X c Φ Ψ) {scope : Scope} (hk : scope.kind = .function) (s : Shared) (H : Hp) (A : Addr) (cl : List (Str × Addr)) (fp : List Addr) : CxOk (X.blk s H scope (compEnvC scope cl A X.env) fp) { c with sc := relS scope c.sc } Φ Ψ where
  hN := C.hN
  nd := C.nd
  sc := by rw [← C.sc]; rfl
  kind := hk
  calm := C.calm
  xe := rfl
  hu := C.hu
  con := C.con
  bl := C.bl
  fns := C.fns
  fts := C.fts
theorem stoBlk {scope : Scope} {x : Str} (h : locB scope x = true) (s : Shared) (H : Hp) (A : Addr) (cl : List (Str × Addr)) (fp : List Addr) : StoOk (X.blk s H scope (compEnvC scope cl A X.env) fp) x := by
  rcases locB_ok h with q | q
  · have := lookup_relS_keep (sc := X.env.scope) (by decide) q
    exact ⟨.inl this, .inr this⟩
  · have := lookup_relS_keep (sc := X.env.scope) (by decide) q
    refine ⟨.inr this, .inl ?_⟩
    show (scope.names.lookup x == some .cell) = true
    rw [q]
    rfl
/-- a comprehension: as a value, and what its list comes to in a name's slot -/
theorem cComp_parts (C : CxOk X c Φ Ψ) (hf : ∀ e code, f e = some code → EOk X ta Φ Ψ e code) {scope : Scope} (hg : ∀ (X' : Cx), X'.K = X.K → CxOk X' { c with sc := relS scope c.sc } Φ Ψ → ∀ e code, g e = some code → EOk X' ta Φ Ψ e code) {elt : Expr} {gs : List Comprehension} (h : cComp c f g elt gs scope = some code) :
    ∃ tg iter ifs wi gg tt te own, gs = [⟨tg, iter, ifs, 0⟩] ∧ PI X tg iter wi ∧ BlkOk X.N X.env.scope scope own ∧ (∀ (s : Shared) (H : Hp) (A : Addr) (cl : List (Str × Addr)) (fp : List Addr), PG (X.blk s H scope (compEnvC scope cl A X.env) fp) tg gg) ∧
      (∀ (s : Shared) (H : Hp) (A : Addr) (cl : List (Str × Addr)) (fp : List Addr), PTs (X.blk s H scope (compEnvC scope cl A X.env) fp) ifs tt) ∧ (∀ (s : Shared) (H : Hp) (A : Addr) (cl : List (Str × Addr)) (fp : List Addr), PE (X.blk s H scope (compEnvC scope cl A X.env) fp) elt te) ∧
      (∀ x, foldedSetIterable iter X.env x = pure x) ∧ (∀ σ H Q, tE X.K ta Φ Ψ code σ H Q → tLc wi gg tt te (own.map (·.2)) σ H Q) := by
  unfold cComp at h
  split at h
  · rename_i tg iter ifs z
    split at h
    · rename_i hz
      obtain ⟨hz, hl⟩ := hz
      subst hz
      obtain ⟨t, ht, h⟩ := bind_some h
      split at h
      · rename_i hb
        rw [Bool.and_eq_true] at hb
        obtain ⟨it, hi, h⟩ := bind_some h
        obtain ⟨cs, hcs, h⟩ := bind_some h
        obtain ⟨x, hx, h⟩ := map_some h
        subst h
        obtain ⟨p1, p2⟩ := cIt_ok (tg := tg) C hf hi
        have bk : BlkOk X.N X.env.scope scope t.2 := by rw [C.hN, C.sc]; exact blkOk_by hb.1
        have CB := C.blk bk.kind
        refine ⟨tg, iter, ifs, _, gT X.K t.1, tAll X.K ta Φ Ψ cs, tU X.K ta Φ Ψ x, t.2, rfl, p1, bk, fun s H A cl fp => ?_, fun s H A cl fp => ?_, fun s H A cl fp => ?_, p2, fun σ H Q ⟨S, ρ, τ, r, τ', hR, hT, he, hQ⟩ => ?_⟩
        · exact cTg_ok (c := c) (X := X.blk s H scope (compEnvC scope cl A X.env) fp) C.hN C.nd C.calm ht fun p hp => stoBlk (List.all_eq_true.mp hb.2 p hp) s H A cl fp
        · cases ifs with
          | nil => cases hcs; exact c_nil
          | cons e r => cases r with
            | cons _ _ => simp at hl
            | nil =>
              unfold cEs at hcs
              obtain ⟨y, hy, hcs⟩ := bind_some hcs
              obtain ⟨ys, hys, hcs⟩ := map_some hcs
              cases hys
              subst hcs
              exact c_one (hg (X.blk s H scope (compEnvC scope cl A X.env) fp) rfl (CB s H A cl fp) _ _ hy).2.1
        · exact (hg (X.blk s H scope (compEnvC scope cl A X.env) fp) rfl (CB s H A cl fp) _ _ hx).1.use
        · rw [cTg_vs ht]
          exact comp_data hR hT he hQ
      · cases h
    · cases h
  · cases h
theorem cComp_ok (C : CxOk X c Φ Ψ) (hf : ∀ e code, f e = some code → EOk X ta Φ Ψ e code) {scope : Scope} (hg : ∀ (X' : Cx), X'.K = X.K → CxOk X' { c with sc := relS scope c.sc } Φ Ψ → ∀ e code, g e = some code → EOk X' ta Φ Ψ e code) {elt : Expr} {gs : List Comprehension} (h : cComp c f g elt gs scope = some code) :
    PE X (.ListComp elt gs scope pos) (tE X.K ta Φ Ψ code) := by
  obtain ⟨tg, iter, ifs, wi, gg, tt, te, own, rfl, h1, h2, h3, h4, h5, h6, h7⟩ := cComp_parts C hf hg h
  exact PE.weak (pe_lc C.calm (by rw [C.hN]; exact C.nd) h1 h2 h3 h4 h5 h6) h7
theorem t_ite {t : Expr} {ct ca cb : E} (ht : PT X t (tT X.K ta Φ Ψ ct)) (ha : PT X a (tT X.K ta Φ Ψ ca)) (hb : PT X b (tT X.K ta Φ Ψ cb)) : PT X (.IfExp t a b pos) (tT X.K ta Φ Ψ (.ite ct ca cb)) := by
  refine ⟨fun pins s σ H Q I ⟨S, ρ, τ, r, τ', k, hR, hT, he, hr, hQ⟩ => ?_⟩
  simp only [ev] at he
  obtain ⟨x, hx, he⟩ := bind_some he
  show wpAny _ _ (isTrue (.IfExp t a b pos) X.env _) _ _ _
  have e0 : ∀ w, isTrue (.IfExp t a b pos) X.env w = (isTrue t X.env (eval t X.env) >>= fun q => if q = true then isTrue a X.env (eval a X.env) else isTrue b X.env (eval b X.env)) := fun w => rfl
  rw [e0]
  split at he
  · rename_i q
    refine wpAny_bind (thn (ht.run pins s σ H (fun j H1 => j = true ∧ tT X.K ta Φ Ψ ca σ H1 Q) I ⟨S, ρ, τ, x.1, x.2, true, hR, hT, hx, q, fun S1 H1 st => ⟨rfl, S1, ρ, x.2, r, τ', k, hR.step st, st.tape, he, hr, fun S' H' st' => hQ S' H' (st.trans st')⟩⟩) fun j s1 ⟨H1, I1, e1, q1⟩ => ?_)
    subst e1
    rw [if_pos rfl]
    exact ha.run pins s1 σ H1 Q I1 q1
  · rename_i q
    refine wpAny_bind (thn (ht.run pins s σ H (fun j H1 => j = false ∧ tT X.K ta Φ Ψ cb σ H1 Q) I ⟨S, ρ, τ, x.1, x.2, false, hR, hT, hx, q, fun S1 H1 st => ⟨rfl, S1, ρ, x.2, r, τ', k, hR.step st, st.tape, he, hr, fun S' H' st' => hQ S' H' (st.trans st')⟩⟩) fun j s1 ⟨H1, I1, e1, q1⟩ => ?_)
    subst e1
    rw [if_neg Bool.false_ne_true]
    exact hb.run pins s1 σ H1 Q I1 q1
  · cases he
end
theorem compE_ok {ta : Ta} {Φ : Nat → List D → Option R} {Ψ : Nat → List D → Tp → Option (R × Tp)} : ∀ (n : Nat) (c : Cc) (X : Cx), CxOk X c Φ Ψ → ∀ (e : Expr) (code : E), compE n c e = some code → EOk X ta Φ Ψ e code := by
  intro n
  induction n with
  | zero => intro c X C e code h; cases h
  | succ n ih =>
    intro c X C e code h
    have hf := ih c X C
    unfold compE at h
    split at h
    · split at h <;> first | cases h | skip
      · exact .of (e_const pe_int fun _ => rfl) rfl (by intro _; rfl)
      · exact .of (e_const pe_bl fun _ => rfl) rfl (by intro _; rfl)
      · exact .of (e_const pe_non fun _ => rfl) rfl (by intro _; rfl)
      · exact .of (e_const pe_str fun _ => rfl) rfl (by intro _; rfl)
    · split at h
      · rename_i i hi
        cases h
        exact .of (e_var (cVar_ok C hi)) rfl (by intro _; rfl)
      · split at h
        · rename_i hb
          obtain ⟨d, hd, h⟩ := map_some h
          subst h
          rw [Bool.and_eq_true] at hb
          obtain ⟨v, u, h1, h2, h3⟩ := C.con _ _ hd
          obtain ⟨q1, q2, q3⟩ := okName_ok hb.2
          exact .of (e_const (pe_glob (glB_ok (by rw [C.sc]; exact hb.1)) h1 h2 q1) h3) rfl (by intro _; rfl)
        · cases h
    · obtain ⟨o, ho, h⟩ := bind_some h
      obtain ⟨x, hx, h⟩ := bind_some h
      obtain ⟨y, hy, h⟩ := map_some h
      subst h
      have eo := cOp_ok ho
      subst eo
      exact .of (e_bin (hf _ _ hx).1 (hf _ _ hy).1) rfl (by intro _; rfl)
    · split at h
      · obtain ⟨x, hx, h⟩ := map_some h
        subst h
        exact .of (e_neg (hf _ _ hx).1) rfl (by intro _; rfl)
      · obtain ⟨x, hx, h⟩ := map_some h
        subst h
        exact ⟨e_inv (hf _ _ hx).1, t_inv (hf _ _ hx).2.1, rfl⟩
      · cases h
    · obtain ⟨p, q⟩ := cCompare_ok C.hu hf h
      exact ⟨p, q, rfl⟩
    · obtain ⟨p, q⟩ := cBool_ok hf h
      exact ⟨p, q, rfl⟩
    · obtain ⟨x, hx, h⟩ := bind_some h
      obtain ⟨y, hy, h⟩ := bind_some h
      obtain ⟨z, hz, h⟩ := map_some h
      subst h
      exact ⟨e_ite (cTest_ok hf _ _ _ hx) (hf _ _ hy).1 (hf _ _ hz).1, t_ite (cTest_ok hf _ _ _ hx) (hf _ _ hy).2.1 (hf _ _ hz).2.1, rfl⟩
    · obtain ⟨cs, h1, h⟩ := map_some h
      subst h
      exact .of (e_tup (cEs_ok hf h1).1) rfl (by intro _; rfl)
    · obtain ⟨cs, h1, h⟩ := map_some h
      subst h
      exact .of (e_lst (cEs_ok hf h1).1) rfl (by intro _; rfl)
    · exact .of (cSub_ok hf h) rfl (by intro _; rfl)
    · exact .of (cCall_ok C hf h) rfl (by intro _; rfl)
    · exact .of (cComp_ok C hf (fun X' eK C' => ih _ X' C') h) rfl (by intro _; rfl)
    · cases h
end Ev

/-! ## Ev11 -/
namespace Ev
open PySem PySem.Spec PyProof.Rows L2

/-! ### statements -/
def starB : Expr → Bool
  | .Starred _ _ => true
  | _ => false
/-- what the swapped stores of a = b come to -/
def swK (sc : Scope) (ts : List Expr) (v : Expr) : Option (Option (List Str)) := match v with
  | .Tuple vs _ _ =>
    if (!(ts.length == 2 || ts.length == 3) || vs.length != ts.length) = true then some none
    else if vs.any starB = true then some none
    else
      let line := (ts.head?.map (·.pos.line)).getD 0
      let names := ts.filterMap fun
        | .Name id pos => if (sc.names.lookup id == some .local && pos.line == line) = true then some id else none
        | _ => none
      if (names.length != ts.length || names.eraseDups.length != names.length) = true then some none
      else if vs.all (foldedForSure 8) = true then some none
      else if vs.all (constantsAlone 8) = true then none
      else some (some names)
  | _ => some none
theorem swK_ok {sc : Scope} {ts : List Expr} {v : Expr} {env : Env} {k : Nat} {p : Pos} {r : Option (List Str)} (hs : env.scope = sc) (hk : sc.kind = .function) (h : swK sc ts v = some r) : swappedStores [.Tuple ts k p] v env = pure r := by
  have hb : env.blockKind = .function := by unfold Env.blockKind; rw [hs, hk]; rfl
  unfold swappedStores
  cases v <;> first
    | (simp only [swK] at h; cases h; rfl)
    | skip
  rename_i vs k2 p2
  simp only [swK] at h
  have hkind : ∀ x, env.kindOf x = sc.names.lookup x := fun x => by rw [← hs]; rfl
  simp only [hb, hkind, bne_self_eq_false, Bool.or_false]
  split at h
  · rename_i h1
    cases h
    exact if_pos h1
  · rename_i h1
    refine (if_neg h1).trans ?_
    split at h
    · rename_i h2
      cases h
      exact if_pos h2
    · rename_i h2
      refine (if_neg h2).trans ?_
      split at h
      · rename_i h3
        cases h
        exact if_pos h3
      · rename_i h3
        refine (if_neg h3).trans ?_
        split at h
        · rename_i h4
          cases h
          exact if_pos h4
        · rename_i h4
          refine (if_neg h4).trans ?_
          split at h
          · cases h
          · rename_i h5
            cases h
            refine (if_neg h5).trans ?_
            rfl
end Ev

/-! ## Ev12 -/
namespace Ev
open PySem PySem.Spec PyProof.Rows L2

def isLocal (sc : Scope) (x : Str) : Bool := decide (sc.names.lookup x = some .local)
def ownB (scope : Scope) (x : Str) : Bool := scope.names.any fun (n, k) => n == x && (k == .local || k == .cell)
/-- name = value -/
def cSet (c : Cc) (f g : Nat → Option E) (x : Str) (px : Pos) (v : Expr) (line : Nat) : Option S := none
def compB (v : Expr) : Bool := match v with
  | .ListComp _ _ _ _ => true
  | .SetComp _ _ _ _ => true
  | .DictComp _ _ _ _ _ => true
  | _ => false
def stoN (c : Cc) (x : Str) : Option Nat := if locB c.sc x && okName x then ixOf c.N x else none
def stoAll (c : Cc) (xs : List (Str × Nat)) : Bool := xs.all fun p => locB c.sc p.1
def methB (e : Expr) : Option (Str × Pos × Str × Pos × List Expr × Pos) := match e with
  | .Call (.Attribute (.Name x p) m ap) args [] cp => some (x, p, m, ap, args, cp)
  | _ => none
/-- x.pop(), x a list of one's own -/
def popB (c : Cc) (v : Expr) : Option Nat := match methB v with
  | some (x, _, m, ap, [], cp) => if m = sPop ∧ (ap.endLine == cp.line) = true then cVar c x else none
  | _ => none
def cAsg (n : Nat) (c : Cc) (tg v : Expr) : Option S := match tg with
  | .Name x px => (stoN c x).bind fun i => match popB c v with
   | some j => some (.popt (.nm i) j)
   | none => match v with
    | .Name y yp => match cVar c y with
      | some j => some (.mov i j)
      | none => (compE n c (.Name y yp)).map fun y => .set (.nm i) y
    | .ListComp elt gs scope lp =>
      if isLocal c.sc x && (px.line == lp.line) && !ownB scope x then (cComp c (compE n c) (compE n { c with sc := relS scope c.sc }) elt gs scope).map fun y => .set (.nm i) y
      else if isLocal c.sc x then none else (compE n c v).map fun y => .set (.nm i) y
    | v => if compB v then none else (compE n c v).map fun y => .set (.nm i) y
  | .Tuple ts k p => match swK c.sc ts v with
    | some none => (cTg c (.Tuple ts k p)).bind fun t => if stoAll c t.2 then (match popB c v with
      | some j => some (.popt t.1 j)
      | none => (compE n c v).map fun y => .set t.1 y) else none
    | some (some names) => match ts, v with
      | [.Name x px, .Name y py], .Tuple [a, b] _ _ => if names = [x, y] ∧ x ≠ y ∧ isLocal c.sc x = true ∧ isLocal c.sc y = true then
          (stoN c x).bind fun i => (stoN c y).bind fun j => (compE n c a).bind fun ca => (compE n c b).map fun cb => .par2 i j ca cb else none
      | [.Name x px, .Name y py, .Name z pz], .Tuple [a, b, d] _ _ => if names = [x, y, z] ∧ (x ≠ y ∧ x ≠ z ∧ y ≠ z) ∧ isLocal c.sc x = true ∧ isLocal c.sc y = true ∧ isLocal c.sc z = true then
          (stoN c x).bind fun i => (stoN c y).bind fun j => (stoN c z).bind fun l => (compE n c a).bind fun ca => (compE n c b).bind fun cb => (compE n c d).map fun cd => .par3 i j l ca cb cd else none
      | _, _ => none
    | none => none
  | .Subscript (.Name x px) ix sp => (cVar c x).bind fun i => match ix with
    | .Slice _ _ _ _ => none
    | ix => (compE n c v).bind fun y => (compE n c ix).map fun z => .sti i z y
  | _ => none
def cMeth (n : Nat) (c : Cc) (x : Str) (m : Str) (ap cp : Pos) (args : List Expr) : Option S := if (ap.endLine == cp.line) = true then (cVar c x).bind fun i => match args with
    | [e] => if m = sAppend then (compE n c e).map fun y => .app i y else if m = sExtend then (compE n c e).map fun y => .ext i y else none
    | [] => if m = sPop then some (.pop i) else none
    | _ => none
  else none
mutual
def compS : Nat → Cc → Stmt → Option S
  | 0, _, _ => none
  | n + 1, c, st => match st with
    | .Assign ts v _ => match ts with
      | [tg] => cAsg n c tg v
      | _ => none
    | .AugAssign t op e _ => match t with
      | .Name x _ => (stoN c x).bind fun i => (cOp op).bind fun o => (compE n c e).map fun y => .aug i o y
      | _ => none
    | .Expr e _ => match methB e with
      | some q => cMeth n c q.1 q.2.2.1 q.2.2.2.1 q.2.2.2.2.2 q.2.2.2.2.1
      | none => if compB e then none else (compE n c e).map .exp
    | .Return v _ => match v with
      | none => some .retn
      | some e => match e with
        | .Name x _ => match cVar c x with
          | some i => some (.retv i)
          | none => (compE n c e).map .ret
        | e => (compE n c e).map .ret
    | .If t a b _ => (cTest (compE n c) 8 t).bind fun x => (compSs n c a).bind fun y => (compSs n c b).map fun z => .ite x y z
    | .While t b els _ => match els with
      | [] => (cTest (compE n c) 8 t).bind fun x => (compSs n c b).map fun y => .whl x y
      | _ => none
    | .For tg it b els _ => match els with
      | [] => (cTg c tg).bind fun t => if stoAll c t.2 then (compSs n c b).bind fun y => match it with
        | .Name x _ => match cVar c x with
          | some i => some (.forv t.1 i y)
          | none => (cIt c (compE n c) tg it).map fun z => .for_ t.1 z.1 z.2 y
        | it => (cIt c (compE n c) tg it).map fun z => .for_ t.1 z.1 z.2 y
        else none
      | _ => none
    | .Pass _ => some .pas
    | .Break _ => some .brk
    | .Continue _ => some .cnt
    | .Raise _ _ _ => some .nev
    | _ => none
def compSs : Nat → Cc → List Stmt → Option (List S)
  | 0, _, _ => none
  | n + 1, c, sts => match sts with
    | [] => some []
    | st :: r => (compS n c st).bind fun x => (compSs n c r).map fun xs => x :: xs
end
section
variable {X : Cx} {ta : Ta} {Φ : Nat → List D → Option R} {Ψ : Nat → List D → Tp → Option (R × Tp)} {c : Cc} {M n : Nat} {e a b tg v : Expr} {pos : Pos}
theorem stoN_ok (C : CxOk X c Φ Ψ) (hf : ∀ x, X.fn x = true) {x : Str} {i : Nat} (h : stoN c x = some i) : X.N[i]? = some x ∧ StoOk X x := by
  unfold stoN at h
  split at h
  · rename_i hb
    rw [Bool.and_eq_true] at hb
    exact ⟨by rw [C.hN]; exact ixOf_get h, by rw [← C.sc] at hb; exact locB_ok hb.1, .inl (hf x)⟩
  · cases h
theorem nd_of (C : CxOk X c Φ Ψ) : X.N.Nodup := by rw [C.hN]; exact C.nd
theorem stoAll_ok (C : CxOk X c Φ Ψ) (hf : ∀ x, X.fn x = true) {xs : List (Str × Nat)} (h : stoAll c xs = true) : ∀ p ∈ xs, StoOk X p.1 := fun p hp => ⟨by have := List.all_eq_true.mp h p hp; rw [← C.sc] at this; exact locB_ok this, .inl (hf _)⟩
theorem isLocal_ok (C : CxOk X c Φ Ψ) {x : Str} (h : isLocal c.sc x = true) : X.env.scope.names.lookup x = some .local := by rw [C.sc]; exact of_decide_eq_true h
theorem ix_ne {N : List Str} {i j : Nat} {x y : Str} (h1 : N[i]? = some x) (h2 : N[j]? = some y) (h : x ≠ y) : i ≠ j := fun e => by
  subst e
  rw [h1] at h2
  cases h2
  exact h rfl
theorem methB_ok {q : Str × Pos × Str × Pos × List Expr × Pos} (h : methB e = some q) : e = .Call (.Attribute (.Name q.1 q.2.1) q.2.2.1 q.2.2.2.1) q.2.2.2.2.1 [] q.2.2.2.2.2 := by
  unfold methB at h
  split at h
  · cases h; rfl
  · cases h
theorem popB_ok (C : CxOk X c Φ Ψ) {j : Nat} (h : popB c v = some j) : ∃ x p ap cp, v = .Call (.Attribute (.Name x p) sPop ap) [] [] cp ∧ PE X v (tBM0 X.K "list" rPop (tVar j)) := by
  unfold popB at h
  split at h
  · rename_i x p m ap cp hq
    split at h
    · rename_i hb
      have e := methB_ok hq
      obtain ⟨e1, e2⟩ := hb
      subst e1
      refine ⟨x, p, ap, cp, e, ?_⟩
      rw [e]
      exact pe_bm0 PySem.F.plainAttrs_list PySem.F.slot_list_pop PySem.F.type_list_pop mt_pop (cVar_ok C h) rfl e2
    · cases h
  · cases h
theorem cAsg_ok (C : CxOk X c Φ Ψ) (hfn : ∀ x, X.fn x = true) {s : S} (h : cAsg n c tg v = some s) : PS X (.Assign [tg] v pos) (tSt X.K ta Φ Ψ M s) := by
  have hf := compE_ok (ta := ta) n c X C
  unfold cAsg at h
  split at h
  · rename_i x px
    obtain ⟨i, hi, h⟩ := bind_some h
    obtain ⟨s1, s2, s3⟩ := stoN_ok C hfn hi
    split at h
    · rename_i j hj
      cases h
      obtain ⟨x1, p1, ap, cp, ev1, hpe⟩ := popB_ok C hj
      refine PS.weak (ps_set (nd_of C) s1 s2 hpe ?_ s3) fun D σ H h => popt_data h
      rw [ev1]; rfl
    split at h
    · rename_i y yp _ _
      split at h
      · rename_i j hj
        cases h
        refine PS.weak (ps_set (nd_of C) s1 s2 (cVar_ok C hj) rfl s3) fun D σ H h => mov_data h
      · obtain ⟨y, hy, h⟩ := map_some h
        subst h
        exact s_set (nd_of C) s1 s2 (hf _ _ hy).1 rfl s3
    · rename_i elt gs scope lp _ _
      split at h
      · rename_i hb
        simp only [Bool.and_eq_true, Bool.not_eq_true'] at hb
        obtain ⟨y, hy, h⟩ := map_some h
        subst h
        have hl := isLocal_ok C hb.1.1
        obtain ⟨tg, iter, ifs, wi, gg, tt, te, own, rfl, h1, h2, h3, h4, h5, h6, h7⟩ := cComp_parts C hf (fun X' eK C' => compE_ok n _ X' C') hy
        have hsw : swapsWith (.ListComp elt [⟨tg, iter, ifs, 0⟩] scope lp) (some (.Name x px)) pos.line X.env = pure true := sw_true (by rw [C.sc]; exact C.kind) hl hb.1.2 hb.2
        refine PS.weak (ps_setLc C.calm (nd_of C) s1 hl hsw h1 h2 h3 h4 h5 h6) fun D σ H hq => ?_
        exact h7 _ _ _ (set_data hq)
      · split at h
        · cases h
        · rename_i hb hnl
          obtain ⟨y, hy, h⟩ := map_some h
          subst h
          refine s_set (nd_of C) s1 s2 (hf _ _ hy).1 ?_ s3
          have hk : X.env.kindOf x ≠ some .local := fun z => hnl (decide_eq_true (by rw [← C.sc]; exact z))
          have hk2 : (X.env.kindOf x == some .local) = false := by simpa using hk
          unfold swapsWith
          simp only [hk2, Bool.and_false, Bool.false_and]
    · rename_i hnc
      split at h
      · cases h
      · rename_i hc
        obtain ⟨y, hy, h⟩ := map_some h
        subst h
        refine s_set (nd_of C) s1 s2 (hf _ _ hy).1 ?_ s3
        cases v <;> first | rfl | (exact absurd rfl hc)
  · rename_i ts k p
    split at h
    · rename_i hs
      obtain ⟨t, ht, h⟩ := bind_some h
      split at h
      · rename_i hst
        split at h
        · rename_i j hj
          cases h
          obtain ⟨x1, p1, ap, cp, ev1, hpe⟩ := popB_ok C hj
          refine PS.weak (ps_asg hpe (cTg_ok C.hN C.nd C.calm ht (stoAll_ok C hfn hst)) ?_ (swK_ok C.sc C.kind hs) rfl) fun D σ H h => popt_data h
          rw [ev1]; rfl
        · obtain ⟨y, hy, h⟩ := map_some h
          subst h
          refine s_asg (hf _ _ hy).1 (cTg_ok C.hN C.nd C.calm ht (stoAll_ok C hfn hst)) ?_ (swK_ok C.sc C.kind hs) rfl
          cases v <;> rfl
      · cases h
    · rename_i names hs
      split at h
      · rename_i x px y py a b k2 p2
        split at h
        · rename_i hb
          obtain ⟨e1, e2, e3, e4⟩ := hb
          obtain ⟨i, hi, h⟩ := bind_some h
          obtain ⟨j, hj, h⟩ := bind_some h
          obtain ⟨ca, ha, h⟩ := bind_some h
          obtain ⟨cb, hb, h⟩ := map_some h
          subst h e1
          obtain ⟨i1, i2⟩ := stoN_ok C hfn hi
          obtain ⟨j1, j2⟩ := stoN_ok C hfn hj
          have pa := hf _ _ ha
          have pb := hf _ _ hb
          exact s_par2 C.calm (nd_of C) i1 j1 (ix_ne i1 j1 e2) (isLocal_ok C e3) (isLocal_ok C e4) (as_cons pa.1 (as_cons pb.1 as_nil (star_ns pb.2.2)) (star_ns pa.2.2)) (swK_ok C.sc C.kind hs) rfl
        · cases h
      · rename_i x px y py z pz a b d k2 p2
        split at h
        · rename_i hb
          obtain ⟨e1, ⟨e2, e2b, e2c⟩, e3, e4, e5⟩ := hb
          obtain ⟨i, hi, h⟩ := bind_some h
          obtain ⟨j, hj, h⟩ := bind_some h
          obtain ⟨l, hl, h⟩ := bind_some h
          obtain ⟨ca, ha, h⟩ := bind_some h
          obtain ⟨cb, hb, h⟩ := bind_some h
          obtain ⟨cd, hd, h⟩ := map_some h
          subst h e1
          obtain ⟨i1, i2⟩ := stoN_ok C hfn hi
          obtain ⟨j1, j2⟩ := stoN_ok C hfn hj
          obtain ⟨l1, l2⟩ := stoN_ok C hfn hl
          have pa := hf _ _ ha
          have pb := hf _ _ hb
          have pd := hf _ _ hd
          have args := as_cons pa.1 (as_cons pb.1 (as_cons pd.1 as_nil (star_ns pd.2.2)) (star_ns pb.2.2)) (star_ns pa.2.2)
          have x1 := isLocal_ok C e3
          have x2 := isLocal_ok C e4
          have x3 := isLocal_ok C e5
          exact s_par3 C.calm (nd_of C) i1 j1 l1 (ix_ne i1 j1 e2) (ix_ne i1 l1 e2b) (ix_ne j1 l1 e2c) x1 x2 x3 args (ps_par3 C.calm (nd_of C) i1 j1 l1 (ix_ne i1 j1 e2) (ix_ne i1 l1 e2b) (ix_ne j1 l1 e2c) x1 x2 x3 args (swK_ok C.sc C.kind hs) rfl)
        · cases h
      · cases h
    · cases h
  · rename_i x px ix sp
    obtain ⟨i, hi, h⟩ := bind_some h
    split at h
    · cases h
    · rename_i hns
      obtain ⟨y, hy, h⟩ := bind_some h
      obtain ⟨z, hz, h⟩ := map_some h
      subst h
      refine s_sti (ps_asg (hf _ _ hy).1.use (pg_sub (cVar_ok C hi) (hf _ _ hz).1.use set_list ?_) ?_ ?_ rfl)
      · intro v'
        cases ix <;> first | rfl | exact absurd rfl (hns _ _ _ _)
      · cases v <;> rfl
      · cases v <;> rfl
  · cases h
theorem cMeth_ok (C : CxOk X c Φ Ψ) {x m : Str} {p ap cp : Pos} {args : List Expr} {s : S} (h : cMeth n c x m ap cp args = some s) : PS X (.Expr (.Call (.Attribute (.Name x p) m ap) args [] cp) pos) (tSt X.K ta Φ Ψ M s) := by
  have hf := compE_ok (ta := ta) n c X C
  unfold cMeth at h
  split at h
  · rename_i hl
    obtain ⟨i, hi, h⟩ := bind_some h
    split at h
    · rename_i e
      split at h
      · rename_i hm
        obtain ⟨y, hy, h⟩ := map_some h
        subst h hm
        obtain ⟨q1, _, q3⟩ := hf _ _ hy
        have hs := star_ns (es := []) (env := X.env) q3
        exact s_app (ps_expr (pe_bm PySem.F.plainAttrs_list PySem.F.slot_list_append PySem.F.type_list_append mt_append (cVar_ok C hi) (pa_cons q1.use pa_nil hs) rfl (by rw [hs]; rfl) hl hs rfl) rfl)
      · split at h
        · rename_i hm
          obtain ⟨y, hy, h⟩ := map_some h
          subst h hm
          obtain ⟨q1, _, q3⟩ := hf _ _ hy
          have hs := star_ns (es := []) (env := X.env) q3
          exact s_ext (ps_expr (pe_bm PySem.F.plainAttrs_list PySem.F.slot_list_extend PySem.F.type_list_extend mt_extend (cVar_ok C hi) (pa_cons q1.use pa_nil hs) rfl (by rw [hs]; rfl) hl hs rfl) rfl)
        · cases h
    · split at h
      · rename_i hm
        cases h
        subst hm
        exact s_pop (ps_expr (pe_bm0 PySem.F.plainAttrs_list PySem.F.slot_list_pop PySem.F.type_list_pop mt_pop (cVar_ok C hi) rfl hl) rfl)
      · cases h
    · cases h
  · cases h
theorem comp_ok (C : CxOk X c Φ Ψ) (hfn : ∀ x, X.fn x = true) : ∀ n, (∀ st s, compS n c st = some s → PS X st (tSt X.K ta Φ Ψ M s)) ∧ ∀ sts ss, compSs n c sts = some ss → PSs X sts (tSts X.K ta Φ Ψ M ss) := by
  have hp : PassesOwn (model X.prog X.w) X.A X.env X.xe := by rw [C.xe]; exact PassesOwn.never
  intro n
  induction n with
  | zero => exact ⟨(fun _ _ h => by simp [compS] at h), (fun _ _ h => by simp [compSs] at h)⟩
  | succ n ih =>
    obtain ⟨ih1, ih2⟩ := ih
    have hf := compE_ok (ta := ta) n c X C
    constructor
    · intro st s h
      unfold compS at h
      split at h
      · split at h
        · exact cAsg_ok C hfn h
        · cases h
      · split at h
        · obtain ⟨i, hi, h⟩ := bind_some h
          obtain ⟨o, ho, h⟩ := bind_some h
          obtain ⟨y, hy, h⟩ := map_some h
          subst h
          have eo := cOp_ok ho
          subst eo
          obtain ⟨s1, s2, s3⟩ := stoN_ok C hfn hi
          exact s_aug (nd_of C) s1 s2 (hf _ _ hy).1 s3
        · cases h
      · split at h
        · rename_i q hq
          rw [methB_ok hq]
          exact cMeth_ok C h
        · split at h
          · cases h
          · rename_i e _ _ _ hc
            obtain ⟨y, hy, h⟩ := map_some h
            subst h
            refine s_exp (hf _ _ hy).1 ?_
            cases e <;> first | rfl | exact absurd rfl hc
      · split at h
        · cases h; exact s_retn
        · split at h
          · split at h
            · rename_i i hi
              cases h
              exact s_retv (cVar_ok C hi)
            · obtain ⟨y, hy, h⟩ := map_some h
              subst h
              exact s_ret (hf _ _ hy).1
          · obtain ⟨y, hy, h⟩ := map_some h
            subst h
            exact s_ret (hf _ _ hy).1
      · obtain ⟨x, hx, h⟩ := bind_some h
        obtain ⟨y, hy, h⟩ := bind_some h
        obtain ⟨z, hz, h⟩ := map_some h
        subst h
        exact s_ite (cTest_ok hf _ _ _ hx) (ih2 _ _ hy) (ih2 _ _ hz)
      · split at h
        · obtain ⟨x, hx, h⟩ := bind_some h
          obtain ⟨y, hy, h⟩ := map_some h
          subst h
          exact s_whl hp (cTest_ok hf _ _ _ hx) (ih2 _ _ hy)
        · cases h
      · split at h
        · obtain ⟨t, ht, h⟩ := bind_some h
          split at h
          · rename_i hst
            obtain ⟨y, hy, h⟩ := bind_some h
            have hg := cTg_ok C.hN C.nd C.calm ht (stoAll_ok C hfn hst)
            split at h
            · split at h
              · rename_i i hi
                cases h
                exact s_forv hp C.calm (cVar_ok C hi) hg (ih2 _ _ hy) fun x => rfl
              · obtain ⟨z, hz, h⟩ := map_some h
                subst h
                obtain ⟨p1, p2⟩ := cIt_ok C hf hz
                exact s_for hp C.calm p1 hg (ih2 _ _ hy) p2
            · obtain ⟨z, hz, h⟩ := map_some h
              subst h
              obtain ⟨p1, p2⟩ := cIt_ok C hf hz
              exact s_for hp C.calm p1 hg (ih2 _ _ hy) p2
          · cases h
        · cases h
      · cases h; exact s_pas
      · cases h; exact s_brk
      · cases h; exact s_cnt
      · cases h; exact s_nev
      · cases h
    · intro sts ss h
      unfold compSs at h
      split at h
      · cases h; exact s_nil
      · obtain ⟨x, hx, h⟩ := bind_some h
        obtain ⟨xs, hxs, h⟩ := map_some h
        subst h
        exact s_cons (ih1 _ _ hx) (ih2 _ _ hxs)
end

/-! ### defs -/
/-- what a body hands back -/
def retOf : Out → Option R
  | .rt r _ => some r
  | .nx _ _ => some ⟨.S, .none⟩
  | _ => none
def τ0 : Tp := ⟨[], 0, 0, 0⟩
/-- a def's slots at its entry -/
def start0 (N : Nat) (ds : List D) : Rho := ds.map Sl.im ++ List.replicate (N - ds.length) .un
theorem start_rel {K : PySem.W.Frag} {H : Hp} {N : List Str} {vs : List V} {ds : List D} (h : RpAll K H vs ds) (hl : ds.length ≤ N.length) : Rel K ⟨none, 0⟩ (start0 N.length ds) H (L2.start N vs) H := by
  have lv := h.length
  have noow : ∀ (i : Nat) (di : List D), (start0 N.length ds)[i]? = some (.ow di) → False := fun i di e => by
    unfold start0 at e
    rw [List.getElem?_append] at e
    split at e
    · rw [List.getElem?_map] at e
      cases q : ds[i]? with
      | none => rw [q] at e; cases e
      | some d => rw [q] at e; cases e
    · rw [List.getElem?_replicate] at e
      split at e <;> cases e
  refine ⟨?_, Same.refl _, fun i s e => ?_, fun i j di dj p e1 e2 e3 e4 => (noow i di e1).elim⟩
  · unfold start0 L2.start
    simp [lv]
  · unfold start0 at e
    rw [List.getElem?_append] at e
    split at e
    · rename_i hi
      rw [List.length_map] at hi
      rw [List.getElem?_map, List.getElem?_eq_getElem hi] at e
      cases e
      obtain ⟨v, e1, e2⟩ := h.get (List.getElem?_eq_getElem hi)
      refine ⟨v, ?_, e2⟩
      unfold L2.start
      rw [List.getElem?_append_left (by rw [List.length_map, lv]; exact hi), List.getElem?_map, e1]
      rfl
    · rw [List.getElem?_replicate] at e
      split at e
      · cases e; trivial
      · cases e
/-- what a caller has to know of the defs around -/
structure Env1 (P : Program) (w : World) (K : PySem.W.Frag) (mg : Str → Option Value) (base : Heap) (k : Nat) (c : Cc) (Φ : Nat → List D → Option R) (Ψ : Nat → List D → Tp → Option (R × Tp)) : Prop where
  con : ∀ x d, c.cs.lookup x = some d → ∃ v u, mg x = some u ∧ RelV v u ∧ ∀ H, Rp K H v d
  bl : ∀ x, c.bl.contains x = true → mg x = none
  fns : ∀ n x, c.fs[n]? = some x → ∃ f fd ps, FnOk P w K mg base CX0 k f fd ps (spP K (Φ n)) ∧ mg x = some (.ref f) ∧ PySem.W.keepIn K (.ref f) = true ∧ Binds K fd ps []
  fts : ∀ n x, c.ft[n]? = some x → (∀ ds τ r τ', Ψ n ds τ = some (r, τ') → τ'.cells = τ.cells) ∧ ∃ f fd ps, FnOk P w K mg base CX0 k f fd ps (spT K (Ψ n)) ∧ mg x = some (.ref f) ∧ PySem.W.keepIn K (.ref f) = true ∧ Binds K fd ps []
theorem Env1.cx {P : Program} {w : World} {K : PySem.W.Frag} {mg : Str → Option Value} {base : Heap} {k : Nat} {c : Cc} {Φ : Nat → List D → Option R} {Ψ : Nat → List D → Tp → Option (R × Tp)} (V : Env1 P w K mg base k c Φ Ψ) {ps : List Str} (hS : FnScope c.N ps c.sc)
    {qual : Str} {f : Addr} {cd : Value} {A : Around} {outer : List Env} {s : Shared} {H : Hp} {E : XK} (hr : Room k (A.deeper (envOfC qual c.sc s.heap.objs.size f cd))) : CxOk (cxOf CX0 P w K mg base c.N qual c.sc f cd A outer s H E).nox c Φ Ψ where
  hN := rfl
  nd := hS.nd
  sc := rfl
  kind := hS.kind
  calm := rfl
  xe := rfl
  hu := by have := hr.un; show (A.deeper _).units + 80 < cLine; omega
  con := V.con
  bl := V.bl
  fns := fun n x h => by
    obtain ⟨f, fd, ps, F, hm, hk, hb⟩ := V.fns n x h
    exact ⟨k, f, fd, ps, F, hr, hm, hk, hb⟩
  fts := fun n x h => by
    obtain ⟨h1, f, fd, ps, F, hm, hk, hb⟩ := V.fts n x h
    exact ⟨h1, k, f, fd, ps, F, hr, hm, hk, hb⟩
/-- THE RULE: a def keeps the promise that the evaluator tells -/
theorem fn_ev {P : Program} {w : World} {K : PySem.W.Frag} {mg : Str → Option Value} {base : Heap} {k : Nat} {c : Cc} {Φ : Nat → List D → Option R} {Ψ : Nat → List D → Tp → Option (R × Tp)} {x qual : Str} {st : Stmt} {f : Addr} {fd : FuncData} {ps : List Str} {code : List S} {fuel : Nat} {φ : List D → Option R}
    (V : Env1 P w K mg base k c Φ Ψ) (F : Fun K x qual st f fd) (hS : FnScope c.N ps c.sc) (hsc : c.sc = defScope st) (hc : compSs fuel c (defBody st) = some code) (hp : ps.length ≤ c.N.length)
    (hφ : ∀ ds r, φ ds = some r → ds.length = ps.length ∧ ∃ M o, evSs Φ Ψ M (start0 c.N.length ds) τ0 code = some o ∧ retOf o = some r) : FnOk P w K mg base CX0 (k + 1) f fd ps (spP K φ) := by
  refine F.ok (N := c.N) (by rw [← hsc]; exact hS) (fun vs H Q E h => ?_) (fun cdv A outer s H vs Q E hr h => ?_)
  · obtain ⟨ds, r, h1, h2, _⟩ := h
    rw [h1.length]
    exact (hφ ds r h2).1
  · obtain ⟨ds, r, h1, h2, hcl, hQ⟩ := h
    obtain ⟨hl, M, o, hev, hro⟩ := hφ ds r h2
    rw [← hsc] at hr ⊢
    have C := V.cx hS hr (outer := outer) (E := E) (H := H)
    refine ⟨_, (comp_ok (ta := ⟨none, 0⟩) (M := M) C (fun _ => rfl) fuel).2 _ _ hc, H, start0 c.N.length ds, τ0, o, start_rel h1 (by omega), (fun a e => by cases e), hev, ?_⟩
    cases o with
    | bk _ _ => cases hro
    | ct _ _ => cases hro
    | nx ρ1 τ1 =>
      cases hro
      intro σ' H' S' hs R' _
      exact hQ .non H' (hs.trans R'.sub) (show Rp K H' .non .none from rfl)
    | rt r' τ' =>
    cases hro
    intro v H' S' hs hs' _ hv
    refine hQ v H' (hs.trans hs') ?_
    obtain ⟨kd, d⟩ := r
    cases kd with
    | S => exact Rp.mono hs' d hv
    | B => exact hv.elim
    | F =>
      obtain ⟨p, ds', vs', e1, e2, e3, e4, e5, _⟩ := hv
      have n : H p = none := by
        cases z : H p with
        | none => rfl
        | some o => have := hs _ _ z; rw [e4] at this; cases this
      exact ⟨p, ds', vs', e1, e2, n, e3, RpAll.mono hs' ds' e5⟩
end Ev

/-! ## Ev13 -/
namespace Ev
open PySem PySem.Spec PyProof.Rows L2

/-! ### the law's tape: _law_begin, _law_take -/
def takeA (τ : Tp) (m v : Int) : Int × Tp := if v < 1000000000000000000 then (v.fmod m, ⟨τ.cells, τ.pos + 1, 0, τ.seed⟩) else (v.fmod m, ⟨τ.cells, τ.pos + 1, v.fdiv m, τ.seed⟩)
def takeB (τ : Tp) (m s : Int) : Int × Tp := ((s.fdiv 3).fmod m, ⟨τ.cells, τ.pos, τ.cur, s⟩)
def takeM (τ : Tp) (m : Int) : Int × Tp :=
  if τ.cur = 0 ∧ τ.pos < τ.cells.length then takeA τ m ((τ.cells.getD τ.pos 0).natAbs : Int)
  else if 0 < τ.cur then (τ.cur.fmod m, ⟨τ.cells, τ.pos, τ.cur.fdiv m, τ.seed⟩)
  else takeB τ m ((τ.seed * 48271 + 11).fmod 2147483647)
theorem takeA_cells (τ : Tp) (m v : Int) : (takeA τ m v).2.cells = τ.cells := by
  unfold takeA
  by_cases h : v < 1000000000000000000
  · rw [if_pos h]
  · rw [if_neg h]
theorem takeM_cells (τ : Tp) (m : Int) : (takeM τ m).2.cells = τ.cells := by
  unfold takeM
  by_cases h : τ.cur = 0 ∧ τ.pos < τ.cells.length
  · rw [if_pos h, takeA_cells]
  · rw [if_neg h]
    by_cases h2 : 0 < τ.cur
    · rw [if_pos h2]
    · rw [if_neg h2, takeB]
theorem fmod_range {x m : Int} (h : 0 < m) : 0 ≤ x.fmod m ∧ x.fmod m < m := ⟨Int.fmod_nonneg_of_pos x h, Int.fmod_lt_of_pos x h⟩
theorem takeA_range (τ : Tp) {m v : Int} (h : 0 < m) : 0 ≤ (takeA τ m v).1 ∧ (takeA τ m v).1 < m := by
  unfold takeA
  by_cases h1 : v < 1000000000000000000
  · rw [if_pos h1]; exact fmod_range h
  · rw [if_neg h1]; exact fmod_range h
theorem takeM_range (τ : Tp) {m : Int} (h : 0 < m) : 0 ≤ (takeM τ m).1 ∧ (takeM τ m).1 < m := by
  unfold takeM
  by_cases h1 : τ.cur = 0 ∧ τ.pos < τ.cells.length
  · rw [if_pos h1]; exact takeA_range τ h
  · rw [if_neg h1]
    by_cases h2 : 0 < τ.cur
    · rw [if_pos h2]; exact fmod_range h
    · rw [if_neg h2, takeB]; exact fmod_range h
def takeF : List D → Tp → Option (R × Tp)
  | [.int m], τ => if 0 < m ∧ m < 1073741824 then some (⟨.S, .int (takeM τ m).1⟩, (takeM τ m).2) else none
  | _, _ => none
theorem takeF_cells : ∀ (ds : List D) (τ : Tp) (r : R) (τ' : Tp), takeF ds τ = some (r, τ') → τ'.cells = τ.cells := by
  intro ds τ r τ' h
  unfold takeF at h
  split at h
  · split at h
    · cases h; exact takeM_cells _ _
    · cases h
  · cases h
/-! the readings of the tape's own expressions -/
section
variable {K : PySem.W.Frag}
def xIx (K : PySem.W.Frag) (i : Int) : TE := tOp (rIx K) (tVar 0) (tC (.int i))
def tTake (K : PySem.W.Frag) : TS :=
  tSeq (tIfS (tAnd (tTest (tOp rEq (xIx K 2) (tC (.int 0)))) (tTest (tOp (rI0 fun i j => .bl (decide (i < j))) (xIx K 1) (tCB (fun xs H Q => ∃ p ys, xs = [.ref p] ∧ (SqL K H p ys ∨ SqT K H p ys) ∧ Q (.int ys.length) H) (tCons (xIx K 0) tNil)))))
    (tSeq (tAsg (tCB (fun xs H Q => ∃ i, xs = [.int i] ∧ Q (.int (if i < 0 then -i else i)) H) (tCons (tCB (fun xs H Q => (∃ i, xs = [.int i] ∧ Q (.int i) H) ∨ ∃ k, xs = [.bl k] ∧ Q (.int (if k then 1 else 0)) H) (tCons (tOp (rIx K) (xIx K 0) (xIx K 1)) tNil)) tNil)) (gSub (tVar 0) (tC (.int 2)) rSetL))
    (tSeq (tAsg (tOp (rI0 fun i j => .int (i + j)) (xIx K 1) (tC (.int 1))) (gSub (tVar 0) (tC (.int 1)) rSetL))
      (tIfS (tTest (tOp (rI0 fun i j => .bl (decide (i < j))) (xIx K 2) (tOp (rI CPow fun i j => .int (i ^ j.toNat)) (tC (.int 10)) (tC (.int 18)))))
        (tSeq (tAsg (tCB (fun xs H Q => (∃ i, xs = [.int i] ∧ Q (.int i) H) ∨ ∃ k, xs = [.bl k] ∧ Q (.int (if k then 1 else 0)) H) (tCons (xIx K 2) tNil)) (gName 2))
          (tSeq (tAsg (tC (.int 0)) (gSub (tVar 0) (tC (.int 2)) rSetL)) (tRet (tOp (rI (fun _ j => j ≠ 0) fun i j => .int (i.fmod j)) (tVar 2) (tVar 1))))) tNext)))
    tNext)
  (tSeq (tIfS (tTest (tOp (rI0 fun i j => .bl (decide (j < i))) (xIx K 2) (tC (.int 0))))
    (tSeq (tAsg (tOp (rI (fun _ j => j ≠ 0) fun i j => .int (i.fmod j)) (tCB (fun xs H Q => (∃ i, xs = [.int i] ∧ Q (.int i) H) ∨ ∃ k, xs = [.bl k] ∧ Q (.int (if k then 1 else 0)) H) (tCons (xIx K 2) tNil)) (tVar 1)) (gName 3))
      (tSeq (tAsg (tOp (rI CDivN fun i j => .int (i.fdiv j)) (tCB (fun xs H Q => (∃ i, xs = [.int i] ∧ Q (.int i) H) ∨ ∃ k, xs = [.bl k] ∧ Q (.int (if k then 1 else 0)) H) (tCons (xIx K 2) tNil)) (tVar 1)) (gSub (tVar 0) (tC (.int 2)) rSetL))
        (tRet (tVar 3)))) tNext)
  (tSeq (tAsg (tOp (rI (fun _ j => j ≠ 0) fun i j => .int (i.fmod j)) (tCB (fun xs H Q => (∃ i, xs = [.int i] ∧ Q (.int i) H) ∨ ∃ k, xs = [.bl k] ∧ Q (.int (if k then 1 else 0)) H) (tCons (tOp (rI0 fun i j => .int (i + j)) (tOp (rI CMul fun i j => .int (i * j)) (xIx K 3) (tC (.int 48271))) (tC (.int 11))) tNil)) (tC (.int 2147483647))) (gSub (tVar 0) (tC (.int 3)) rSetL))
    (tRet (tOp (rI (fun _ j => j ≠ 0) fun i j => .int (i.fmod j)) (tCB (fun xs H Q => (∃ i, xs = [.int i] ∧ Q (.int i) H) ∨ ∃ k, xs = [.bl k] ∧ Q (.int (if k then 1 else 0)) H) (tCons (tOp (rI CDivN fun i j => .int (i.fdiv j)) (xIx K 3) (tC (.int 3))) tNil)) (tVar 1)))))
theorem ix_ok {σ : L2.St} {H : Hp} {a : Addr} {xs : List V} {i : Nat} {v : V} {Q : VK} (h0 : σ[0]? = some (some (.ref a))) (h : H a = some (.lst xs)) (hv : xs[i]? = some v) (q : Q v H) : xIx K (i : Int) σ H Q :=
  ⟨_, h0, .inl ⟨a, xs, i, v, rfl, rfl, SqL.of h, atI_nat hv, q⟩⟩
theorem st_ok {σ : L2.St} {H : Hp} {a : Addr} {xs : List V} {i : Nat} {v : V} {Q : L2.St → Hp → Prop} (h0 : σ[0]? = some (some (.ref a))) (h : H a = some (.lst xs)) (hi : i < xs.length) (q : Q σ (upd H a (.lst (xs.set i v)))) : gSub (tVar 0) (tC (.int (i : Int))) rSetL v σ H Q :=
  ⟨_, h0, a, xs, i, i, rfl, rfl, h, by unfold ixN; rw [if_pos (by omega), if_pos (by omega)]; rfl, q⟩
theorem e18 : (10 : Int) ^ (18 : Int).toNat = 1000000000000000000 := by decide +kernel
theorem take_run {a : Addr} {b : Addr} {τ : Tp} {m : Int} {H : Hp} {D : Ends} (ht : TapeAt K (del H a) H a b τ) (hm : 0 < m ∧ m < 1073741824)
    (hQ : ∀ H', Same (del H a) (del H' a) → TapeAt K (del H' a) H' a b (takeM τ m).2 → D.rt (.int (takeM τ m).1) H') : tTake K D [some (.ref a), some (.int m), none, none] H := by
  obtain ⟨_, hA, hB⟩ := ht
  have fin : ∀ (H' : Hp) (τ' : Tp), τ'.cells = τ.cells → del H' a = del H a → H' a = some (.lst [.ref b, .int (τ'.pos : Int), .int τ'.cur, .int τ'.seed]) → TapeAt K (del H' a) H' a b τ' := fun H' τ' e1 e2 e3 => ⟨del_same, e3, by rw [e1, e2]; exact hB⟩
  have sm : ∀ {H' : Hp}, del H' a = del H a → Same (del H a) (del H' a) := fun {H'} e => by rw [e]; exact Same.refl _
  have hBH : SqL K H b (τ.cells.map V.int) := del_sub.seq hB
  have hnz : m ≠ 0 := by omega
  -- the second part: from the second if on
  have second : ∀ (τ1 : Tp) (H1 : Hp) (x2 : Option V), τ1.cells = τ.cells → del H1 a = del H a → H1 a = some (.lst [.ref b, .int (τ1.pos : Int), .int τ1.cur, .int τ1.seed]) →
      (0 < τ1.cur → ∀ H', del H' a = del H a → H' a = some (.lst [.ref b, .int (τ1.pos : Int), .int (τ1.cur.fdiv m), .int τ1.seed]) → D.rt (.int (τ1.cur.fmod m)) H') →
      (¬ 0 < τ1.cur → ∀ H', del H' a = del H a → H' a = some (.lst [.ref b, .int (τ1.pos : Int), .int τ1.cur, .int ((τ1.seed * 48271 + 11).fmod 2147483647)]) → D.rt (.int ((((τ1.seed * 48271 + 11).fmod 2147483647).fdiv 3).fmod m)) H') →
      (tSeq (tIfS (tTest (tOp (rI0 fun i j => .bl (decide (j < i))) (xIx K 2) (tC (.int 0))))
    (tSeq (tAsg (tOp (rI (fun _ j => j ≠ 0) fun i j => .int (i.fmod j)) (tCB (fun xs H Q => (∃ i, xs = [.int i] ∧ Q (.int i) H) ∨ ∃ k, xs = [.bl k] ∧ Q (.int (if k then 1 else 0)) H) (tCons (xIx K 2) tNil)) (tVar 1)) (gName 3))
      (tSeq (tAsg (tOp (rI CDivN fun i j => .int (i.fdiv j)) (tCB (fun xs H Q => (∃ i, xs = [.int i] ∧ Q (.int i) H) ∨ ∃ k, xs = [.bl k] ∧ Q (.int (if k then 1 else 0)) H) (tCons (xIx K 2) tNil)) (tVar 1)) (gSub (tVar 0) (tC (.int 2)) rSetL))
        (tRet (tVar 3)))) tNext)
  (tSeq (tAsg (tOp (rI (fun _ j => j ≠ 0) fun i j => .int (i.fmod j)) (tCB (fun xs H Q => (∃ i, xs = [.int i] ∧ Q (.int i) H) ∨ ∃ k, xs = [.bl k] ∧ Q (.int (if k then 1 else 0)) H) (tCons (tOp (rI0 fun i j => .int (i + j)) (tOp (rI CMul fun i j => .int (i * j)) (xIx K 3) (tC (.int 48271))) (tC (.int 11))) tNil)) (tC (.int 2147483647))) (gSub (tVar 0) (tC (.int 3)) rSetL))
    (tRet (tOp (rI (fun _ j => j ≠ 0) fun i j => .int (i.fmod j)) (tCB (fun xs H Q => (∃ i, xs = [.int i] ∧ Q (.int i) H) ∨ ∃ k, xs = [.bl k] ∧ Q (.int (if k then 1 else 0)) H) (tCons (tOp (rI CDivN fun i j => .int (i.fdiv j)) (xIx K 3) (tC (.int 3))) tNil)) (tVar 1))))) D [some (.ref a), some (.int m), x2, none] H1 := by
    intro τ1 H1 x2 e1 e2 e3 p1 p2
    refine ix_ok (i := 2) rfl e3 rfl ⟨τ1.cur, 0, rfl, rfl, _, rfl, ite2 (fun h => ?_) (fun h => ?_)⟩
    · have hpos : 0 < τ1.cur := of_decide_eq_true h
      refine ix_ok (i := 2) rfl e3 rfl (.inl ⟨_, rfl, _, rfl, _, _, rfl, rfl, hnz, ?_⟩)
      refine ix_ok (i := 2) rfl e3 rfl (.inl ⟨_, rfl, _, rfl, _, _, rfl, rfl, ⟨hnz, by omega⟩, ?_⟩)
      refine st_ok (i := 2) rfl e3 (by simp) ⟨_, rfl, ?_⟩
      exact p1 hpos _ (by rw [del_upd, e2]) upd_same
    · have hpos : ¬ 0 < τ1.cur := fun z => h (decide_eq_true z)
      refine ix_ok (i := 3) rfl e3 rfl ⟨_, _, rfl, rfl, .inr ⟨by decide, by decide⟩, _, _, rfl, rfl, .inl ⟨_, rfl, _, _, rfl, rfl, (by show (2147483647 : Int) ≠ 0; decide), ?_⟩⟩
      refine st_ok (i := 3) rfl e3 (by simp) ?_
      refine ix_ok (i := 3) rfl upd_same rfl ⟨_, _, rfl, rfl, ⟨by decide, by decide⟩, .inl ⟨_, rfl, _, rfl, _, _, rfl, rfl, hnz, ?_⟩⟩
      exact p2 hpos _ (by rw [del_upd, e2]) upd_same
  -- the first if
  refine ix_ok (i := 2) rfl hA rfl ⟨rfl, _, rfl, ite2 (fun h => ?_) (fun h => ?_)⟩
  · have h0 : τ.cur = 0 := V.int.inj (of_decide_eq_true h)
    refine ix_ok (i := 1) rfl hA rfl (ix_ok (i := 0) rfl hA rfl ⟨b, _, rfl, .inl hBH, _, _, rfl, rfl, _, rfl, ite2 (fun h1 => ?_) (fun h1 => ?_)⟩)
    · have hlt : τ.pos < τ.cells.length := by
        have := of_decide_eq_true h1
        rw [List.length_map] at this
        omega
      refine ix_ok (i := 0) rfl hA rfl (ix_ok (i := 1) rfl hA rfl (.inl ⟨b, _, _, .int (τ.cells.getD τ.pos 0), rfl, rfl, hBH, atI_nat ?_, .inl ⟨_, rfl, _, rfl, ?_⟩⟩))
      · rw [List.getElem?_map, List.getElem?_eq_getElem hlt]
        simp [List.getD, List.getElem?_eq_getElem hlt]
      · have habs : (if τ.cells.getD τ.pos 0 < 0 then -(τ.cells.getD τ.pos 0) else τ.cells.getD τ.pos 0) = ((τ.cells.getD τ.pos 0).natAbs : Int) := by
          split <;> omega
        rw [habs]
        have htm : takeM τ m = if ((τ.cells.getD τ.pos 0).natAbs : Int) < 1000000000000000000 then ((((τ.cells.getD τ.pos 0).natAbs : Int)).fmod m, ⟨τ.cells, τ.pos + 1, 0, τ.seed⟩) else ((((τ.cells.getD τ.pos 0).natAbs : Int)).fmod m, ⟨τ.cells, τ.pos + 1, (((τ.cells.getD τ.pos 0).natAbs : Int)).fdiv m, τ.seed⟩) := by
          unfold takeM
          rw [if_pos ⟨h0, hlt⟩, takeA]
        generalize hv : ((τ.cells.getD τ.pos 0).natAbs : Int) = v at htm
        refine st_ok (i := 2) rfl hA (by simp) ?_
        refine ix_ok (i := 1) rfl upd_same rfl ⟨_, _, rfl, rfl, ?_⟩
        refine st_ok (i := 1) rfl upd_same (by simp) ?_
        rw [upd_upd]
        refine ix_ok (i := 2) rfl upd_same rfl ⟨_, _, rfl, rfl, ⟨by decide, by decide, by decide⟩, _, _, rfl, rfl, _, rfl, ite2 (fun h2 => ?_) (fun h2 => ?_)⟩
        · have h2' : v < 1000000000000000000 := by have := of_decide_eq_true h2; rw [e18] at this; exact this
          rw [if_pos h2'] at htm
          refine ix_ok (i := 2) rfl upd_same rfl (.inl ⟨_, rfl, ?_⟩)
          refine st_ok (i := 2) rfl upd_same (by simp) ⟨_, rfl, _, rfl, _, _, rfl, rfl, hnz, ?_⟩
          rw [upd_upd]
          have := hQ (upd H a (.lst [.ref b, .int ((τ.pos : Int) + 1), .int 0, .int τ.seed]))
          rw [htm] at this
          exact this (sm del_upd) (fin _ _ rfl del_upd (by rw [upd_same]; rfl))
        · have h2' : ¬ v < 1000000000000000000 := fun z => h2 (decide_eq_true (by rw [e18]; exact z))
          rw [if_neg h2'] at htm
          refine second ⟨τ.cells, τ.pos + 1, v, τ.seed⟩ _ none rfl del_upd upd_same (fun hp H' g1 g2 => ?_) (fun hp => ?_)
          · have := hQ H'
            rw [htm] at this
            exact this (sm g1) (fin _ _ rfl g1 g2)
          · have hv0 : (0 : Int) < v := by omega
            exact absurd hv0 hp
    · have hlt : ¬ τ.pos < τ.cells.length := fun z => h1 (decide_eq_true (by rw [List.length_map]; omega))
      have htm : takeM τ m = ((((τ.seed * 48271 + 11).fmod 2147483647).fdiv 3).fmod m, ⟨τ.cells, τ.pos, τ.cur, (τ.seed * 48271 + 11).fmod 2147483647⟩) := by
        unfold takeM
        rw [if_neg (fun z => hlt z.2), if_neg (by omega), takeB]
      refine second τ H none rfl rfl hA (fun hp => by omega) (fun hp H' g1 g2 => ?_)
      have := hQ H'
      rw [htm] at this
      exact this (sm g1) (fin _ _ rfl g1 g2)
  · have h0 : τ.cur ≠ 0 := fun z => h (decide_eq_true (by rw [z]))
    refine iteF ?_
    refine second τ H none rfl rfl hA (fun hp H' g1 g2 => ?_) (fun hp H' g1 g2 => ?_)
    · have htm : takeM τ m = (τ.cur.fmod m, ⟨τ.cells, τ.pos, τ.cur.fdiv m, τ.seed⟩) := by
        unfold takeM
        rw [if_neg (fun z => h0 z.1), if_pos hp]
      have := hQ H'
      rw [htm] at this
      exact this (sm g1) (fin _ _ rfl g1 g2)
    · have htm : takeM τ m = ((((τ.seed * 48271 + 11).fmod 2147483647).fdiv 3).fmod m, ⟨τ.cells, τ.pos, τ.cur, (τ.seed * 48271 + 11).fmod 2147483647⟩) := by
        unfold takeM
        rw [if_neg (fun z => h0 z.1), if_neg hp, takeB]
      have := hQ H'
      rw [htm] at this
      exact this (sm g1) (fin _ _ rfl g1 g2)
end
end Ev

/-! ## EvK -/
/-! the same evaluator once more, by the recursors and with forced numbers, lists and slots: for runs in the kernel -/
namespace Ev
open PySem PySem.Spec PyProof.Rows L2

/-! ### forcing -/
section
variable {β : Type}
noncomputable def frcN (n : Nat) (f : Nat → β) : β := @Nat.rec (fun _ => β) (f .zero) (fun m _ => f (.succ m)) n
theorem frcN_eq (n : Nat) (f : Nat → β) : frcN n f = f n := by cases n <;> rfl
noncomputable def frcI (i : Int) (f : Int → β) : β := @Int.rec (fun _ => β) (fun n => @Nat.rec (fun _ => β) (f (.ofNat .zero)) (fun m _ => f (.ofNat (.succ m))) n) (fun n => @Nat.rec (fun _ => β) (f (.negSucc .zero)) (fun m _ => f (.negSucc (.succ m))) n) i
theorem frcI_eq (i : Int) (f : Int → β) : frcI i f = f i := by
  cases i with
  | ofNat n => cases n <;> rfl
  | negSucc n => cases n <;> rfl
/-- a list's spine -/
noncomputable def frcL {α : Type} (l : List α) : (List α → β) → β := @List.rec α (fun _ => (List α → β) → β) (fun f => f []) (fun a _ ih f => ih fun r => f (a :: r)) l
theorem frcL_eq {α : Type} : ∀ (l : List α) (f : List α → β), frcL l f = f l
  | [], _ => rfl
  | a :: l, f => frcL_eq l _
noncomputable def frcB (b : Bool) (f : Bool → β) : β := @Bool.rec (fun _ => β) (f false) (f true) b
theorem frcB_eq (b : Bool) (f : Bool → β) : frcB b f = f b := by cases b <;> rfl
noncomputable def iteB (b : Bool) (x y : β) : β := @Bool.rec (fun _ => β) y x b
theorem iteB_eq (b : Bool) (x y : β) : iteB b x y = if b = true then x else y := by cases b <;> rfl
/-- an int, or else -/
noncomputable def dInt (d : D) (g : β) (f : Int → β) : β := @PyData.rec (fun _ => β) (fun _ => PUnit) (fun _ => PUnit) (fun _ => PUnit) g (fun _ => g) f (fun _ => g) (fun _ _ => g) (fun _ _ => g) (fun _ _ => g) ⟨⟩ (fun _ _ _ _ => ⟨⟩) ⟨⟩ (fun _ _ _ _ => ⟨⟩) (fun _ _ _ _ => ⟨⟩) d
noncomputable def dBool (d : D) (g : β) (f : Bool → β) : β := @PyData.rec (fun _ => β) (fun _ => PUnit) (fun _ => PUnit) (fun _ => PUnit) g f (fun _ => g) (fun _ => g) (fun _ _ => g) (fun _ _ => g) (fun _ _ => g) ⟨⟩ (fun _ _ _ _ => ⟨⟩) ⟨⟩ (fun _ _ _ _ => ⟨⟩) (fun _ _ _ _ => ⟨⟩) d
/-- two ways -/
noncomputable def dTest (d : D) (g x y : β) : β := @PyData.rec (fun _ => β) (fun _ => PUnit) (fun _ => PUnit) (fun _ => PUnit) g (fun b => @Bool.rec (fun _ => β) y x b) (fun _ => g) (fun _ => g) (fun _ _ => g) (fun _ _ => g) (fun _ _ => g) ⟨⟩ (fun _ _ _ _ => ⟨⟩) ⟨⟩ (fun _ _ _ _ => ⟨⟩) (fun _ _ _ _ => ⟨⟩) d
/-- a datum's head -/
noncomputable def frcD (d : D) (f : D → β) : β := @PyData.rec (fun _ => β) (fun _ => PUnit) (fun _ => PUnit) (fun _ => PUnit) (f .none) (fun b => @Bool.rec (fun _ => β) (f (.bool false)) (f (.bool true)) b) (fun i => frcI i fun i => f (.int i)) (fun x => f (.str x)) (fun l _ => frcL l fun l => f (.list l)) (fun l _ => frcL l fun l => f (.tuple l)) (fun l _ => f (.dict l)) ⟨⟩ (fun _ _ _ _ => ⟨⟩) ⟨⟩ (fun _ _ _ _ => ⟨⟩) (fun _ _ _ _ => ⟨⟩) d
theorem frcD_eq (d : D) (f : D → β) : frcD d f = f d := by
  cases d with
  | bool b => cases b <;> rfl
  | int i => exact frcI_eq i fun i => f (.int i)
  | list l => exact frcL_eq l fun l => f (.list l)
  | tuple l => exact frcL_eq l fun l => f (.tuple l)
  | _ => rfl
noncomputable def getK {α : Type} (l : List α) : Nat → Option α := @List.rec α (fun _ => Nat → Option α) (fun _ => none) (fun a _ ih n => @Nat.rec (fun _ => Option α) (some a) (fun n _ => ih n) n) l
theorem getK_eq {α : Type} : ∀ (l : List α) (n : Nat), getK l n = l[n]?
  | [], _ => by simp [getK]
  | _ :: _, 0 => rfl
  | _ :: l, n + 1 => by
    show getK l n = _
    simp [getK_eq l n]
noncomputable def setK {α : Type} (l : List α) : Nat → α → (List α → β) → β := @List.rec α (fun _ => Nat → α → (List α → β) → β) (fun _ _ f => f []) (fun a l ih n v f => @Nat.rec (fun _ => β) (f (v :: l)) (fun n _ => ih n v fun r => f (a :: r)) n) l
theorem setK_eq {α : Type} : ∀ (l : List α) (n : Nat) (v : α) (f : List α → β), setK l n v f = f (l.set n v)
  | [], _, _, _ => rfl
  | _ :: _, 0, _, _ => rfl
  | a :: l, n + 1, v, f => setK_eq l n v _
noncomputable def bnd (o : Option (R × Tp)) (f : Kd → D → Tp → Option β) : Option β := @Option.rec (R × Tp) (fun _ => Option β) none (fun x => @Prod.rec R Tp (fun _ => Option β) (fun r τ => @R.rec (fun _ => Option β) (fun k d => f k d τ) r) x) o
theorem bnd_eq (o : Option (R × Tp)) (f : Kd → D → Tp → Option β) : bnd o f = o.bind fun x => f x.1.k x.1.d x.2 := by cases o <;> rfl
noncomputable def bndP {α : Type} (o : Option (α × Tp)) (f : α → Tp → Option β) : Option β := @Option.rec (α × Tp) (fun _ => Option β) none (fun x => @Prod.rec α Tp (fun _ => Option β) f x) o
theorem bndP_eq {α : Type} (o : Option (α × Tp)) (f : α → Tp → Option β) : bndP o f = o.bind fun x => f x.1 x.2 := by cases o <;> rfl
end
/-- an answer, forced -/
noncomputable def outR (o : Option R) (τ : Tp) : Option (R × Tp) := @Option.rec R (fun _ => Option (R × Tp)) none (fun r => @R.rec (fun _ => Option (R × Tp)) (fun k d => frcD d fun d => some (⟨k, d⟩, τ)) r) o
theorem outR_eq (o : Option R) (τ : Tp) : outR o τ = o.map fun r => (r, τ) := by
  cases o with
  | none => rfl
  | some r => exact frcD_eq r.d fun d => some ((⟨r.k, d⟩ : R), τ)
noncomputable def retB (b : Bool) (τ : Tp) : Option (R × Tp) := @Bool.rec (fun _ => Option (R × Tp)) (some (⟨.S, .bool false⟩, τ)) (some (⟨.S, .bool true⟩, τ)) b
theorem retB_eq (b : Bool) (τ : Tp) : retB b τ = some (⟨.S, .bool b⟩, τ) := by cases b <;> rfl
noncomputable def outB (o : Option Bool) (τ : Tp) : Option (R × Tp) := @Option.rec Bool (fun _ => Option (R × Tp)) none (fun b => retB b τ) o
theorem outB_eq (o : Option Bool) (τ : Tp) : outB o τ = o.map fun r => (⟨.S, .bool r⟩, τ) := by
  cases o with
  | none => rfl
  | some r => exact retB_eq r τ
noncomputable def retI (z : Int) (τ : Tp) : Option (R × Tp) := @Int.rec (fun _ => Option (R × Tp)) (fun n => @Nat.rec (fun _ => Option (R × Tp)) (some (⟨.S, .int (.ofNat .zero)⟩, τ)) (fun m _ => some (⟨.S, .int (.ofNat (.succ m))⟩, τ)) n) (fun n => @Nat.rec (fun _ => Option (R × Tp)) (some (⟨.S, .int (.negSucc .zero)⟩, τ)) (fun m _ => some (⟨.S, .int (.negSucc (.succ m))⟩, τ)) n) z
theorem retI_eq (z : Int) (τ : Tp) : retI z τ = some (⟨.S, .int z⟩, τ) := by
  cases z with
  | ofNat n => cases n <;> rfl
  | negSucc n => cases n <;> rfl
/-! ### operations -/
noncomputable def addZ (i j : Int) : Int := @Int.rec (fun _ => Int) (fun m => @Int.rec (fun _ => Int) (fun n => .ofNat (Nat.add m n)) (fun n => Int.add (.ofNat m) (.negSucc n)) j) (fun m => Int.add (.negSucc m) j) i
theorem addZ_eq (i j : Int) : addZ i j = i + j := by cases i <;> cases j <;> rfl
noncomputable def mulZ (i j : Int) : Int := @Int.rec (fun _ => Int) (fun m => @Int.rec (fun _ => Int) (fun n => .ofNat (Nat.mul m n)) (fun n => Int.mul (.ofNat m) (.negSucc n)) j) (fun m => Int.mul (.negSucc m) j) i
theorem mulZ_eq (i j : Int) : mulZ i j = i * j := by cases i <;> cases j <;> rfl
noncomputable def absZ (i : Int) : Nat := @Int.rec (fun _ => Nat) (fun m => m) (fun m => .succ m) i
theorem absZ_eq (i : Int) : absZ i = i.natAbs := by cases i <;> rfl
noncomputable def subZ (i j : Int) : Int := @Int.rec (fun _ => Int) (fun m => @Int.rec (fun _ => Int) (fun n => @Bool.rec (fun _ => Int) (Int.negSucc (Nat.sub (Nat.sub n m) 1)) (.ofNat (Nat.sub m n)) (Nat.ble n m)) (fun n => .ofNat (Nat.add m (.succ n))) j) (fun m => Int.sub (.negSucc m) j) i
theorem subZ_eq (i j : Int) : subZ i j = i - j := by
  cases i with
  | negSucc m => rfl
  | ofNat m =>
    cases j with
    | negSucc n => rfl
    | ofNat n =>
      show @Bool.rec (fun _ => Int) (Int.negSucc ((n - m) - 1)) (.ofNat (m - n)) (Nat.ble n m) = (m : Int) - (n : Int)
      cases h : Nat.ble n m with
      | true =>
        have := Nat.le_of_ble_eq_true h
        show ((m - n : Nat) : Int) = _
        omega
      | false =>
        have : ¬ n ≤ m := fun g => by rw [Nat.ble_eq_true_of_le g] at h; cases h
        show Int.negSucc ((n - m) - 1) = _
        omega
noncomputable def ltZ (i j : Int) : Bool := @Int.rec (fun _ => Bool) (fun m => @Int.rec (fun _ => Bool) (fun n => Nat.ble (.succ m) n) (fun _ => false) j) (fun m => @Int.rec (fun _ => Bool) (fun _ => true) (fun n => Nat.ble (.succ n) m) j) i
noncomputable def leZ (i j : Int) : Bool := @Int.rec (fun _ => Bool) (fun m => @Int.rec (fun _ => Bool) (fun n => Nat.ble m n) (fun _ => false) j) (fun m => @Int.rec (fun _ => Bool) (fun _ => true) (fun n => Nat.ble n m) j) i
noncomputable def eqZ (i j : Int) : Bool := @Int.rec (fun _ => Bool) (fun m => @Int.rec (fun _ => Bool) (fun n => Nat.beq m n) (fun _ => false) j) (fun m => @Int.rec (fun _ => Bool) (fun _ => false) (fun n => Nat.beq m n) j) i
theorem ble_dec (m n : Nat) : Nat.ble m n = decide (m ≤ n) := by
  cases h : Nat.ble m n with
  | true => exact (decide_eq_true (Nat.le_of_ble_eq_true h)).symm
  | false => exact (decide_eq_false fun g => by rw [Nat.ble_eq_true_of_le g] at h; cases h).symm
theorem beq_dec (m n : Nat) : Nat.beq m n = decide (m = n) := by
  cases h : Nat.beq m n with
  | true => exact (decide_eq_true (Nat.eq_of_beq_eq_true h)).symm
  | false => exact (decide_eq_false (Nat.ne_of_beq_eq_false h)).symm
theorem ltZ_eq (i j : Int) : ltZ i j = decide (i < j) := by
  cases i <;> cases j
  · show Nat.ble _ _ = _
    rw [ble_dec]
    exact decide_eq_decide.mpr (by rw [Int.ofNat_eq_natCast, Int.ofNat_eq_natCast]; omega)
  · exact (decide_eq_false (by rw [Int.ofNat_eq_natCast]; omega)).symm
  · exact (decide_eq_true (by rw [Int.ofNat_eq_natCast]; omega)).symm
  · show Nat.ble _ _ = _
    rw [ble_dec]
    exact decide_eq_decide.mpr (by omega)
theorem leZ_eq (i j : Int) : leZ i j = decide (i ≤ j) := by
  cases i <;> cases j
  · show Nat.ble _ _ = _
    rw [ble_dec]
    exact decide_eq_decide.mpr (by rw [Int.ofNat_eq_natCast, Int.ofNat_eq_natCast]; omega)
  · exact (decide_eq_false (by rw [Int.ofNat_eq_natCast]; omega)).symm
  · exact (decide_eq_true (by rw [Int.ofNat_eq_natCast]; omega)).symm
  · show Nat.ble _ _ = _
    rw [ble_dec]
    exact decide_eq_decide.mpr (by omega)
theorem eqZ_eq (i j : Int) : eqZ i j = decide (i = j) := by
  cases i <;> cases j
  · show Nat.beq _ _ = _
    rw [beq_dec]
    exact decide_eq_decide.mpr (by rw [Int.ofNat_eq_natCast, Int.ofNat_eq_natCast]; omega)
  · exact (decide_eq_false (by rw [Int.ofNat_eq_natCast]; omega)).symm
  · exact (decide_eq_false (by rw [Int.ofNat_eq_natCast]; omega)).symm
  · show Nat.beq _ _ = _
    rw [beq_dec]
    exact decide_eq_decide.mpr (by omega)
noncomputable def fdivZ (i j : Int) : Int := @Int.rec (fun _ => Int) (fun m => @Int.rec (fun _ => Int) (fun n => .ofNat (Nat.div m n)) (fun n => Int.fdiv (.ofNat m) (.negSucc n)) j) (fun m => Int.fdiv (.negSucc m) j) i
theorem fdivZ_eq (i j : Int) : fdivZ i j = i.fdiv j := by
  cases i with
  | negSucc m => rfl
  | ofNat m =>
    cases j with
    | negSucc n => rfl
    | ofNat n => cases m <;> first | rfl | (show Int.ofNat (0 / n) = 0; simp)
noncomputable def fmodZ (i j : Int) : Int := @Int.rec (fun _ => Int) (fun m => @Int.rec (fun _ => Int) (fun n => .ofNat (Nat.mod m n)) (fun n => Int.fmod (.ofNat m) (.negSucc n)) j) (fun m => Int.fmod (.negSucc m) j) i
theorem fmodZ_eq (i j : Int) : fmodZ i j = i.fmod j := by
  cases i with
  | negSucc m => rfl
  | ofNat m =>
    cases j with
    | negSucc n => rfl
    | ofNat n => cases m <;> first | rfl | (show Int.ofNat (0 % n) = 0; simp)
noncomputable def mulB (i j : Int) : Bool := Nat.ble (.succ (Nat.add (Nat.log2 (absZ i)) (Nat.log2 (absZ j)))) 1000000
theorem mulB_eq (i j : Int) : mulB i j = mulFits i j := by unfold mulB mulFits; rw [ble_dec, absZ_eq, absZ_eq]; rfl
noncomputable def divB (j : Int) : Bool := @Bool.rec (fun _ => Bool) (Nat.ble (.succ (Nat.log2 (absZ j))) 9000) false (Nat.beq (absZ j) 0)
theorem divB_eq (j : Int) : divB j = divFits j := by
  unfold divB divFits
  rw [ble_dec, absZ_eq, beq_dec]
  by_cases h : j = 0
  · subst h; rfl
  · rw [decide_eq_false (show ¬ j.natAbs = 0 by omega), decide_eq_true (show j ≠ 0 from h)]; rfl
noncomputable def addK (d e : D) (τ : Tp) : Option (R × Tp) := dInt d (outR (binD .add d e) τ) fun i => dInt e none fun j => retI (addZ i j) τ
noncomputable def subK (d e : D) (τ : Tp) : Option (R × Tp) := dInt d none fun i => dInt e none fun j => retI (subZ i j) τ
noncomputable def mulK (d e : D) (τ : Tp) : Option (R × Tp) := dInt d (outR (binD .mul d e) τ) fun i => dInt e none fun j => @Bool.rec (fun _ => Option (R × Tp)) none (retI (mulZ i j) τ) (mulB i j)
noncomputable def fdivK (d e : D) (τ : Tp) : Option (R × Tp) := dInt d none fun i => dInt e none fun j => @Bool.rec (fun _ => Option (R × Tp)) none (retI (fdivZ i j) τ) (divB j)
noncomputable def modK (d e : D) (τ : Tp) : Option (R × Tp) := dInt d none fun i => dInt e none fun j => @Bool.rec (fun _ => Option (R × Tp)) (retI (fmodZ i j) τ) none (Nat.beq (absZ j) 0)
noncomputable def powK (d e : D) (τ : Tp) : Option (R × Tp) := outR (binD .pow d e) τ
noncomputable def binK (op : Bo) : D → D → Tp → Option (R × Tp) := @Bo.rec (fun _ => D → D → Tp → Option (R × Tp)) addK subK mulK fdivK modK powK op
theorem binK_eq (op : Bo) (d e : D) (τ : Tp) : binK op d e τ = (binD op d e).map fun r => (r, τ) := by
  cases op with
  | add =>
    cases d with
    | int i =>
      cases e with
      | int j =>
        show retI (addZ i j) τ = _
        rw [retI_eq, addZ_eq]; rfl
      | _ => rfl
    | _ => exact Eq.trans (by rfl) (outR_eq _ τ)
  | sub => cases d <;> first | rfl | skip
           rename_i i; cases e <;> first | rfl | skip
           rename_i j
           show retI (subZ i j) τ = _
           rw [retI_eq, subZ_eq]; rfl
  | mul =>
    cases d with
    | int i =>
      cases e with
      | int j =>
        show @Bool.rec (fun _ => Option (R × Tp)) none (retI (mulZ i j) τ) (mulB i j) = _
        simp only [binD, mulB_eq, retI_eq, mulZ_eq]
        cases mulFits i j <;> rfl
      | _ => rfl
    | _ => exact Eq.trans (by rfl) (outR_eq _ τ)
  | fdiv => cases d <;> first | rfl | skip
            rename_i i; cases e <;> first | rfl | skip
            rename_i j
            show @Bool.rec (fun _ => Option (R × Tp)) none (retI (fdivZ i j) τ) (divB j) = _
            simp only [binD, divB_eq, retI_eq, fdivZ_eq]
            cases divFits j <;> rfl
  | mod => cases d <;> first | rfl | skip
           rename_i i; cases e <;> first | rfl | skip
           rename_i j
           show @Bool.rec (fun _ => Option (R × Tp)) (retI (fmodZ i j) τ) none (Nat.beq (absZ j) 0) = _
           simp only [binD, beq_dec, absZ_eq, retI_eq, fmodZ_eq]
           by_cases h : j = 0
           · subst h; rfl
           · rw [decide_eq_false (by omega), if_pos h]; rfl
  | pow => exact outR_eq _ _
noncomputable def ltK (d e : D) (τ : Tp) : Option (R × Tp) := dInt d none fun i => dInt e none fun j => retB (ltZ i j) τ
noncomputable def leK (d e : D) (τ : Tp) : Option (R × Tp) := dInt d none fun i => dInt e none fun j => retB (leZ i j) τ
noncomputable def eqK (d e : D) (τ : Tp) : Option (R × Tp) := dInt d (outB (cmpD .eq d e) τ) fun i => dInt e (outB (cmpD .eq d e) τ) fun j => retB (eqZ i j) τ
noncomputable def neK (d e : D) (τ : Tp) : Option (R × Tp) := dInt d (outB (cmpD .ne d e) τ) fun i => dInt e (outB (cmpD .ne d e) τ) fun j => retB (not (eqZ i j)) τ
noncomputable def cmpK (op : Co) : D → D → Tp → Option (R × Tp) := @Co.rec (fun _ => D → D → Tp → Option (R × Tp)) eqK neK ltK leK (fun d e => ltK e d) (fun d e => leK e d) (fun d e τ => outB (cmpD .isin d e) τ) (fun d e τ => outB (cmpD .notin d e) τ) op
theorem cmpK_eq (op : Co) (d e : D) (τ : Tp) : cmpK op d e τ = (cmpD op d e).map fun r => (⟨.S, .bool r⟩, τ) := by
  cases op with
  | isin => exact outB_eq _ _
  | notin => exact outB_eq _ _
  | eq =>
    cases d with
    | int i =>
      cases e with
      | int j =>
        show retB (eqZ i j) τ = _
        rw [retB_eq, eqZ_eq]; rfl
      | _ => exact Eq.trans (by rfl) (outB_eq _ τ)
    | _ => exact Eq.trans (by rfl) (outB_eq _ τ)
  | ne =>
    cases d with
    | int i =>
      cases e with
      | int j =>
        show retB (not (eqZ i j)) τ = _
        rw [retB_eq, eqZ_eq]; rfl
      | _ => exact Eq.trans (by rfl) (outB_eq _ τ)
    | _ => exact Eq.trans (by rfl) (outB_eq _ τ)
  | lt => cases d <;> cases e <;> first | rfl | skip
          rename_i i j
          show retB (ltZ i j) τ = _
          rw [retB_eq, ltZ_eq]; rfl
  | le => cases d <;> cases e <;> first | rfl | skip
          rename_i i j
          show retB (leZ i j) τ = _
          rw [retB_eq, leZ_eq]; rfl
  | gt => cases d <;> cases e <;> first | rfl | skip
          rename_i i j
          show retB (ltZ j i) τ = _
          rw [retB_eq, ltZ_eq]; rfl
  | ge => cases d <;> cases e <;> first | rfl | skip
          rename_i i j
          show retB (leZ j i) τ = _
          rw [retB_eq, leZ_eq]; rfl
/-! ### expressions -/
abbrev MV := Rho → Tp → Option (R × Tp)
structure ML where
  l : Rho → Tp → Option (List R × Tp)
  a : Rho → Tp → Option (Bool × Tp)
noncomputable def varK (o : Option Sl) (τ : Tp) : Option (R × Tp) := @Option.rec Sl (fun _ => Option (R × Tp)) none (fun s => @Sl.rec (fun _ => Option (R × Tp)) none (fun d => some (⟨.S, d⟩, τ)) (fun ds => some (⟨.B, .list ds⟩, τ)) none s) o
noncomputable def kVar (i : Nat) : MV := fun ρ τ => varK (getK ρ i) τ
noncomputable def kBin (op : Bo) (a b : MV) : MV := fun ρ τ => bnd (a ρ τ) fun _ d τ => bnd (b ρ τ) fun _ e τ => binK op d e τ
noncomputable def kNeg (a : MV) : MV := fun ρ τ => bnd (a ρ τ) fun _ d τ => dInt d none fun i => retI (-i) τ
noncomputable def kCmp (op : Co) (a b : MV) : MV := fun ρ τ => bnd (a ρ τ) fun _ d τ => bnd (b ρ τ) fun _ e τ => cmpK op d e τ
noncomputable def kChn (o1 o2 : Co) (a b c : MV) : MV := fun ρ τ => bnd (a ρ τ) fun _ d τ => bnd (b ρ τ) fun _ e τ => bnd (cmpK o1 d e τ) fun _ x τ => dTest x none (bnd (c ρ τ) fun _ g τ => cmpK o2 e g τ) (some (⟨.S, .bool false⟩, τ))
noncomputable def kIsN (a : MV) : MV := fun ρ τ => bnd (a ρ τ) fun _ d τ => frcB (nonD d) fun k => some (⟨.S, .bool k⟩, τ)
noncomputable def kNotN (a : MV) : MV := fun ρ τ => bnd (a ρ τ) fun _ d τ => frcB (!nonD d) fun k => some (⟨.S, .bool k⟩, τ)
noncomputable def kIsB (a b : MV) : MV := fun ρ τ => bnd (a ρ τ) fun _ d τ => bnd (b ρ τ) fun _ e τ => match d with
  | .bool i => match e with
    | .bool j => frcB (i == j) fun k => some (⟨.S, .bool k⟩, τ)
    | _ => none
  | _ => none
noncomputable def kNotB (a b : MV) : MV := fun ρ τ => bnd (a ρ τ) fun _ d τ => bnd (b ρ τ) fun _ e τ => match d with
  | .bool i => match e with
    | .bool j => frcB (!(i == j)) fun k => some (⟨.S, .bool k⟩, τ)
    | _ => none
  | _ => none
noncomputable def kBool (o : Option (R × Tp)) : Option (R × Tp) := bnd o fun _ d τ => dBool d none fun k => some (⟨.S, .bool k⟩, τ)
noncomputable def kCon (a b : MV) : MV := fun ρ τ => bnd (a ρ τ) fun _ d τ => dTest d none (kBool (b ρ τ)) (some (⟨.S, .bool false⟩, τ))
noncomputable def kDis (a b : MV) : MV := fun ρ τ => bnd (a ρ τ) fun _ d τ => dTest d none (some (⟨.S, .bool true⟩, τ)) (kBool (b ρ τ))
noncomputable def kInv (a : MV) : MV := fun ρ τ => bnd (a ρ τ) fun _ d τ => dTest d none (some (⟨.S, .bool false⟩, τ)) (some (⟨.S, .bool true⟩, τ))
noncomputable def kTru (a : MV) : MV := fun ρ τ => bnd (a ρ τ) fun _ d τ => outB (truD d) τ
noncomputable def kIte (c a b : MV) : MV := fun ρ τ => bnd (c ρ τ) fun _ d τ => dTest d none (a ρ τ) (b ρ τ)
noncomputable def stbK : List R → Option (List D)
  | [] => some []
  | ⟨k, d⟩ :: r => match k with
    | .B => none
    | _ => match stbK r with
      | none => none
      | some l => some (d :: l)
theorem stbK_eq : ∀ rs : List R, stbK rs = rs.mapM stb
  | [] => rfl
  | ⟨k, d⟩ :: r => by
    rw [List.mapM_cons]
    cases k <;> simp [stbK, stb, stbK_eq r] <;> cases r.mapM stb <;> rfl
noncomputable def kTup (es : ML) : MV := fun ρ τ => bndP (es.l ρ τ) fun rs τ => match stbK rs with
  | none => none
  | some ds => if shortL ds then frcL ds fun ds => some (⟨.S, .tuple ds⟩, τ) else none
noncomputable def kLst (es : ML) : MV := fun ρ τ => bndP (es.l ρ τ) fun rs τ => match stbK rs with
  | none => none
  | some ds => if shortL ds then frcL ds fun ds => some (⟨.F, .list ds⟩, τ) else none
noncomputable def ixK (ds : List D) (i : Int) : Option D := match i with
  | .ofNat n => getK ds n
  | .negSucc m => if m < ds.length then getK ds (ds.length - (m + 1)) else none
theorem ixK_eq (ds : List D) (i : Int) : ixK ds i = atD ds i := by
  unfold ixK atD atI ixN
  cases i with
  | ofNat n =>
    simp only [getK_eq, Int.ofNat_eq_natCast, Int.toNat_natCast]
    rw [if_pos (by omega)]
    by_cases h : n < ds.length
    · rw [if_pos (by omega)]
      rfl
    · rw [if_neg (by omega), List.getElem?_eq_none (by omega)]
      rfl
  | negSucc m =>
    simp only [getK_eq]
    rw [if_neg (show ¬ (0 : Int) ≤ Int.negSucc m by omega)]
    by_cases h : m < ds.length
    · rw [if_pos h, if_pos (show -(ds.length : Int) ≤ Int.negSucc m by omega)]
      simp only [Option.bind_some]
      congr 1
      omega
    · rw [if_neg h, if_neg (show ¬ -(ds.length : Int) ≤ Int.negSucc m by omega)]
      rfl
noncomputable def kIdx (a b : MV) : MV := fun ρ τ => bnd (a ρ τ) fun _ d τ => bnd (b ρ τ) fun _ e τ => match e with
  | .int i => match d with
    | .tuple ds => match ixK ds i with
      | none => none
      | some d => some (⟨.S, d⟩, τ)
    | .list ds => match ixK ds i with
      | none => none
      | some d => some (⟨.S, d⟩, τ)
    | _ => none
  | _ => none
noncomputable def kSlc (a b c : MV) : MV := fun ρ τ => bnd (a ρ τ) fun _ d τ => bnd (b ρ τ) fun _ e τ => bnd (c ρ τ) fun _ g τ => match e with
  | .int i => match g with
    | .int j => outR (slcD d (some i) (some j)) τ
    | _ => none
  | _ => none
noncomputable def kSlcL (a b : MV) : MV := fun ρ τ => bnd (a ρ τ) fun _ d τ => bnd (b ρ τ) fun _ e τ => match e with
  | .int i => outR (slcD d (some i) none) τ
  | _ => none
noncomputable def kSlcH (a b : MV) : MV := fun ρ τ => bnd (a ρ τ) fun _ d τ => bnd (b ρ τ) fun _ e τ => match e with
  | .int i => outR (slcD d none (some i)) τ
  | _ => none
noncomputable def kSlcA (a : MV) : MV := fun ρ τ => bnd (a ρ τ) fun _ d τ => outR (slcD d none none) τ
noncomputable def kRev (a : MV) : MV := fun ρ τ => bnd (a ρ τ) fun _ d τ => outR (revD d) τ
noncomputable def dsK : List R → List D
  | [] => []
  | ⟨_, d⟩ :: r => d :: dsK r
theorem dsK_eq : ∀ rs : List R, dsK rs = rs.map (·.d)
  | [] => rfl
  | ⟨k, d⟩ :: r => by simp [dsK, dsK_eq r]
noncomputable def clK (o : Option R) (τ : Tp) : Option (R × Tp) := match o with
  | none => none
  | some r => if clean r then some (r, τ) else none
noncomputable def kCall (φ : List D → Option R) (es : ML) : MV := fun ρ τ => bndP (es.l ρ τ) fun rs τ => frcL (dsK rs) fun ds => clK (φ ds) τ
noncomputable def kCallT (ψ : List D → Tp → Option (R × Tp)) (i : Nat) (es : ML) : MV := fun ρ τ => match getK ρ i with
  | some s => match s with
    | .tp => bndP (es.l ρ τ) fun rs τ => match ψ (dsK rs) τ with
      | none => none
      | some r => if clean r.1 then some r else none
    | _ => none
  | none => none
noncomputable def kBlt (b : Bl) (es : ML) : MV := fun ρ τ => bndP (es.l ρ τ) fun rs τ => frcL (dsK rs) fun ds => outR (bltD b ds) τ
noncomputable def setsK {β : Type} : Rho → List Nat → List D → (Rho → Option β) → Option β
  | ρ, [], [], f => f ρ
  | ρ, i :: is, d :: ds, f => setK ρ i (.im d) fun ρ => setsK ρ is ds f
  | _, [], _ :: _, _ => none
  | _, _ :: _, [], _ => none
theorem setsK_eq {β : Type} : ∀ (is : List Nat) (ds : List D) (ρ : Rho) (f : Rho → Option β), setsK ρ is ds f = (setsD ρ is ds).bind f
  | [], [], _, _ => rfl
  | i :: is, d :: ds, ρ, f => by simp only [setsK, setK_eq, setsD, setsK_eq is ds]
  | [], _ :: _, _, _ => rfl
  | _ :: _, [], _, _ => rfl
noncomputable def tgK {β : Type} (ρ : Rho) (tg : Tg) (d : D) (f : Rho → Option β) : Option β := match tg with
  | .nm i => setK ρ i (.im d) f
  | .tu is => match d with
    | .tuple ds => setsK ρ is ds f
    | _ => none
theorem tgK_eq {β : Type} (ρ : Rho) (tg : Tg) (d : D) (f : Rho → Option β) : tgK ρ tg d f = (tgD ρ tg d).bind f := by
  cases tg with
  | nm i => simp only [tgK, setK_eq, tgD]; rfl
  | tu is => cases d <;> first | rfl | exact setsK_eq _ _ _ _
noncomputable def wipeK {β : Type} (ρ : Rho) : List Nat → (Rho → β) → β
  | [], f => f ρ
  | v :: vs, f => wipeK ρ vs fun ρ => setK ρ v .un f
theorem wipeK_eq {β : Type} (ρ : Rho) : ∀ (vs : List Nat) (f : Rho → β), wipeK ρ vs f = f (wipeR ρ vs)
  | [], _ => rfl
  | v :: vs, f => by simp only [wipeK, wipeK_eq ρ vs, setK_eq, wipeR]
noncomputable def compK (fe : MV) (fc : Rho → Tp → Option (Bool × Tp)) (ρ : Rho) (tg : Tg) : List D → Tp → Option (List D × Tp)
  | [], τ => some ([], τ)
  | d :: ds, τ => tgK ρ tg d fun ρ1 => bndP (fc ρ1 τ) fun c τ => match c with
    | true => bnd (fe ρ1 τ) fun k v τ => match k with
      | .B => none
      | _ => match compK fe fc ρ tg ds τ with
        | none => none
        | some (l, τ) => some (v :: l, τ)
    | false => compK fe fc ρ tg ds τ
theorem compK_eq (fe : MV) (fc : Rho → Tp → Option (Bool × Tp)) (ρ : Rho) (tg : Tg) : ∀ (ds : List D) (τ : Tp), compK fe fc ρ tg ds τ = compL fe fc ρ tg ds τ
  | [], _ => rfl
  | d :: ds, τ => by
    simp only [compK, compL, tgK_eq, bndP_eq, bnd_eq]
    congr 1
    funext ρ1
    congr 1
    funext c
    cases c.1 with
    | false => simp [compK_eq fe fc ρ tg ds]
    | true =>
      simp only [if_true]
      congr 1
      funext x
      obtain ⟨⟨k, v⟩, τ2⟩ := x
      cases k <;> simp [stb, compK_eq fe fc ρ tg ds] <;> cases compL fe fc ρ tg ds τ2 <;> rfl
noncomputable def kComp (elt : MV) (tg : Tg) (k : Nat) (its cond : ML) : MV := fun ρ τ => bndP (its.l ρ τ) fun rs τ => match itD k (dsK rs) with
  | none => none
  | some ds => wipeK ρ (tgVs tg) fun ρ => match compK elt cond.a ρ tg ds τ with
    | none => none
    | some (l, τ) => if shortL l then some (⟨.F, .list l⟩, τ) else none
noncomputable def kNil : ML := ⟨fun _ τ => some ([], τ), fun _ τ => some (true, τ)⟩
noncomputable def kCons (e : MV) (es : ML) : ML := ⟨fun ρ τ => match e ρ τ with
  | none => none
  | some (r, τ) => match es.l ρ τ with
    | none => none
    | some (rs, τ) => some (r :: rs, τ), fun ρ τ => bnd (e ρ τ) fun _ d τ => match d with
  | .bool k => match k with
    | true => es.a ρ τ
    | false => some (false, τ)
  | _ => none⟩
section
variable (Φ : Nat → List D → Option R) (Ψ : Nat → List D → Tp → Option (R × Tp))
noncomputable def evK : E → MV := E.rec (motive_1 := fun _ => MV) (motive_2 := fun _ => ML) (fun d _ τ => some (⟨.S, d⟩, τ)) kVar (fun op _ _ a b => kBin op a b) (fun _ a => kNeg a) (fun op _ _ a b => kCmp op a b) (fun o1 o2 _ _ _ a b c => kChn o1 o2 a b c) (fun _ a => kIsN a) (fun _ a => kNotN a) (fun _ _ a b => kIsB a b) (fun _ _ a b => kNotB a b) (fun _ _ a b => kCon a b) (fun _ _ a b => kDis a b) (fun _ a => kInv a) (fun _ a => kTru a) (fun _ _ _ c a b => kIte c a b) (fun _ es => kTup es) (fun _ es => kLst es) (fun _ _ a b => kIdx a b) (fun _ _ _ a b c => kSlc a b c) (fun _ _ a b => kSlcL a b) (fun _ _ a b => kSlcH a b) (fun _ a => kSlcA a) (fun _ a => kRev a) (fun n _ es => kCall (Φ n) es) (fun n i _ es => kCallT (Ψ n) i es) (fun b _ es => kBlt b es) (fun _ tg k _ _ e its cond => kComp e tg k its cond) kNil (fun _ _ e es => kCons e es)
noncomputable def evsK : List E → ML := E.rec_1 (motive_1 := fun _ => MV) (motive_2 := fun _ => ML) (fun d _ τ => some (⟨.S, d⟩, τ)) kVar (fun op _ _ a b => kBin op a b) (fun _ a => kNeg a) (fun op _ _ a b => kCmp op a b) (fun o1 o2 _ _ _ a b c => kChn o1 o2 a b c) (fun _ a => kIsN a) (fun _ a => kNotN a) (fun _ _ a b => kIsB a b) (fun _ _ a b => kNotB a b) (fun _ _ a b => kCon a b) (fun _ _ a b => kDis a b) (fun _ a => kInv a) (fun _ a => kTru a) (fun _ _ _ c a b => kIte c a b) (fun _ es => kTup es) (fun _ es => kLst es) (fun _ _ a b => kIdx a b) (fun _ _ _ a b c => kSlc a b c) (fun _ _ a b => kSlcL a b) (fun _ _ a b => kSlcH a b) (fun _ a => kSlcA a) (fun _ a => kRev a) (fun n _ es => kCall (Φ n) es) (fun n i _ es => kCallT (Ψ n) i es) (fun b _ es => kBlt b es) (fun _ tg k _ _ e its cond => kComp e tg k its cond) kNil (fun _ _ e es => kCons e es)
mutual
theorem evK_eq : ∀ (e : E) (ρ : Rho) (τ : Tp), evK Φ Ψ e ρ τ = ev Φ Ψ ρ τ e
  | .cst d, ρ, τ => by rw [ev]; rfl
  | .var i, ρ, τ => by
    show varK (getK ρ i) τ = _
    rw [getK_eq, ev]
    cases ρ[i]? with
    | none => rfl
    | some s => cases s <;> rfl
  | .bin op a b, ρ, τ => by
    show kBin op (evK Φ Ψ a) (evK Φ Ψ b) ρ τ = _
    simp only [kBin, bnd_eq, binK_eq, evK_eq a, evK_eq b, ev]
  | .neg a, ρ, τ => by
    show kNeg (evK Φ Ψ a) ρ τ = _
    simp only [kNeg, bnd_eq, retI_eq, evK_eq a, ev]
    congr 1; funext x
    cases x.1.d <;> rfl
  | .cmp op a b, ρ, τ => by
    show kCmp op (evK Φ Ψ a) (evK Φ Ψ b) ρ τ = _
    simp only [kCmp, bnd_eq, cmpK_eq, evK_eq a, evK_eq b, ev]
  | .chn o1 o2 a b c, ρ, τ => by
    show kChn o1 o2 (evK Φ Ψ a) (evK Φ Ψ b) (evK Φ Ψ c) ρ τ = _
    simp only [kChn, bnd_eq, cmpK_eq, evK_eq a, evK_eq b, evK_eq c, ev]
    congr 1; funext x; congr 1; funext y
    cases cmpD o1 x.1.d y.1.d with
    | none => rfl
    | some k => cases k <;> rfl
  | .isN a, ρ, τ => by
    show kIsN (evK Φ Ψ a) ρ τ = _
    simp only [kIsN, bnd_eq, frcB_eq, evK_eq a, ev]
    cases ev Φ Ψ ρ τ a <;> rfl
  | .notN a, ρ, τ => by
    show kNotN (evK Φ Ψ a) ρ τ = _
    simp only [kNotN, bnd_eq, frcB_eq, evK_eq a, ev]
    cases ev Φ Ψ ρ τ a <;> rfl
  | .isB a b, ρ, τ => by
    show kIsB (evK Φ Ψ a) (evK Φ Ψ b) ρ τ = _
    simp only [kIsB, bnd_eq, frcB_eq, evK_eq a, evK_eq b, ev]
    congr 1; funext x; congr 1; funext y
    cases x.1.d <;> cases y.1.d <;> rfl
  | .notB a b, ρ, τ => by
    show kNotB (evK Φ Ψ a) (evK Φ Ψ b) ρ τ = _
    simp only [kNotB, bnd_eq, frcB_eq, evK_eq a, evK_eq b, ev]
    congr 1; funext x; congr 1; funext y
    cases x.1.d <;> cases y.1.d <;> rfl
  | .con a b, ρ, τ => by
    show kCon (evK Φ Ψ a) (evK Φ Ψ b) ρ τ = _
    simp only [kCon, kBool, bnd_eq, evK_eq a, evK_eq b, ev]
    congr 1; funext x
    cases x.1.d <;> first | rfl | skip
    rename_i k
    cases k with
    | false => rfl
    | true =>
      show (ev Φ Ψ ρ x.2 b).bind _ = (ev Φ Ψ ρ x.2 b).bind _
      congr 1; funext y
      cases y.1.d <;> rfl
  | .dis a b, ρ, τ => by
    show kDis (evK Φ Ψ a) (evK Φ Ψ b) ρ τ = _
    simp only [kDis, kBool, bnd_eq, evK_eq a, evK_eq b, ev]
    congr 1; funext x
    cases x.1.d <;> first | rfl | skip
    rename_i k
    cases k with
    | true => rfl
    | false =>
      show (ev Φ Ψ ρ x.2 b).bind _ = (ev Φ Ψ ρ x.2 b).bind _
      congr 1; funext y
      cases y.1.d <;> rfl
  | .inv a, ρ, τ => by
    show kInv (evK Φ Ψ a) ρ τ = _
    simp only [kInv, bnd_eq, evK_eq a, ev]
    congr 1; funext x
    cases x.1.d <;> first | rfl | skip
    rename_i k
    cases k <;> rfl
  | .tru a, ρ, τ => by
    show kTru (evK Φ Ψ a) ρ τ = _
    simp only [kTru, bnd_eq, outB_eq, evK_eq a, ev]
  | .ite c a b, ρ, τ => by
    show kIte (evK Φ Ψ c) (evK Φ Ψ a) (evK Φ Ψ b) ρ τ = _
    simp only [kIte, bnd_eq, evK_eq a, evK_eq b, evK_eq c, ev]
    congr 1; funext x
    cases x.1.d <;> first | rfl | skip
    rename_i k
    cases k <;> rfl
  | .tup es, ρ, τ => by
    show kTup (evsK Φ Ψ es) ρ τ = _
    simp only [kTup, bndP_eq, frcL_eq, stbK_eq, evsK_l es, ev]
    congr 1; funext x
    cases x.1.mapM stb <;> rfl
  | .lst es, ρ, τ => by
    show kLst (evsK Φ Ψ es) ρ τ = _
    simp only [kLst, bndP_eq, frcL_eq, stbK_eq, evsK_l es, ev]
    congr 1; funext x
    cases x.1.mapM stb <;> rfl
  | .idx a b, ρ, τ => by
    show kIdx (evK Φ Ψ a) (evK Φ Ψ b) ρ τ = _
    simp only [kIdx, bnd_eq, ixK_eq, evK_eq a, evK_eq b, ev]
    congr 1; funext x; congr 1; funext y
    generalize x.1.d = d
    generalize y.1.d = e
    cases e <;> cases d <;> first | rfl | (rename_i i ds; simp only [idxD]; cases atD ds i <;> rfl)
  | .slc a b c, ρ, τ => by
    show kSlc (evK Φ Ψ a) (evK Φ Ψ b) (evK Φ Ψ c) ρ τ = _
    simp only [kSlc, bnd_eq, outR_eq, evK_eq a, evK_eq b, evK_eq c, ev]
    congr 1; funext x; congr 1; funext y; congr 1; funext z
    cases y.1.d <;> cases z.1.d <;> rfl
  | .slcL a b, ρ, τ => by
    show kSlcL (evK Φ Ψ a) (evK Φ Ψ b) ρ τ = _
    simp only [kSlcL, bnd_eq, outR_eq, evK_eq a, evK_eq b, ev]
    congr 1; funext x; congr 1; funext y
    cases y.1.d <;> rfl
  | .slcH a b, ρ, τ => by
    show kSlcH (evK Φ Ψ a) (evK Φ Ψ b) ρ τ = _
    simp only [kSlcH, bnd_eq, outR_eq, evK_eq a, evK_eq b, ev]
    congr 1; funext x; congr 1; funext y
    cases y.1.d <;> rfl
  | .slcA a, ρ, τ => by
    show kSlcA (evK Φ Ψ a) ρ τ = _
    simp only [kSlcA, bnd_eq, outR_eq, evK_eq a, ev]
  | .rev a, ρ, τ => by
    show kRev (evK Φ Ψ a) ρ τ = _
    simp only [kRev, bnd_eq, outR_eq, evK_eq a, ev]
  | .call n es, ρ, τ => by
    show kCall (Φ n) (evsK Φ Ψ es) ρ τ = _
    simp only [kCall, bndP_eq, frcL_eq, dsK_eq, evsK_l es, ev]
    congr 1; funext x
    cases Φ n (x.1.map (·.d)) <;> rfl
  | .callT n i es, ρ, τ => by
    show kCallT (Ψ n) i (evsK Φ Ψ es) ρ τ = _
    simp only [kCallT, bndP_eq, frcL_eq, dsK_eq, evsK_l es, ev, getK_eq]
    cases ρ[i]? with
    | none => rfl
    | some s =>
      cases s <;> first | rfl | skip
      dsimp only
      congr 1; funext x
      cases Ψ n (x.1.map (·.d)) x.2 <;> rfl
  | .blt b es, ρ, τ => by
    show kBlt b (evsK Φ Ψ es) ρ τ = _
    simp only [kBlt, bndP_eq, frcL_eq, dsK_eq, outR_eq, evsK_l es, ev]
  | .comp elt tg k its cond, ρ, τ => by
    show kComp (evK Φ Ψ elt) tg k (evsK Φ Ψ its) (evsK Φ Ψ cond) ρ τ = _
    have h1 : evK Φ Ψ elt = fun ρ τ => ev Φ Ψ ρ τ elt := by funext ρ τ; exact evK_eq elt ρ τ
    have h2 : (evsK Φ Ψ cond).a = fun ρ τ => evAll Φ Ψ ρ τ cond := by funext ρ τ; exact evsK_a cond ρ τ
    simp only [kComp, bndP_eq, dsK_eq, wipeK_eq, compK_eq, evsK_l its, h1, h2, ev]
    congr 1; funext x
    cases itD k (x.1.map (·.d)) with
    | none => rfl
    | some ds =>
      simp only [Option.bind_some]
      cases compL (fun ρ τ => ev Φ Ψ ρ τ elt) (fun ρ τ => evAll Φ Ψ ρ τ cond) (wipeR ρ (tgVs tg)) tg ds x.2 <;> rfl
theorem evsK_l : ∀ (es : List E) (ρ : Rho) (τ : Tp), (evsK Φ Ψ es).l ρ τ = evs Φ Ψ ρ τ es
  | [], ρ, τ => by rw [evs]; rfl
  | e :: es, ρ, τ => by
    show (kCons (evK Φ Ψ e) (evsK Φ Ψ es)).l ρ τ = _
    simp only [kCons, evK_eq e, evs]
    cases ev Φ Ψ ρ τ e with
    | none => rfl
    | some x =>
      simp only [Option.bind_some, evsK_l es]
      cases evs Φ Ψ ρ x.2 es <;> rfl
theorem evsK_a : ∀ (es : List E) (ρ : Rho) (τ : Tp), (evsK Φ Ψ es).a ρ τ = evAll Φ Ψ ρ τ es
  | [], ρ, τ => by rw [evAll]; rfl
  | e :: es, ρ, τ => by
    show (kCons (evK Φ Ψ e) (evsK Φ Ψ es)).a ρ τ = _
    simp only [kCons, bnd_eq, evK_eq e, evsK_a es, evAll]
    congr 1; funext x
    cases x.1.d <;> first | rfl | skip
    rename_i k
    cases k <;> rfl
end
end
end Ev

/-! ## EvL -/
namespace Ev
open PySem PySem.Spec PyProof.Rows L2

abbrev MS := Rho → Tp → Option Out
noncomputable def putF (ρ : Rho) (i : Nat) (d : D) (f : Rho → Option Out) : Option Out := match d with
  | .list ds => setK ρ i (.ow ds) f
  | _ => none
noncomputable def putK (ρ : Rho) (i : Nat) (k : Kd) (d : D) (f : Rho → Option Out) : Option Out := @Kd.rec (fun _ => Option Out) none (setK ρ i (.im d) f) (putF ρ i d f) k
theorem putK_eq (ρ : Rho) (i : Nat) (k : Kd) (d : D) (f : Rho → Option Out) : putK ρ i k d f = (putR ρ i ⟨k, d⟩).bind f := by
  cases k <;> cases d <;> simp [putK, putF, putR, setK_eq]
noncomputable def ptuK (ρ : Rho) (is : List Nat) (d : D) (f : Rho → Option Out) : Option Out := match d with
  | .tuple ds => setsK ρ is ds f
  | _ => none
noncomputable def ptgK (ρ : Rho) (tg : Tg) (k : Kd) (d : D) (f : Rho → Option Out) : Option Out := @Tg.rec (fun _ => Option Out) (fun i => putK ρ i k d f) (fun is => ptuK ρ is d f) tg
theorem ptgK_eq (ρ : Rho) (tg : Tg) (k : Kd) (d : D) (f : Rho → Option Out) : ptgK ρ tg k d f = (putTg ρ tg ⟨k, d⟩).bind f := by
  cases tg with
  | nm i => exact putK_eq ρ i k d f
  | tu is => cases d <;> first | rfl | exact setsK_eq _ _ _ f
noncomputable def sSet (tg : Tg) (e : MV) : MS := fun ρ τ => bnd (e ρ τ) fun k d τ => ptgK ρ tg k d fun ρ => some (.nx ρ τ)
noncomputable def nB {β : Type} (k : Kd) (o : Option β) : Option β := @Kd.rec (fun _ => Option β) none o o k
theorem nB_eq {β : Type} (k : Kd) (d : D) (f : D → Option β) : nB k (f d) = (stb ⟨k, d⟩).bind f := by cases k <;> rfl
noncomputable def sPar2 (i j : Nat) (a b : MV) : MS := fun ρ τ => bnd (a ρ τ) fun k d τ => bnd (b ρ τ) fun l e τ => nB k (nB l (setK ρ i (.im d) fun ρ => setK ρ j (.im e) fun ρ => some (.nx ρ τ)))
noncomputable def sPar3 (i j m : Nat) (a b c : MV) : MS := fun ρ τ => bnd (a ρ τ) fun k d τ => bnd (b ρ τ) fun l e τ => bnd (c ρ τ) fun n g τ => nB k (nB l (nB n (setK ρ i (.im d) fun ρ => setK ρ j (.im e) fun ρ => setK ρ m (.im g) fun ρ => some (.nx ρ τ))))
noncomputable def sAug (i : Nat) (op : Bo) (e : MV) : MS := fun ρ τ => match getK ρ i with
  | none => none
  | some s => match s with
    | .im d => bnd (e ρ τ) fun _ g τ => match augD op d g with
      | none => none
      | some r => frcD r fun r => setK ρ i (.im r) fun ρ => some (.nx ρ τ)
    | _ => none
noncomputable def sApp (i : Nat) (e : MV) : MS := fun ρ τ => match getK ρ i with
  | none => none
  | some s => match s with
    | .ow ds => bnd (e ρ τ) fun k d τ => nB k (if shortL ds then frcL (ds ++ [d]) fun es => setK ρ i (.ow es) fun ρ => some (.nx ρ τ) else none)
    | _ => none
noncomputable def sExt (i : Nat) (e : MV) : MS := fun ρ τ => match getK ρ i with
  | none => none
  | some s => match s with
    | .ow ds => bnd (e ρ τ) fun _ d τ => match d with
      | .list es => if shortL (ds ++ es) then frcL (ds ++ es) fun es => setK ρ i (.ow es) fun ρ => some (.nx ρ τ) else none
      | _ => none
    | _ => none
noncomputable def sPopK (i : Nat) : MS := fun ρ τ => match getK ρ i with
  | none => none
  | some s => match s with
    | .ow ds => if ds.isEmpty then none else frcL ds.dropLast fun es => setK ρ i (.ow es) fun ρ => some (.nx ρ τ)
    | _ => none
noncomputable def sPopt (tg : Tg) (i : Nat) : MS := fun ρ τ => match getK ρ i with
  | none => none
  | some s => match s with
    | .ow ds => match ds.getLast? with
      | none => none
      | some d => frcL ds.dropLast fun es => setK ρ i (.ow es) fun ρ => tgK ρ tg d fun ρ => some (.nx ρ τ)
    | _ => none
noncomputable def sMov (i j : Nat) : MS := fun ρ τ => match getK ρ j with
  | none => none
  | some s => match s with
    | .im d => setK ρ i (.im d) fun ρ => some (.nx ρ τ)
    | .ow ds => setK ρ j .un fun ρ => setK ρ i (.ow ds) fun ρ => some (.nx ρ τ)
    | _ => none
noncomputable def sSti (i : Nat) (ix e : MV) : MS := fun ρ τ => bnd (e ρ τ) fun k d τ => nB k (match getK ρ i with
  | none => none
  | some s => match s with
    | .ow ds => bnd (ix ρ τ) fun _ x τ => match x with
      | .int m => match ixN ds.length m with
        | none => none
        | some j => setK ds j d fun es => setK ρ i (.ow es) fun ρ => some (.nx ρ τ)
      | _ => none
    | _ => none)
noncomputable def sRet (e : MV) : MS := fun ρ τ => bnd (e ρ τ) fun k d τ => nB k (some (.rt ⟨k, d⟩ τ))
noncomputable def sRetv (i : Nat) : MS := fun ρ τ => match getK ρ i with
  | none => none
  | some s => match s with
    | .im d => some (.rt ⟨.S, d⟩ τ)
    | .ow ds => some (.rt ⟨.F, .list ds⟩ τ)
    | _ => none
noncomputable def sIte (c : MV) (a b : MS) : MS := fun ρ τ => bnd (c ρ τ) fun _ d τ => dTest d none (a ρ τ) (b ρ τ)
noncomputable def lpK (o : Option Out) (f : MS) : Option Out := @Option.rec Out (fun _ => Option Out) none (fun x => @Out.rec (fun _ => Option Out) f (fun ρ τ => some (.nx ρ τ)) f (fun r τ => some (.rt r τ)) x) o
noncomputable def whK (c : MV) (f : MS) (n : Nat) : MS := @Nat.rec (fun _ => MS) (fun _ _ => none) (fun _ ih ρ τ => bnd (c ρ τ) fun _ d τ => dTest d none (lpK (f ρ τ) ih) (some (.nx ρ τ))) n
theorem whK_eq (c : MV) (f : MS) : ∀ (n : Nat) (ρ : Rho) (τ : Tp), whK c f n ρ τ = whL c f n ρ τ
  | 0, _, _ => rfl
  | n + 1, ρ, τ => by
    show bnd (c ρ τ) (fun _ d τ => dTest d none (lpK (f ρ τ) (whK c f n)) (some (.nx ρ τ))) = _
    simp only [whL, bnd_eq]
    congr 1; funext x
    cases x.1.d <;> first | rfl | skip
    rename_i k
    cases k with
    | false => rfl
    | true =>
      show lpK (f ρ x.2) (whK c f n) = (f ρ x.2).bind _
      cases f ρ x.2 with
      | none => rfl
      | some o => cases o <;> first | rfl | exact whK_eq c f n _ _
noncomputable def forK (f : MS) (tg : Tg) (ds : List D) : MS := @List.rec D (fun _ => MS) (fun ρ τ => some (.nx ρ τ)) (fun d _ ih ρ τ => tgK ρ tg d fun ρ => lpK (f ρ τ) ih) ds
theorem forK_eq (f : MS) (tg : Tg) : ∀ (ds : List D) (ρ : Rho) (τ : Tp), forK f tg ds ρ τ = forL f tg ds ρ τ
  | [], _, _ => rfl
  | d :: ds, ρ, τ => by
    show tgK ρ tg d (fun ρ => lpK (f ρ τ) (forK f tg ds)) = _
    simp only [forL, tgK_eq]
    congr 1; funext ρ1
    cases f ρ1 τ with
    | none => rfl
    | some o => cases o <;> first | rfl | exact forK_eq f tg ds _ _
noncomputable def borK : List R → Bool
  | [] => false
  | ⟨k, _⟩ :: r => match k with
    | .B => true
    | _ => borK r
theorem borK_eq : ∀ rs : List R, borK rs = rs.any (fun r => r.k == .B)
  | [] => rfl
  | ⟨k, _⟩ :: r => by cases k <;> simp [borK, borK_eq r] <;> decide
noncomputable def sFor (tg : Tg) (k : Nat) (its : ML) (b : MS) : MS := fun ρ τ => bndP (its.l ρ τ) fun rs τ => match itD k (dsK rs) with
  | none => none
  | some ds => match borK rs with
    | true => none
    | false => forK b tg ds ρ τ
noncomputable def sForv (tg : Tg) (i : Nat) (b : MS) : MS := fun ρ τ => match getK ρ i with
  | none => none
  | some s => match s with
    | .ow ds => setK ρ i (.im (.list ds)) fun ρ => forK b tg ds ρ τ
    | .im d => match itD 0 [d] with
      | none => none
      | some ds => forK b tg ds ρ τ
    | _ => none
noncomputable def sExp (e : MV) : MS := fun ρ τ => bnd (e ρ τ) fun _ _ τ => some (.nx ρ τ)
noncomputable def sqO (o : Option Out) (t : MS) : Option Out := @Option.rec Out (fun _ => Option Out) none (fun x => @Out.rec (fun _ => Option Out) t (fun ρ τ => some (.bk ρ τ)) (fun ρ τ => some (.ct ρ τ)) (fun r τ => some (.rt r τ)) x) o
noncomputable def sqK (s t : MS) : MS := fun ρ τ => sqO (s ρ τ) t
section
variable (Φ : Nat → List D → Option R) (Ψ : Nat → List D → Tp → Option (R × Tp)) (N : Nat)
noncomputable def evSK : S → MS := S.rec (motive_1 := fun _ => MS) (motive_2 := fun _ => MS) (fun tg e => sSet tg (evK Φ Ψ e)) (fun i j a b => sPar2 i j (evK Φ Ψ a) (evK Φ Ψ b)) (fun i j l a b c => sPar3 i j l (evK Φ Ψ a) (evK Φ Ψ b) (evK Φ Ψ c)) (fun i op e => sAug i op (evK Φ Ψ e)) (fun i e => sApp i (evK Φ Ψ e)) (fun i e => sExt i (evK Φ Ψ e)) (fun i => sPopK i) (fun tg i => sPopt tg i) (fun i j => sMov i j) (fun i ix e => sSti i (evK Φ Ψ ix) (evK Φ Ψ e)) (fun e => sRet (evK Φ Ψ e)) (fun i => sRetv i) (fun _ τ => some (.rt ⟨.S, .none⟩ τ)) (fun c _ _ a b => sIte (evK Φ Ψ c) a b) (fun c _ b => whK (evK Φ Ψ c) b N) (fun tg k its _ b => sFor tg k (evsK Φ Ψ its) b) (fun tg i _ b => sForv tg i b) (fun ρ τ => some (.bk ρ τ)) (fun ρ τ => some (.ct ρ τ)) (fun ρ τ => some (.nx ρ τ)) (fun e => sExp (evK Φ Ψ e)) (fun _ _ => none) (fun ρ τ => some (.nx ρ τ)) (fun _ _ s ss => sqK s ss)
noncomputable def evSsK : List S → MS := S.rec_1 (motive_1 := fun _ => MS) (motive_2 := fun _ => MS) (fun tg e => sSet tg (evK Φ Ψ e)) (fun i j a b => sPar2 i j (evK Φ Ψ a) (evK Φ Ψ b)) (fun i j l a b c => sPar3 i j l (evK Φ Ψ a) (evK Φ Ψ b) (evK Φ Ψ c)) (fun i op e => sAug i op (evK Φ Ψ e)) (fun i e => sApp i (evK Φ Ψ e)) (fun i e => sExt i (evK Φ Ψ e)) (fun i => sPopK i) (fun tg i => sPopt tg i) (fun i j => sMov i j) (fun i ix e => sSti i (evK Φ Ψ ix) (evK Φ Ψ e)) (fun e => sRet (evK Φ Ψ e)) (fun i => sRetv i) (fun _ τ => some (.rt ⟨.S, .none⟩ τ)) (fun c _ _ a b => sIte (evK Φ Ψ c) a b) (fun c _ b => whK (evK Φ Ψ c) b N) (fun tg k its _ b => sFor tg k (evsK Φ Ψ its) b) (fun tg i _ b => sForv tg i b) (fun ρ τ => some (.bk ρ τ)) (fun ρ τ => some (.ct ρ τ)) (fun ρ τ => some (.nx ρ τ)) (fun e => sExp (evK Φ Ψ e)) (fun _ _ => none) (fun ρ τ => some (.nx ρ τ)) (fun _ _ s ss => sqK s ss)
theorem evK_fn (e : E) : evK Φ Ψ e = fun ρ τ => ev Φ Ψ ρ τ e := by funext ρ τ; exact evK_eq Φ Ψ e ρ τ
theorem evsK_fn (e : List E) : (evsK Φ Ψ e).l = fun ρ τ => evs Φ Ψ ρ τ e := by funext ρ τ; exact evsK_l Φ Ψ e ρ τ
mutual
theorem evSK_eq : ∀ (s : S) (ρ : Rho) (τ : Tp), evSK Φ Ψ N s ρ τ = evS Φ Ψ N ρ τ s
  | .set tg e, ρ, τ => by
    show sSet tg (evK Φ Ψ e) ρ τ = _
    simp only [sSet, bnd_eq, ptgK_eq, evK_fn, evS]
    congr 1; funext x
    cases putTg ρ tg ⟨x.1.k, x.1.d⟩ <;> rfl
  | .par2 i j a b, ρ, τ => by
    show sPar2 i j (evK Φ Ψ a) (evK Φ Ψ b) ρ τ = _
    simp only [sPar2, bnd_eq, setK_eq, evK_fn, evS]
    congr 1; funext x; congr 1; funext y
    obtain ⟨⟨k, d⟩, τ1⟩ := x
    obtain ⟨⟨l, e⟩, τ2⟩ := y
    cases k <;> cases l <;> rfl
  | .par3 i j m a b c, ρ, τ => by
    show sPar3 i j m (evK Φ Ψ a) (evK Φ Ψ b) (evK Φ Ψ c) ρ τ = _
    simp only [sPar3, bnd_eq, setK_eq, evK_fn, evS]
    congr 1; funext x; congr 1; funext y; congr 1; funext z
    obtain ⟨⟨k, d⟩, τ1⟩ := x
    obtain ⟨⟨l, e⟩, τ2⟩ := y
    obtain ⟨⟨n, g⟩, τ3⟩ := z
    cases k <;> cases l <;> cases n <;> rfl
  | .aug i op e, ρ, τ => by
    show sAug i op (evK Φ Ψ e) ρ τ = _
    simp only [sAug, bnd_eq, getK_eq, setK_eq, frcD_eq, evK_fn, evS]
    cases ρ[i]? with
    | none => rfl
    | some s =>
      cases s <;> first | rfl | skip
      dsimp only
      congr 1; funext x
      rename_i d
      cases augD op d x.1.d <;> rfl
  | .app i e, ρ, τ => by
    show sApp i (evK Φ Ψ e) ρ τ = _
    simp only [sApp, bnd_eq, getK_eq, setK_eq, frcL_eq, evK_fn, evS]
    cases ρ[i]? with
    | none => rfl
    | some s =>
      cases s <;> first | rfl | skip
      dsimp only
      congr 1; funext x
      obtain ⟨⟨k, d⟩, τ1⟩ := x
      cases k <;> rfl
  | .ext i e, ρ, τ => by
    show sExt i (evK Φ Ψ e) ρ τ = _
    simp only [sExt, bnd_eq, getK_eq, setK_eq, frcL_eq, evK_fn, evS]
    cases ρ[i]? with
    | none => rfl
    | some s =>
      cases s <;> first | rfl | skip
  | .pop i, ρ, τ => by
    show sPopK i ρ τ = _
    simp only [sPopK, getK_eq, setK_eq, frcL_eq, evS]
    cases ρ[i]? with
    | none => rfl
    | some s => cases s <;> rfl
  | .popt tg i, ρ, τ => by
    show sPopt tg i ρ τ = _
    simp only [sPopt, getK_eq, setK_eq, frcL_eq, tgK_eq, evS]
    cases ρ[i]? with
    | none => rfl
    | some s =>
      cases s <;> first | rfl | skip
      rename_i ds
      dsimp only
      cases ds.getLast? with
      | none => rfl
      | some d =>
        dsimp only
        cases tgD (ρ.set i (.ow ds.dropLast)) tg d <;> rfl
  | .mov i j, ρ, τ => by
    show sMov i j ρ τ = _
    simp only [sMov, getK_eq, setK_eq, evS]
    cases ρ[j]? with
    | none => rfl
    | some s => cases s <;> rfl
  | .sti i ix e, ρ, τ => by
    show sSti i (evK Φ Ψ ix) (evK Φ Ψ e) ρ τ = _
    simp only [sSti, bnd_eq, getK_eq, setK_eq, evK_fn, evS]
    congr 1; funext x
    obtain ⟨⟨k, d⟩, τ1⟩ := x
    have h : ∀ o : Option Out, (match k with | .B => none | _ => o) = (stb ⟨k, d⟩).bind fun _ => o := by intro o; cases k <;> rfl
    cases k <;> first | rfl | skip
    all_goals
      cases ρ[i]? with
      | none => rfl
      | some s =>
        cases s <;> first | rfl | skip
        simp only [nB, stb, Option.bind_some]
        congr 1; funext y
        cases y.1.d <;> first | rfl | skip
        rename_i ds m
        simp only [intOf, Option.bind_some]
        cases ixN ds.length m <;> rfl
  | .ret e, ρ, τ => by
    show sRet (evK Φ Ψ e) ρ τ = _
    simp only [sRet, bnd_eq, evK_fn, evS]
    congr 1; funext x
    obtain ⟨⟨k, d⟩, τ1⟩ := x
    cases k <;> rfl
  | .retv i, ρ, τ => by
    show sRetv i ρ τ = _
    simp only [sRetv, getK_eq, evS]
    cases ρ[i]? with
    | none => rfl
    | some s => cases s <;> rfl
  | .retn, ρ, τ => by rw [evS]; rfl
  | .ite c a b, ρ, τ => by
    show sIte (evK Φ Ψ c) (evSsK Φ Ψ N a) (evSsK Φ Ψ N b) ρ τ = _
    simp only [sIte, bnd_eq, evK_fn, evSsK_eq a, evSsK_eq b, evS]
    congr 1; funext x
    cases x.1.d <;> first | rfl | skip
    rename_i k
    cases k <;> rfl
  | .whl c b, ρ, τ => by
    show whK (evK Φ Ψ c) (evSsK Φ Ψ N b) N ρ τ = _
    have h : evSsK Φ Ψ N b = fun ρ τ => evSs Φ Ψ N ρ τ b := by funext ρ τ; exact evSsK_eq b ρ τ
    rw [whK_eq, evK_fn, h, evS]
  | .for_ tg k its b, ρ, τ => by
    show sFor tg k (evsK Φ Ψ its) (evSsK Φ Ψ N b) ρ τ = _
    have h : evSsK Φ Ψ N b = fun ρ τ => evSs Φ Ψ N ρ τ b := by funext ρ τ; exact evSsK_eq b ρ τ
    simp only [sFor, bndP_eq, dsK_eq, evsK_fn, forK_eq, borK_eq, h, evS]
    congr 1; funext x
    cases itD k (x.1.map (·.d)) with
    | none => rfl
    | some ds =>
      simp only [Option.bind_some]
      cases x.1.any (fun r => r.k == .B) <;> rfl
  | .forv tg i b, ρ, τ => by
    show sForv tg i (evSsK Φ Ψ N b) ρ τ = _
    have h : evSsK Φ Ψ N b = fun ρ τ => evSs Φ Ψ N ρ τ b := by funext ρ τ; exact evSsK_eq b ρ τ
    simp only [sForv, getK_eq, setK_eq, forK_eq, h, evS]
    cases ρ[i]? with
    | none => rfl
    | some s =>
      cases s <;> first | rfl | skip
      rename_i d
      dsimp only
      cases itD 0 [d] <;> rfl
  | .brk, ρ, τ => by rw [evS]; rfl
  | .cnt, ρ, τ => by rw [evS]; rfl
  | .pas, ρ, τ => by rw [evS]; rfl
  | .exp e, ρ, τ => by
    show sExp (evK Φ Ψ e) ρ τ = _
    simp only [sExp, bnd_eq, evK_fn, evS]
    cases ev Φ Ψ ρ τ e <;> rfl
  | .nev, ρ, τ => by rw [evS]; rfl
theorem evSsK_eq : ∀ (s : List S) (ρ : Rho) (τ : Tp), evSsK Φ Ψ N s ρ τ = evSs Φ Ψ N ρ τ s
  | [], ρ, τ => by rw [evSs]; rfl
  | s :: ss, ρ, τ => by
    show sqK (evSK Φ Ψ N s) (evSsK Φ Ψ N ss) ρ τ = _
    simp only [sqK, sqO, evSK_eq s, evSs]
    cases evS Φ Ψ N ρ τ s with
    | none => rfl
    | some o => cases o <;> first | rfl | exact evSsK_eq ss _ _
end
end
end Ev

/-! ## Ev14 -/
namespace Ev
open PySem PySem.Spec PyProof.Rows L2

/-! ### the law's begin -/
abbrev rInt1 : List V → Hp → VK → Prop := fun xs H Q => (∃ i, xs = [.int i] ∧ Q (.int i) H) ∨ ∃ k, xs = [.bl k] ∧ Q (.int (if k then 1 else 0)) H
abbrev rModN : R2 := rI (fun _ j => j ≠ 0) fun i j => .int (i.fmod j)
def tBegin (K : PySem.W.Frag) : TS :=
  tSeq (tAsg (tC (.int 1)) (gName 1))
  (tSeq (tFor (iList K (tVar 0)) (gName 2) (tAsg (tOp rModN (tOp (rI0 fun i j => .int (i + j)) (tOp (rI0 fun i j => .int (i + j)) (tOp (rI CMul fun i j => .int (i * j)) (tVar 1) (tC (.int 69621))) (tOp rModN (tCB rInt1 (tCons (tVar 2) tNil)) (tC (.int 2147483629)))) (tC (.int 7))) (tC (.int 2147483647))) (gName 1)))
  (tRet (tLst (tCons (tCB (fun xs H Q => ∃ p ys, xs = [.ref p] ∧ (SqL K H p ys ∨ SqT K H p ys) ∧ ∀ l, H l = none → Q (.ref l) (upd H l (.lst ys))) (tCons (tVar 0) tNil)) (tCons (tC (.int 0)) (tCons (tC (.int 0)) (tCons (tVar 1) tNil)))))))
def spBegin (K : PySem.W.Frag) : Sp := fun vs H Q _ => ∃ (a : Addr) (ns : List Int), vs = [.ref a] ∧ SqL K H a (ns.map V.int) ∧ ns.length ≤ 63 ∧
  ∀ H' p b seed, Same H H' → p ≠ b → H' b = some (.lst (ns.map V.int)) → H' p = some (.lst [.ref b, .int 0, .int 0, .int seed]) → Q (.ref p) H'
theorem begin_run {K : PySem.W.Frag} {vs : List V} {H : Hp} {Q : VK} {E : XK} {D : Ends} (hD : D.rt = Q) (h : spBegin K vs H Q E) : tBegin K D (L2.start ["script", "seed", "cell"] vs) H := by
  obtain ⟨a, ns, rfl, hS, hl, hQ⟩ := h
  subst hD
  refine ⟨.ref a, rfl, a, rfl, ⟨_, hS⟩, ?_⟩
  refine for_list (xs := ns.map V.int) (fun i σ H' => H' = H ∧ ∃ (sd : Int) (c : Option V), σ = [some (.ref a), some (.int sd), c]) ⟨rfl, 1, none, rfl⟩ (fun i σ H' _ h => by obtain ⟨rfl, _⟩ := h; exact hS) (fun i x σ H' hx h => ?_) (fun σ H' h => ?_)
  · obtain ⟨rfl, sd, c, rfl⟩ := h
    rw [List.getElem?_map] at hx
    obtain ⟨n, _, rfl⟩ := Option.map_eq_some_iff.mp hx
    exact ⟨_, rfl, _, _, rfl, rfl, .inr ⟨by decide, by decide⟩, _, rfl, .inl ⟨n, rfl, _, _, rfl, rfl, (by show (2147483629 : Int) ≠ 0; decide), _, _, rfl, rfl, _, _, rfl, rfl, _, _, rfl, rfl, (by show (2147483647 : Int) ≠ 0; decide), rfl, _, _, rfl⟩⟩
  · obtain ⟨rfl, sd, c, rfl⟩ := h
    refine ⟨_, rfl, a, _, rfl, .inl hS, fun b nb => ⟨_, rfl, ?_⟩⟩
    refine ⟨Nat.le_trans (show 4 ≤ 63 by decide) (Nat.le_of_lt (small1000 (by decide))), fun p np => ?_⟩
    have nbp : b ≠ p := fun z => by rw [← z, upd_same] at np; cases np
    refine hQ _ p b sd ?_ nbp.symm ?_ upd_same
    · exact (same_upd nb).trans (same_upd np)
    · rw [upd_ne nbp]; exact upd_same

/-! ### the table of defs -/
def Φof (φs : List (List D → Option R)) (n : Nat) : List D → Option R := match φs[n]? with
  | some φ => φ
  | none => fun _ => none
def Ψof (ψs : List (List D → Tp → Option (R × Tp))) (n : Nat) : List D → Tp → Option (R × Tp) := match ψs[n]? with
  | some ψ => ψ
  | none => fun _ _ => none
/-- a def by running its code -/
noncomputable def runF (Φ : Nat → List D → Option R) (M N n : Nat) (code : List S) : List D → Option R := fun ds =>
  if ds.length = n then (evSsK Φ (Ψof []) M code (start0 N ds) τ0).bind retOf else none
section
variable {P : Program} {w : World} {K : PySem.W.Frag} {mg : Str → Option Value} {base : Heap} {k : Nat}
def FOk (P : Program) (w : World) (K : PySem.W.Frag) (mg : Str → Option Value) (base : Heap) (k : Nat) (x : Str) (φ : List D → Option R) : Prop := ∃ f fd ps, FnOk P w K mg base CX0 k f fd ps (spP K φ) ∧ mg x = some (.ref f) ∧ PySem.W.keepIn K (.ref f) = true ∧ Binds K fd ps []
def TOk (P : Program) (w : World) (K : PySem.W.Frag) (mg : Str → Option Value) (base : Heap) (k : Nat) (x : Str) (ψ : List D → Tp → Option (R × Tp)) : Prop := (∀ ds τ r τ', ψ ds τ = some (r, τ') → τ'.cells = τ.cells) ∧ ∃ f fd ps, FnOk P w K mg base CX0 k f fd ps (spT K ψ) ∧ mg x = some (.ref f) ∧ PySem.W.keepIn K (.ref f) = true ∧ Binds K fd ps []
theorem FOk.mono {j : Nat} {x : Str} {φ : List D → Option R} (h : FOk P w K mg base j x φ) (hj : j ≤ k) : FOk P w K mg base k x φ := let ⟨f, fd, ps, F, r⟩ := h; ⟨f, fd, ps, F.mono hj, r⟩
theorem TOk.mono {j : Nat} {x : Str} {φ : List D → Tp → Option (R × Tp)} (h : TOk P w K mg base j x φ) (hj : j ≤ k) : TOk P w K mg base k x φ := let ⟨c, f, fd, ps, F, r⟩ := h; ⟨c, f, fd, ps, F.mono hj, r⟩
theorem fns_nil : Paired (FOk P w K mg base k) [] [] := .nil
theorem fns_get {xs : List Str} {φs : List (List D → Option R)} (h : Paired (FOk P w K mg base k) xs φs) (n : Nat) (x : Str) (e : xs[n]? = some x) : FOk P w K mg base k x (Φof φs n) := by
  induction h generalizing n with
  | nil => simp at e
  | cons r t ih =>
    cases n with
    | zero => simp at e; subst e; exact r
    | succ n => exact ih n (by simpa using e)
theorem fts_get {xs : List Str} {φs : List (List D → Tp → Option (R × Tp))} (h : Paired (TOk P w K mg base k) xs φs) (n : Nat) (x : Str) (e : xs[n]? = some x) : TOk P w K mg base k x (Ψof φs n) := by
  induction h generalizing n with
  | nil => simp at e
  | cons r t ih =>
    cases n with
    | zero => simp at e; subst e; exact r
    | succ n => exact ih n (by simpa using e)
theorem fns_mono {j : Nat} {xs : List Str} {φs : List (List D → Option R)} (h : Paired (FOk P w K mg base j) xs φs) (hj : j ≤ k) : Paired (FOk P w K mg base k) xs φs := Paired.mapP h fun _ _ q => q.mono hj
theorem fns_snoc {xs : List Str} {φs : List (List D → Option R)} {x : Str} {φ : List D → Option R} (h : Paired (FOk P w K mg base k) xs φs) (q : FOk P w K mg base k x φ) : Paired (FOk P w K mg base k) (xs ++ [x]) (φs ++ [φ]) := by
  induction h with
  | nil => exact .cons q .nil
  | cons r t ih => exact .cons r ih
theorem env_mk {c : Cc} {φs : List (List D → Option R)} {ψs : List (List D → Tp → Option (R × Tp))} (hc : ∀ x d, c.cs.lookup x = some d → ∃ v u, mg x = some u ∧ RelV v u ∧ ∀ H, Rp K H v d) (hb : ∀ x, c.bl.contains x = true → mg x = none) (hf : Paired (FOk P w K mg base k) c.fs φs) (ht : Paired (TOk P w K mg base k) c.ft ψs) :
    Env1 P w K mg base k c (Φof φs) (Ψof ψs) := ⟨hc, hb, fns_get hf, fts_get ht⟩
/-- a def whose code is run -/
theorem run_ok {c : Cc} {φs : List (List D → Option R)} {x y qual : Str} {st : Stmt} {f : Addr} {fd : FuncData} {ps : List Str} {code : List S} {fuel M : Nat}
    (V : Env1 P w K mg base k c (Φof φs) (Ψof [])) (F : Fun K x qual st f fd) (hm : mg y = some (.ref f)) (hbd : Binds K fd ps []) (hS : FnScope c.N ps c.sc) (hsc : c.sc = defScope st) (hc : compSs fuel c (defBody st) = some code) (hp : ps.length ≤ c.N.length) :
    FOk P w K mg base (k + 1) y (runF (Φof φs) M c.N.length ps.length code) := by
  refine ⟨f, fd, ps, fn_ev V F hS hsc hc hp fun ds r h => ?_, hm, F.kp, hbd⟩
  unfold runF at h
  split at h
  · rename_i hl
    obtain ⟨o, he, h⟩ := bind_some h
    rw [evSsK_eq] at he
    exact ⟨hl, M, o, he, h⟩
  · cases h
/-- a def by a function of one's own -/
theorem own_ok {c : Cc} {φs : List (List D → Option R)} {x y qual : Str} {st : Stmt} {f : Addr} {fd : FuncData} {ps : List Str} {code : List S} {fuel : Nat} (φ : List D → Option R)
    (V : Env1 P w K mg base k c (Φof φs) (Ψof [])) (F : Fun K x qual st f fd) (hm : mg y = some (.ref f)) (hbd : Binds K fd ps []) (hS : FnScope c.N ps c.sc) (hsc : c.sc = defScope st) (hc : compSs fuel c (defBody st) = some code) (hp : ps.length ≤ c.N.length)
    (hφ : ∀ ds r, φ ds = some r → ds.length = ps.length ∧ ∃ M o, evSs (Φof φs) (Ψof []) M (start0 c.N.length ds) τ0 code = some o ∧ retOf o = some r) : FOk P w K mg base (k + 1) y φ :=
  ⟨f, fd, ps, fn_ev V F hS hsc hc hp hφ, hm, F.kp, hbd⟩

theorem con_all {cs : List (Str × D)} (h : ∀ p ∈ cs, ∃ v u, mg p.1 = some u ∧ RelV v u ∧ ∀ H, Rp K H v p.2) : ∀ x d, cs.lookup x = some d → ∃ v u, mg x = some u ∧ RelV v u ∧ ∀ H, Rp K H v d := by
  intro x d
  induction cs with
  | nil => intro e; cases e
  | cons p r ih =>
    intro e
    rw [List.lookup_cons] at e
    cases hb : x == p.1 with
    | true =>
      rw [hb] at e
      cases e
      have e1 : x = p.1 := by simpa using hb
      rw [e1]
      exact h p List.mem_cons_self
    | false =>
      rw [hb] at e
      exact ih (fun q hq => h q (List.mem_cons_of_mem _ hq)) e
theorem con_tup {x : Str} {a : Addr} {o1 : Option Addr} {o2 : Array (Option Value)} {its : Array Value} {n : Nat} {ns : List Int} (hm : mg x = some (.ref a)) (hl : K.lookup a = some ⟨.type "tuple", o1, .seq its n, o2⟩) (hz : its.size ≤ sizeLine) (hv : Vals (ns.map V.int) its.toList) :
    ∃ v u, mg x = some u ∧ RelV v u ∧ ∀ H, Rp K H v (.tuple (ns.map PyData.int)) := by
  refine ⟨.ref a, _, hm, rfl, fun H => ⟨a, ns.map V.int, rfl, .inr ⟨_, its, n, hl, rfl, rfl, hz, hv⟩, ?_⟩⟩
  clear hv
  induction ns with
  | nil => exact rfl
  | cons i ns ih => exact ⟨_, _, rfl, rfl, ih⟩

/-! ### the law -/
def spLaw (K : PySem.W.Frag) : Sp := fun vs H Q _ => ∃ (a : Addr) (ns : List Int), vs = [.ref a] ∧ SqL K H a (ns.map V.int) ∧ ns.length ≤ 63 ∧ ∀ H', Q (.bl true) H'
theorem PSs.ex {X : Cx} {ι : Type} {st : List Stmt} {t : ι → TS} (h : ∀ i, PSs X st (t i)) : PSs X st (fun D σ H => ∃ i, t i D σ H) := ⟨fun pins s σ H D I ⟨i, q⟩ => (h i).run pins s σ H D I q⟩
theorem tape_rel {H' : Hp} {a p b : Addr} {ns : List Int} {seed : Int} {n : Nat} (hb : H' b = some (.lst (ns.map V.int))) (hp : H' p = some (.lst [.ref b, .int 0, .int 0, .int seed])) (nb : p ≠ b) :
    Rel K ⟨some p, b⟩ (.un :: .tp :: List.replicate n .un) (del H' p) (some (.ref a) :: some (.ref p) :: List.replicate n none) H' ∧ TpOk K ⟨some p, b⟩ (del H' p) H' ⟨ns, 0, 0, seed⟩ := by
  have no : ∀ (i : Nat) (di : List D), (Sl.un :: Sl.tp :: List.replicate n Sl.un)[i]? = some (.ow di) → False := fun i di e => by
    match i, e with
    | 0, e => simp at e
    | 1, e => simp at e
    | i + 2, e =>
      simp only [List.getElem?_cons_succ, List.getElem?_replicate] at e
      split at e <;> cases e
  refine ⟨⟨by simp, del_sub, fun i s e => ?_, fun i j di dj q e1 e2 e3 e4 => (no i di e1).elim⟩, fun q e => ?_⟩
  · match i, e with
    | 0, e => simp at e; subst e; trivial
    | 1, e => simp at e; subst e; exact ⟨p, rfl, rfl⟩
    | i + 2, e =>
      simp only [List.getElem?_cons_succ, List.getElem?_replicate] at e
      split at e
      · cases e; trivial
      · cases e
  · cases e
    exact ⟨del_same, hp, .inl (.inl (by rw [del_ne nb.symm]; exact hb))⟩
theorem law_ev {c : Cc} {Φ : Nat → List D → Option R} {Ψ : Nat → List D → Tp → Option (R × Tp)} {st : Stmt} {f fB : Addr} {fd fdB : FuncData} {rest : List Stmt} {code : List S} {fuel : Nat} {p1 p2 p3 p4 p5 : Pos} {N0 : List Str}
    (V : Env1 P w K mg base k c Φ Ψ) (F : Fun K "law" "law" st f fd) (hS : FnScope c.N ["script"] c.sc) (hsc : c.sc = defScope st) (hN : c.N = ("script" : Str) :: ("d" : Str) :: N0) (hloc : c.sc.names.lookup ("d" : Str) = some .local ∨ c.sc.names.lookup ("d" : Str) = some .cell) (hscr : Vis c.sc "script") (hgl : c.sc.names.lookup ("_law_begin" : Str) = some .globalImplicit)
    (GB : FnOk P w K mg base CX0 k fB fdB ["script"] (spBegin K)) (mB : mg "_law_begin" = some (.ref fB)) (kB : PySem.W.keepIn K (.ref fB) = true) (bB : Binds K fdB ["script"] [])
    (hbody : defBody st = .Assign [.Name "d" p1] (.Call (.Name "_law_begin" p2) [.Name "script" p3] [] p4) p5 :: rest) (hc : compSs fuel c rest = some code)
    (hlaw : ∀ ns seed, ∃ M τ', evSs Φ Ψ M (.un :: .tp :: List.replicate N0.length .un) ⟨ns, 0, 0, seed⟩ code = some (.rt ⟨.S, .bool true⟩ τ')) : FnOk P w K mg base CX0 (k + 1) f fd ["script"] (spLaw K) := by
  refine F.ok (N := c.N) (by rw [← hsc]; exact hS) (fun vs H Q E h => ?_) (fun cdv A outer s H vs Q E hr h => ?_)
  · obtain ⟨a, ns, rfl, _⟩ := h
    rfl
  · obtain ⟨a, ns, rfl, hs, hl, hQ⟩ := h
    rw [← hsc] at hr ⊢
    have C := V.cx hS hr (outer := outer) (E := E) (H := H)
    rw [hbody]
    refine ⟨_, pss_cons (ps_set (i := 1) hS.nd (by show c.N[1]? = _; rw [hN]; rfl) hloc (pe_call (dvs := []) GB hr hgl mB kB bB .nil (pass0 (X := _)) (pa_cons (pe_var (i := 0) (by show c.N[0]? = _; rw [hN]; rfl) hscr) pa_nil))) (PSs.ex (ι := Ta × Nat) fun i => (comp_ok (ta := i.1) (M := i.2) C (fun _ => rfl) fuel).2 _ _ hc), ?_⟩
    refine ⟨.ref a, by rw [hN]; rfl, a, ns, rfl, hs, hl, fun H' p b seed s1 npb hb hp => ?_⟩
    obtain ⟨M, τ', hev⟩ := hlaw ns seed
    obtain ⟨r1, r2⟩ := tape_rel (K := K) (a := a) (n := N0.length) hb hp npb
    refine ⟨(⟨some p, b⟩, M), del H' p, _, _, _, ?_, r2, hev, ?_⟩
    · rw [hN]
      exact r1
    · intro v H2 S2 _ _ _ hv
      have hv' : v = .bl true := hv
      subst hv'
      exact hQ H2
end
end Ev

/-! ## Ev15 -/
namespace Ev
open PySem PySem.Spec PyProof.Rows L2
/-- a def by its combinators -/
noncomputable def runM (N n : Nat) (ms : MS) : List D → Option R := fun ds => iteB (Nat.beq ds.length n) ((ms (start0 N ds) τ0).bind retOf) none
theorem runM_eq {Φ : Nat → List D → Option R} {M N n : Nat} {ms : MS} {code : List S} (h : ms = evSsK Φ (Ψof []) M code) : runM N n ms = runF Φ M N n code := by
  funext ds
  unfold runM runF
  rw [iteB_eq, h, beq_dec]
  by_cases g : ds.length = n
  · simp [g]
  · simp [g]
section
variable {P : Program} {w : World} {K : PySem.W.Frag} {mg : Str → Option Value} {base : Heap} {k : Nat}
theorem runM_ok {c : Cc} {φs : List (List D → Option R)} {x y qual : Str} {st : Stmt} {f : Addr} {fd : FuncData} {ps : List Str} {code : List S} {fuel M : Nat} {ms : MS} (h : ms = evSsK (Φof φs) (Ψof []) M code)
    (V : Env1 P w K mg base k c (Φof φs) (Ψof [])) (F : Fun K x qual st f fd) (hm : mg y = some (.ref f)) (hbd : Binds K fd ps []) (hS : FnScope c.N ps c.sc) (hsc : c.sc = defScope st) (hc : compSs fuel c (defBody st) = some code) (hp : ps.length ≤ c.N.length) :
    FOk P w K mg base (k + 1) y (runM c.N.length ps.length ms) := by
  rw [runM_eq h]
  exact run_ok V F hm hbd hS hsc hc hp
end
/-- a number drawn from the tape, with a number added -/
theorem draw_add {Φ : Nat → List D → Option R} {M : Nat} {ρ : Rho} {τ : Tp} {j : Nat} {c m : Int} (h : ρ[1]? = some .tp) (h0 : 0 < m) (h1 : m < 1073741824) :
    evS Φ (Ψof [takeF]) M ρ τ (.set (.nm j) (.bin .add (.cst (.int c)) (.callT 0 1 [.cst (.int m)]))) = some (.nx (ρ.set j (.im (.int (c + (takeM τ m).1)))) (takeM τ m).2) := by
  simp [evS, ev, evs, Ψof, takeF, clean, binD, putTg, putR, noList, h, h0, h1]
theorem draw {Φ : Nat → List D → Option R} {M : Nat} {ρ : Rho} {τ : Tp} {j : Nat} {m : Int} (h : ρ[1]? = some .tp) (h0 : 0 < m) (h1 : m < 1073741824) :
    evS Φ (Ψof [takeF]) M ρ τ (.set (.nm j) (.callT 0 1 [.cst (.int m)])) = some (.nx (ρ.set j (.im (.int (takeM τ m).1))) (takeM τ m).2) := by
  simp [evS, ev, evs, Ψof, takeF, clean, putTg, putR, noList, h, h0, h1]
theorem evSs_cons {Φ : Nat → List D → Option R} {Ψ : Nat → List D → Tp → Option (R × Tp)} {M : Nat} {ρ ρ1 : Rho} {τ τ1 : Tp} {s : S} {ss : List S} (h : evS Φ Ψ M ρ τ s = some (.nx ρ1 τ1)) : evSs Φ Ψ M ρ τ (s :: ss) = evSs Φ Ψ M ρ1 τ1 ss := by
  rw [evSs, h]; rfl
/-- it ends in True -/
def okTrue : Option Out → Bool
  | some (.rt ⟨.S, .bool true⟩ _) => true
  | _ => false
theorem okTrue_of {o : Option Out} (h : okTrue o = true) : ∃ τ, o = some (.rt ⟨.S, .bool true⟩ τ) := by
  unfold okTrue at h
  split at h
  · exact ⟨_, rfl⟩
  · cases h
end Ev

/-! ## Ev16 -/
namespace Ev
open PySem PySem.Spec PyProof.Rows L2
/-- slots 2 and 3 as they are left, and the tape -/
noncomputable def outG (len : Nat) (o : Option Out) : Bool × Sl × Sl × Tp := match o with
  | some (.nx (.un :: .tp :: a :: b :: r) τ) => (Nat.beq r.length len, a, b, τ)
  | _ => (false, .un, .un, τ0)
theorem outG_of {a b : Sl} {len : Nat} {o : Option Out} {τ : Tp} (h : outG len o = (true, a, b, τ)) : ∃ r : Rho, r.length = len ∧ o = some (.nx (.un :: .tp :: a :: b :: r) τ) := by
  unfold outG at h
  split at h
  · rename_i a' b' r τ'
    have h1 : Nat.beq r.length len = true := congrArg Prod.fst h
    have h2 : a' = a := congrArg (fun x => x.2.1) h
    have h3 : b' = b := congrArg (fun x => x.2.2.1) h
    have h4 : τ' = τ := congrArg (fun x => x.2.2.2) h
    subst h2 h3 h4
    exact ⟨r, Nat.eq_of_beq_eq_true h1, rfl⟩
  · have := congrArg Prod.fst h
    cases this
theorem len14 {r : Rho} (h : r.length = 14) : ∃ s4 s5 s6 s7 s8 s9 s10 s11 s12 s13 s14 s15 s16 s17, r = [s4, s5, s6, s7, s8, s9, s10, s11, s12, s13, s14, s15, s16, s17] := by
  match r, h with
  | [s4, s5, s6, s7, s8, s9, s10, s11, s12, s13, s14, s15, s16, s17], _ => exact ⟨_, _, _, _, _, _, _, _, _, _, _, _, _, _, rfl⟩
theorem evSs_app {Φ : Nat → List D → Option R} {Ψ : Nat → List D → Tp → Option (R × Tp)} {M : Nat} : ∀ {xs ys : List S} {ρ ρ1 : Rho} {τ τ1 : Tp}, evSs Φ Ψ M ρ τ xs = some (.nx ρ1 τ1) → evSs Φ Ψ M ρ τ (xs ++ ys) = evSs Φ Ψ M ρ1 τ1 ys
  | [], ys, ρ, ρ1, τ, τ1, h => by
    rw [evSs] at h
    cases h
    rfl
  | s :: xs, ys, ρ, ρ1, τ, τ1, h => by
    rw [evSs] at h
    rw [List.cons_append, evSs]
    cases q : evS Φ Ψ M ρ τ s with
    | none => rw [q] at h; cases h
    | some o =>
      rw [q] at h
      cases o with
      | nx ρ2 τ2 => exact evSs_app h
      | ct _ _ => cases h
      | bk _ _ => cases h
      | rt _ _ => cases h
end Ev

/-! ## Nx1 -/
/-! native forms of codes: pieces that the kernel runs fast, with the rules that tie them to the evaluator -/
namespace Nx
open PySem PySem.Spec PyProof.Rows L2 Ev
/-! ### tests -/
noncomputable def andB (a b : Bool) : Bool := @Bool.rec (fun _ => Bool) false b a
noncomputable def notB (a : Bool) : Bool := @Bool.rec (fun _ => Bool) true false a
theorem andB_l {a b : Bool} (h : andB a b = true) : a = true := by cases a <;> first | rfl | cases h
theorem andB_r {a b : Bool} (h : andB a b = true) : b = true := by cases a <;> first | exact h | cases h
theorem andB_eq (a b : Bool) : andB a b = (a && b) := by cases a <;> rfl
theorem notB_eq (a : Bool) : notB a = !a := by cases a <;> rfl
theorem selT {t a b : Bool} (h : iteB t a b = true) (ht : t = true) : a = true := by subst ht; exact h
theorem selF {t a b : Bool} (h : iteB t a b = true) (ht : t = false) : b = true := by subst ht; exact h
noncomputable def isSomeB {α : Type} (o : Option α) : Bool := @Option.rec α (fun _ => Bool) false (fun _ => true) o
noncomputable def getO {α : Type} (z : α) (o : Option α) : α := @Option.rec α (fun _ => α) z (fun x => x) o
theorem isSome_eq {α : Type} {o : Option α} {z : α} (h : isSomeB o = true) : o = some (getO z o) := by cases o <;> first | rfl | cases h
noncomputable def bndO {α β : Type} (o : Option α) (f : α → Option β) : Option β := @Option.rec α (fun _ => Option β) none f o
/-- factors that fit; log2 is slow in the kernel -/
noncomputable def mulQ (i j : Int) : Bool := iteB (Nat.ble (absZ i) 1000000000000000000000000000000) (iteB (Nat.ble (absZ j) 1000000000000000000000000000000) true (mulB i j)) (mulB i j)
theorem mulB_small {i j : Int} (h1 : i.natAbs ≤ 1000000000000000000000000000000) (h2 : j.natAbs ≤ 1000000000000000000000000000000) : mulB i j = true := by
  rw [mulB_eq]
  unfold mulFits
  have l : ∀ n : Nat, n ≤ 1000000000000000000000000000000 → n.log2 < 200 := fun n hn => by
    by_cases h : n = 0
    · subst h; decide
    · exact (Nat.log2_lt h).mpr (Nat.lt_of_le_of_lt hn (by decide))
  have a1 := l _ h1
  have a2 := l _ h2
  exact decide_eq_true (by omega)
theorem mulQ_eq {i j : Int} (h : mulQ i j = true) : mulB i j = true := by
  unfold mulQ at h
  cases h1 : Nat.ble (absZ i) 1000000000000000000000000000000 with
  | false => rw [h1] at h; exact h
  | true =>
    rw [h1] at h
    cases h2 : Nat.ble (absZ j) 1000000000000000000000000000000 with
    | false => rw [h2] at h; exact h
    | true =>
      have a1 := Nat.le_of_ble_eq_true h1
      have a2 := Nat.le_of_ble_eq_true h2
      rw [absZ_eq] at a1 a2
      exact mulB_small a1 a2
noncomputable def divQ (j : Int) : Bool := iteB (eqZ j 0) false (iteB (Nat.ble (absZ j) 1000000000000000000000000000000) true (divB j))
theorem divQ_eq {j : Int} (h : divQ j = true) : divB j = true := by
  unfold divQ at h
  rw [eqZ_eq] at h
  by_cases h0 : j = 0
  · rw [decide_eq_true h0] at h; cases h
  · rw [decide_eq_false h0] at h
    cases h1 : Nat.ble (absZ j) 1000000000000000000000000000000 with
    | false =>
      have h' : iteB (Nat.ble (absZ j) 1000000000000000000000000000000) true (divB j) = true := h
      rw [h1] at h'; exact h'
    | true =>
      have a1 := Nat.le_of_ble_eq_true h1
      rw [absZ_eq] at a1
      rw [divB_eq]
      unfold divFits
      have : j.natAbs.log2 < 9000 := by
        have := (Nat.log2_lt (n := j.natAbs) (k := 200) (by omega)).mpr (Nat.lt_of_le_of_lt a1 (by decide))
        omega
      rw [decide_eq_true this, decide_eq_true (show j ≠ 0 from h0)]; rfl
/-! ### data -/
noncomputable def isI (d : D) : Bool := dInt d false fun _ => true
noncomputable def asI (d : D) : Int := dInt d 0 fun i => i
theorem isI_eq {d : D} (h : isI d = true) : d = .int (asI d) := by cases d <;> first | rfl | cases h
noncomputable def isB (d : D) : Bool := dBool d false fun _ => true
noncomputable def asB (d : D) : Bool := dBool d false fun i => i
theorem isB_eq {d : D} (h : isB d = true) : d = .bool (asB d) := by cases d <;> first | rfl | cases h
noncomputable def dTup {β : Type} (d : D) (g : β) (f : List D → β) : β := @PyData.rec (fun _ => β) (fun _ => PUnit) (fun _ => PUnit) (fun _ => PUnit) g (fun _ => g) (fun _ => g) (fun _ => g) (fun _ _ => g) (fun l _ => f l) (fun _ _ => g) ⟨⟩ (fun _ _ _ _ => ⟨⟩) ⟨⟩ (fun _ _ _ _ => ⟨⟩) (fun _ _ _ _ => ⟨⟩) d
noncomputable def dLst {β : Type} (d : D) (g : β) (f : List D → β) : β := @PyData.rec (fun _ => β) (fun _ => PUnit) (fun _ => PUnit) (fun _ => PUnit) g (fun _ => g) (fun _ => g) (fun _ => g) (fun l _ => f l) (fun _ _ => g) (fun _ _ => g) ⟨⟩ (fun _ _ _ _ => ⟨⟩) ⟨⟩ (fun _ _ _ _ => ⟨⟩) (fun _ _ _ _ => ⟨⟩) d
noncomputable def isT (d : D) : Bool := dTup d false fun _ => true
noncomputable def asT (d : D) : List D := dTup d [] fun l => l
theorem isT_eq {d : D} (h : isT d = true) : d = .tuple (asT d) := by cases d <;> first | rfl | cases h
noncomputable def isL (d : D) : Bool := dLst d false fun _ => true
noncomputable def asL (d : D) : List D := dLst d [] fun l => l
theorem isL_eq {d : D} (h : isL d = true) : d = .list (asL d) := by cases d <;> first | rfl | cases h
noncomputable def isNn (d : D) : Bool := @PyData.rec (fun _ => Bool) (fun _ => PUnit) (fun _ => PUnit) (fun _ => PUnit) true (fun _ => false) (fun _ => false) (fun _ => false) (fun _ _ => false) (fun _ _ => false) (fun _ _ => false) ⟨⟩ (fun _ _ _ _ => ⟨⟩) ⟨⟩ (fun _ _ _ _ => ⟨⟩) (fun _ _ _ _ => ⟨⟩) d
theorem isNn_eq (d : D) : isNn d = nonD d := by cases d <;> rfl
/-- a datum, forced through and through -/
noncomputable def frcDD {β : Type} (d : D) : (D → β) → β := @PyData.rec (fun _ => (D → β) → β) (fun _ => (List D → β) → β) (fun _ => PUnit) (fun _ => PUnit) (fun f => f .none) (fun b f => @Bool.rec (fun _ => β) (f (.bool false)) (f (.bool true)) b) (fun i f => frcI i fun i => f (.int i)) (fun x f => f (.str x)) (fun _ ih f => ih fun l => f (.list l)) (fun _ ih f => ih fun l => f (.tuple l)) (fun l _ f => f (.dict l)) (fun f => f []) (fun _ _ ih1 ih2 f => ih1 fun d => ih2 fun l => f (d :: l)) ⟨⟩ (fun _ _ _ _ => ⟨⟩) (fun _ _ _ _ => ⟨⟩) d
noncomputable def frcLL {β : Type} (l : List D) : (List D → β) → β := @List.rec D (fun _ => (List D → β) → β) (fun f => f []) (fun a _ ih f => frcDD a fun a => ih fun r => f (a :: r)) l
mutual
theorem frcDD_eq {β : Type} : ∀ (d : D) (f : D → β), frcDD d f = f d
  | .none, f => rfl
  | .bool b, f => by cases b <;> rfl
  | .int i, f => frcI_eq i fun i => f (.int i)
  | .str x, f => rfl
  | .list l, f => frcLL_eq' l fun l => f (.list l)
  | .tuple l, f => frcLL_eq' l fun l => f (.tuple l)
  | .dict l, f => rfl
theorem frcLL_eq' {β : Type} : ∀ (l : List D) (f : List D → β), @PyData.rec_1 (fun _ => (D → β) → β) (fun _ => (List D → β) → β) (fun _ => PUnit) (fun _ => PUnit) (fun f => f .none) (fun b f => @Bool.rec (fun _ => β) (f (.bool false)) (f (.bool true)) b) (fun i f => frcI i fun i => f (.int i)) (fun x f => f (.str x)) (fun _ ih f => ih fun l => f (.list l)) (fun _ ih f => ih fun l => f (.tuple l)) (fun l _ f => f (.dict l)) (fun f => f []) (fun _ _ ih1 ih2 f => ih1 fun d => ih2 fun l => f (d :: l)) ⟨⟩ (fun _ _ _ _ => ⟨⟩) (fun _ _ _ _ => ⟨⟩) l f = f l
  | [], f => rfl
  | d :: l, f => by
    show frcDD d _ = _
    rw [frcDD_eq d]
    exact frcLL_eq' l fun l => f (d :: l)
end
theorem frcLL_eq {β : Type} : ∀ (l : List D) (f : List D → β), frcLL l f = f l
  | [], f => rfl
  | d :: l, f => by
    show frcDD d _ = _
    rw [frcDD_eq d]
    exact frcLL_eq l fun l => f (d :: l)
/-- no list within, fast -/
noncomputable def nlK (d : D) : Bool := @PyData.rec (fun _ => Bool) (fun _ => Bool) (fun _ => PUnit) (fun _ => PUnit) true (fun _ => true) (fun _ => true) (fun _ => true) (fun _ _ => false) (fun _ ih => ih) (fun _ _ => false) true (fun _ _ a b => @Bool.rec (fun _ => Bool) false b a) ⟨⟩ (fun _ _ _ _ => ⟨⟩) (fun _ _ _ _ => ⟨⟩) d
noncomputable def nlL (l : List D) : Bool := @List.rec D (fun _ => Bool) true (fun a _ ih => @Bool.rec (fun _ => Bool) false ih (nlK a)) l
mutual
theorem nlK_of : ∀ d : D, nlK d = true → noList d = true
  | .none, _ => rfl
  | .bool _, _ => rfl
  | .int _, _ => rfl
  | .str _, _ => rfl
  | .list _, h => by cases h
  | .tuple l, h => nlK_of' l h
  | .dict _, h => by cases h
theorem nlK_of' : ∀ l : List D, @PyData.rec_1 (fun _ => Bool) (fun _ => Bool) (fun _ => PUnit) (fun _ => PUnit) true (fun _ => true) (fun _ => true) (fun _ => true) (fun _ _ => false) (fun _ ih => ih) (fun _ _ => false) true (fun _ _ a b => @Bool.rec (fun _ => Bool) false b a) ⟨⟩ (fun _ _ _ _ => ⟨⟩) (fun _ _ _ _ => ⟨⟩) l = true → noListAll l = true
  | [], _ => rfl
  | d :: l, h => by
    have h' : @Bool.rec (fun _ => Bool) false _ (nlK d) = true := h
    cases hd : nlK d with
    | false => rw [hd] at h'; cases h'
    | true =>
      rw [hd] at h'
      show (noList d && noListAll l) = true
      rw [nlK_of d hd, nlK_of' l h']
      rfl
end
theorem nlL_of : ∀ l : List D, nlL l = true → noListAll l = true
  | [], _ => rfl
  | d :: l, h => by
    have h' : @Bool.rec (fun _ => Bool) false (nlL l) (nlK d) = true := h
    cases hd : nlK d with
    | false => rw [hd] at h'; cases h'
    | true =>
      rw [hd] at h'
      show (noList d && noListAll l) = true
      rw [nlK_of d hd, nlL_of l h']
      rfl
/-- shaped, by depth -/
noncomputable def shK (d : D) : Nat → Bool := @PyData.rec (fun _ => Nat → Bool) (fun _ => Nat → Bool) (fun _ => PUnit) (fun _ => PUnit) (fun _ => true) (fun _ _ => true) (fun _ _ => true) (fun x _ => PyData.canLay0 (.str x)) (fun _ ih n => @Nat.rec (fun _ => Bool) false (fun n _ => ih n) n) (fun _ ih n => @Nat.rec (fun _ => Bool) false (fun n _ => ih n) n) (fun _ _ _ => false) (fun _ => true) (fun _ _ a b n => @Bool.rec (fun _ => Bool) false (b n) (a n)) ⟨⟩ (fun _ _ _ _ => ⟨⟩) (fun _ _ _ _ => ⟨⟩) d
mutual
theorem shK_of : ∀ (d : D) (n : Nat), shK d n = true → PyData.canLay0 d = true ∧ PyData.depth d ≤ n
  | .none, _, _ => by simp [PyData.canLay0, PyData.depth]
  | .bool _, _, _ => by simp [PyData.canLay0, PyData.depth]
  | .int _, _, _ => by simp [PyData.canLay0, PyData.depth]
  | .str x, n, h => ⟨h, by simp [PyData.depth]⟩
  | .list l, 0, h => by cases h
  | .list l, n + 1, h => by
    have := shK_of' l n h
    simp only [PyData.canLay0, PyData.depth]
    exact ⟨this.1, by omega⟩
  | .tuple l, 0, h => by cases h
  | .tuple l, n + 1, h => by
    have := shK_of' l n h
    simp only [PyData.canLay0, PyData.depth]
    exact ⟨this.1, by omega⟩
  | .dict _, _, h => by cases h
theorem shK_of' : ∀ (l : List D) (n : Nat), @PyData.rec_1 (fun _ => Nat → Bool) (fun _ => Nat → Bool) (fun _ => PUnit) (fun _ => PUnit) (fun _ => true) (fun _ _ => true) (fun _ _ => true) (fun x _ => PyData.canLay0 (.str x)) (fun _ ih n => @Nat.rec (fun _ => Bool) false (fun n _ => ih n) n) (fun _ ih n => @Nat.rec (fun _ => Bool) false (fun n _ => ih n) n) (fun _ _ _ => false) (fun _ => true) (fun _ _ a b n => @Bool.rec (fun _ => Bool) false (b n) (a n)) ⟨⟩ (fun _ _ _ _ => ⟨⟩) (fun _ _ _ _ => ⟨⟩) l n = true → PyData.canLayAll0 l = true ∧ PyData.depthAll l ≤ n
  | [], _, _ => by simp [PyData.canLayAll0, PyData.depthAll]
  | d :: l, n, h => by
    have h' : @Bool.rec (fun _ => Bool) false _ (shK d n) = true := h
    cases hd : shK d n with
    | false => rw [hd] at h'; cases h'
    | true =>
      rw [hd] at h'
      have h1 := shK_of d n hd
      have h2 := shK_of' l n h'
      simp only [PyData.canLayAll0, PyData.depthAll]
      exact ⟨by rw [h1.1, h2.1]; rfl, by omega⟩
end
theorem shaped_of {d : D} (h : shK d 8 = true) : SeqAt.shaped d = true := by
  have := shK_of d 8 h
  unfold SeqAt.shaped
  rw [this.1, decide_eq_true (by omega : d.depth ≤ 64)]
  rfl
/-- equality of data, fast -/
noncomputable def eqK (d : D) : D → Bool := @PyData.rec (fun _ => D → Bool) (fun _ => List D → Bool) (fun _ => PUnit) (fun _ => PUnit) (fun e => isNn e) (fun b e => PyData.eqv (.bool b) e) (fun i e => dInt e (PyData.eqv (.int i) e) fun j => eqZ i j) (fun x e => PyData.eqv (.str x) e) (fun _ ih e => dLst e false ih) (fun _ ih e => dTup e false ih) (fun _ _ _ => false) (fun l => @List.rec D (fun _ => Bool) true (fun _ _ _ => false) l) (fun _ _ a b l => @List.rec D (fun _ => Bool) false (fun x r _ => @Bool.rec (fun _ => Bool) false (b r) (a x)) l) ⟨⟩ (fun _ _ _ _ => ⟨⟩) (fun _ _ _ _ => ⟨⟩) d
mutual
theorem eqK_eq : ∀ (d e : D), eqK d e = PyData.eqv d e
  | .none, e => by cases e <;> simp only [PyData.eqv] <;> rfl
  | .bool _, e => rfl
  | .int i, e => by
    cases e with
    | int j =>
      show eqZ i j = _
      rw [eqZ_eq]; simp only [PyData.eqv]
      exact (Bool.beq_eq_decide_eq i j).symm
    | _ => rfl
  | .str _, e => rfl
  | .list l, e => by
    cases e with
    | list r => simp only [PyData.eqv]; exact eqK_eq' l r
    | _ => simp only [PyData.eqv]; rfl
  | .tuple l, e => by
    cases e with
    | tuple r => simp only [PyData.eqv]; exact eqK_eq' l r
    | _ => simp only [PyData.eqv]; rfl
  | .dict _, e => by cases e <;> simp only [PyData.eqv] <;> rfl
theorem eqK_eq' : ∀ (l r : List D), @PyData.rec_1 (fun _ => D → Bool) (fun _ => List D → Bool) (fun _ => PUnit) (fun _ => PUnit) (fun e => isNn e) (fun b e => PyData.eqv (.bool b) e) (fun i e => dInt e (PyData.eqv (.int i) e) fun j => eqZ i j) (fun x e => PyData.eqv (.str x) e) (fun _ ih e => dLst e false ih) (fun _ ih e => dTup e false ih) (fun _ _ _ => false) (fun l => @List.rec D (fun _ => Bool) true (fun _ _ _ => false) l) (fun _ _ a b l => @List.rec D (fun _ => Bool) false (fun x r _ => @Bool.rec (fun _ => Bool) false (b r) (a x)) l) ⟨⟩ (fun _ _ _ _ => ⟨⟩) (fun _ _ _ _ => ⟨⟩) l r = PyData.eqvAll l r
  | [], [] => by simp only [PyData.eqvAll]
  | [], _ :: _ => by simp only [PyData.eqvAll]
  | _ :: _, [] => by simp only [PyData.eqvAll]
  | d :: l, e :: r => by
    show @Bool.rec (fun _ => Bool) false _ (eqK d e) = _
    rw [eqK_eq d e]
    simp only [PyData.eqvAll]
    cases PyData.eqv d e with
    | false => rfl
    | true => simp only [Bool.true_and]; exact eqK_eq' l r
end
/-! ### lists -/
noncomputable def lenK {α : Type} (l : List α) : Nat → Nat := @List.rec α (fun _ => Nat → Nat) (fun n => n) (fun _ _ ih n => frcN (.succ n) ih) l
theorem lenK_eq {α : Type} : ∀ (l : List α) (n : Nat), lenK l n = l.length + n
  | [], n => by simp [lenK]
  | a :: l, n => by
    show frcN (n + 1) (lenK l) = _
    rw [frcN_eq, lenK_eq l, List.length_cons]; omega
noncomputable def lenZ {α : Type} (l : List α) : Int := .ofNat (lenK l 0)
theorem lenZ_eq {α : Type} (l : List α) : lenZ l = (l.length : Int) := by unfold lenZ; rw [lenK_eq]; rfl
noncomputable def appK {α : Type} (l r : List α) : List α := @List.rec α (fun _ => List α) r (fun a _ ih => a :: ih) l
theorem appK_eq {α : Type} : ∀ (l r : List α), appK l r = l ++ r
  | [], _ => rfl
  | a :: l, r => by show a :: appK l r = _; rw [appK_eq l r]; rfl
noncomputable def shB (l : List D) : Bool := Nat.ble (lenK l 0) 16777215
theorem shB_eq {l : List D} (h : shB l = true) : shortL l = true := by
  unfold shB at h
  rw [lenK_eq] at h
  have := Nat.le_of_ble_eq_true h
  unfold shortL
  exact decide_eq_true (by omega)
noncomputable def repK {α : Type} (l : List α) (n : Nat) : List α := @Nat.rec (fun _ => List α) [] (fun _ ih => appK l ih) n
theorem repK_eq {α : Type} (l : List α) : ∀ n, repK l n = (List.replicate n l).flatten
  | 0 => rfl
  | n + 1 => by show appK l (repK l n) = _; rw [appK_eq, repK_eq l n, List.replicate_succ, List.flatten_cons]
/-- a whole number, at least 0 -/
noncomputable def natZ (i : Int) : Nat := @Int.rec (fun _ => Nat) (fun n => n) (fun _ => 0) i
theorem natZ_eq (i : Int) : natZ i = i.toNat := by cases i <;> rfl
noncomputable def negZ (i : Int) : Int := subZ 0 i
theorem negZ_eq (i : Int) : negZ i = -i := by unfold negZ; rw [subZ_eq]; omega
noncomputable def absI (i : Int) : Int := .ofNat (absZ i)
theorem absI_eq (i : Int) : absI i = if i < 0 then -i else i := by
  unfold absI; rw [absZ_eq]
  show ((i.natAbs : Nat) : Int) = _
  split <;> omega
/-- ints of a list -/
noncomputable def intsB (l : List D) : Bool := @List.rec D (fun _ => Bool) true (fun a _ ih => dInt a false fun _ => ih) l
noncomputable def intsK (l : List D) : List Int := @List.rec D (fun _ => List Int) [] (fun a _ ih => asI a :: ih) l
theorem intsK_eq : ∀ {l : List D}, intsB l = true → intsOf l = some (intsK l)
  | [], _ => rfl
  | a :: l, h => by
    cases a with
    | int i =>
      have : intsB l = true := h
      simp only [intsOf, intsK_eq this, Option.map_some]
      rfl
    | _ => cases h
noncomputable def boosB (l : List D) : Bool := @List.rec D (fun _ => Bool) true (fun a _ ih => dBool a false fun _ => ih) l
noncomputable def anyK (l : List D) : Bool := @List.rec D (fun _ => Bool) false (fun a _ ih => dBool a false fun b => iteB b true ih) l
noncomputable def allK (l : List D) : Bool := @List.rec D (fun _ => Bool) true (fun a _ ih => dBool a false fun b => iteB b ih false) l
theorem anyK_eq : ∀ {l : List D}, boosB l = true → ∃ bs, boolsOf l = some bs ∧ bs.any id = anyK l ∧ bs.all id = allK l
  | [], _ => ⟨[], rfl, rfl, rfl⟩
  | a :: l, h => by
    cases a with
    | bool b =>
      obtain ⟨bs, h1, h2, h3⟩ := anyK_eq (l := l) h
      refine ⟨b :: bs, by simp only [boolsOf, h1, Option.map_some], ?_, ?_⟩
      · show (b || bs.any id) = iteB b true (anyK l)
        rw [h2]; cases b <;> rfl
      · show (b && bs.all id) = iteB b (allK l) false
        rw [h3]; cases b <;> rfl
    | _ => cases h
noncomputable def sumK (l : List D) : Int → Int := @List.rec D (fun _ => Int → Int) (fun z => z) (fun a _ ih z => frcI (addZ z (asI a)) ih) l
theorem sumK_eq : ∀ (l : List D) (z : Int), sumK l z = z + (intsK l).sum
  | [], z => by show z = z + 0; omega
  | a :: l, z => by
    show frcI (addZ z (asI a)) (sumK l) = z + (asI a + (intsK l).sum)
    rw [frcI_eq, sumK_eq l, addZ_eq]; omega
noncomputable def anyZ (l : List D) (i : Int) : Bool := @List.rec D (fun _ => Bool) false (fun a _ ih => iteB (eqZ (asI a) i) true ih) l
theorem anyZ_eq (i : Int) : ∀ l : List D, anyZ l i = (intsK l).any fun n => decide (n = i)
  | [] => rfl
  | a :: l => by
    show iteB (eqZ (asI a) i) true (anyZ l i) = (decide (asI a = i) || (intsK l).any fun n => decide (n = i))
    rw [eqZ_eq, anyZ_eq i l]
    cases decide (asI a = i) <;> rfl
noncomputable def anyE (l : List D) (d : D) : Bool := @List.rec D (fun _ => Bool) false (fun a _ ih => iteB (eqK a d) true ih) l
theorem anyE_eq (d : D) : ∀ l : List D, anyE l d = l.any fun z => PyData.eqv z d
  | [] => rfl
  | a :: l => by
    show iteB (eqK a d) true (anyE l d) = (PyData.eqv a d || l.any fun z => PyData.eqv z d)
    rw [eqK_eq, anyE_eq d l]
    cases PyData.eqv a d <;> rfl
/-- the greatest, the least -/
noncomputable def maxK (l : List Int) (z : Int) : Int := @List.rec Int (fun _ => Int → Int) (fun z => z) (fun a _ ih z => iteB (leZ z a) (ih a) (ih z)) l z
noncomputable def minK (l : List Int) (z : Int) : Int := @List.rec Int (fun _ => Int → Int) (fun z => z) (fun a _ ih z => iteB (leZ z a) (ih z) (ih a)) l z
theorem maxK_eq : ∀ (l : List Int) (z : Int), maxK l z = l.foldl max z
  | [], z => rfl
  | a :: l, z => by
    show iteB (leZ z a) (maxK l a) (maxK l z) = l.foldl max (max z a)
    rw [leZ_eq]
    by_cases h : z ≤ a
    · rw [decide_eq_true h, Int.max_eq_right h]; exact maxK_eq l a
    · rw [decide_eq_false h, Int.max_eq_left (by omega)]; exact maxK_eq l z
theorem minK_eq : ∀ (l : List Int) (z : Int), minK l z = l.foldl min z
  | [], z => rfl
  | a :: l, z => by
    show iteB (leZ z a) (minK l z) (minK l a) = l.foldl min (min z a)
    rw [leZ_eq]
    by_cases h : z ≤ a
    · rw [decide_eq_true h, Int.min_eq_left h]; exact minK_eq l z
    · rw [decide_eq_false h, Int.min_eq_right (by omega)]; exact minK_eq l a
/-- cut -/
noncomputable def dropK {α : Type} (l : List α) : Nat → List α := @List.rec α (fun _ => Nat → List α) (fun _ => []) (fun a r ih n => @Nat.rec (fun _ => List α) (a :: r) (fun n _ => ih n) n) l
noncomputable def takeK {α : Type} (l : List α) : Nat → List α := @List.rec α (fun _ => Nat → List α) (fun _ => []) (fun a r ih n => @Nat.rec (fun _ => List α) [] (fun n _ => a :: ih n) n) l
theorem dropK_eq {α : Type} : ∀ (l : List α) (n : Nat), dropK l n = l.drop n
  | [], n => by simp [dropK]
  | a :: l, 0 => rfl
  | a :: l, n + 1 => by show dropK l n = _; rw [dropK_eq l n]; rfl
theorem takeK_eq {α : Type} : ∀ (l : List α) (n : Nat), takeK l n = l.take n
  | [], n => by simp [takeK]
  | a :: l, 0 => rfl
  | a :: l, n + 1 => by show a :: takeK l n = _; rw [takeK_eq l n]; rfl
/-- a bound of a slice over a list of n -/
noncomputable def bdK (n : Nat) (i : Int) : Nat := @Int.rec (fun _ => Nat) (fun k => iteB (Nat.ble k n) k n) (fun m => Nat.sub n (.succ m)) i
theorem bdK_eq (n d : Nat) (i : Int) : HT.sIx n d (some i) = bdK n i := by
  cases i with
  | ofNat k =>
    show HT.sIx n d (some (k : Int)) = iteB (Nat.ble k n) k n
    rw [HT.sIx_nat, ble_dec, iteB_eq]
    by_cases h : k ≤ n
    · rw [if_pos (decide_eq_true h)]; omega
    · rw [if_neg (by rw [decide_eq_false h]; decide)]; omega
  | negSucc m =>
    show (if Int.negSucc m < 0 then (Int.negSucc m + (n : Int)).toNat else min (Int.negSucc m).toNat n) = n - (m + 1)
    rw [if_pos (by omega)]; omega
noncomputable def cutK (l : List D) (lo hi : Int) : List D := takeK (dropK l (bdK (lenK l 0) lo)) (Nat.sub (bdK (lenK l 0) hi) (bdK (lenK l 0) lo))
noncomputable def cutLo (l : List D) (lo : Int) : List D := dropK l (bdK (lenK l 0) lo)
noncomputable def cutHi (l : List D) (hi : Int) : List D := takeK l (bdK (lenK l 0) hi)
theorem cutK_eq (l : List D) (lo hi : Int) : cutK l lo hi = Ev.cutD l (some lo) (some hi) := by
  unfold cutK Ev.cutD
  rw [takeK_eq, dropK_eq, lenK_eq, bdK_eq, bdK_eq]; rfl
theorem cutLo_eq (l : List D) (lo : Int) : cutLo l lo = Ev.cutD l (some lo) none := by
  unfold cutLo Ev.cutD
  rw [dropK_eq, lenK_eq, bdK_eq, HT.sIx_none]
  rw [Nat.add_zero, List.take_of_length_le (by rw [List.length_drop]; omega)]
theorem cutHi_eq (l : List D) (hi : Int) : cutHi l hi = Ev.cutD l none (some hi) := by
  unfold cutHi Ev.cutD
  rw [takeK_eq, lenK_eq, bdK_eq, HT.sIx_none, List.drop_zero, Nat.sub_zero]; rfl
noncomputable def revK {α : Type} (l : List α) : List α := @List.rec α (fun _ => List α → List α) (fun r => r) (fun a _ ih r => ih (a :: r)) l []
theorem revK_eq {α : Type} (l : List α) : revK l = l.reverse := by
  have : ∀ (l r : List α), @List.rec α (fun _ => List α → List α) (fun r => r) (fun a _ ih r => ih (a :: r)) l r = l.reverse ++ r := by
    intro l
    induction l with
    | nil => intro r; rfl
    | cons a l ih => intro r; show _ = _; rw [List.reverse_cons, List.append_assoc]; exact ih (a :: r)
  unfold revK
  rw [this, List.append_nil]
noncomputable def insK (x : Int) (l : List Int) : List Int := @List.rec Int (fun _ => List Int) [x] (fun y r ih => iteB (leZ x y) (x :: y :: r) (y :: ih)) l
noncomputable def srtK (l : List Int) : List Int := @List.rec Int (fun _ => List Int) [] (fun y _ ih => insK y ih) l
theorem insK_eq (x : Int) : ∀ l, insK x l = insI x l
  | [] => rfl
  | y :: r => by
    show iteB (leZ x y) (x :: y :: r) (y :: insK x r) = if x ≤ y then x :: y :: r else y :: insI x r
    rw [leZ_eq, insK_eq x r, iteB_eq]
    by_cases h : x ≤ y <;> simp [h]
theorem srtK_eq : ∀ l, srtK l = sortI l
  | [] => rfl
  | y :: r => by show insK y (srtK r) = insI y (sortI r); rw [srtK_eq r, insK_eq]
noncomputable def boxK (l : List Int) : List D := @List.rec Int (fun _ => List D) [] (fun y _ ih => frcI y fun y => PyData.int y :: ih) l
theorem boxK_eq : ∀ l : List Int, boxK l = l.map PyData.int
  | [] => rfl
  | y :: r => by show frcI y (fun y => PyData.int y :: boxK r) = _; rw [frcI_eq, boxK_eq r]; rfl
end Nx

/-! ## Nx2 -/
namespace Nx
open PySem PySem.Spec PyProof.Rows L2 Ev
/-! ### expressions -/
def EvD (Φ : Nat → List D → Option R) (Ψ : Nat → List D → Tp → Option (R × Tp)) (τ : Tp) (ρ : Rho) (e : E) (k : Kd) (d : D) : Prop := ev Φ Ψ ρ τ e = some (⟨k, d⟩, τ)
def EvA (Φ : Nat → List D → Option R) (Ψ : Nat → List D → Tp → Option (R × Tp)) (τ : Tp) (ρ : Rho) (es : List E) (rs : List R) : Prop := evs Φ Ψ ρ τ es = some (rs, τ)
def EvC (Φ : Nat → List D → Option R) (Ψ : Nat → List D → Tp → Option (R × Tp)) (τ : Tp) (ρ : Rho) (es : List E) (b : Bool) : Prop := evAll Φ Ψ ρ τ es = some (b, τ)
section
variable {Φ : Nat → List D → Option R} {Ψ : Nat → List D → Tp → Option (R × Tp)} {N : Nat} {τ : Tp} {ρ : Rho}
theorem ev_to {e : E} {k : Kd} {d d' : D} (h : d = d') (p : EvD Φ Ψ τ ρ e k d) : EvD Φ Ψ τ ρ e k d' := h ▸ p
theorem ev_cst {d : D} : EvD Φ Ψ τ ρ (.cst d) .S d := by unfold EvD; rw [ev]
theorem ev_var {i : Nat} {d : D} (h : ρ[i]? = some (.im d)) : EvD Φ Ψ τ ρ (.var i) .S d := by unfold EvD; rw [ev, h]
theorem ev_varL {i : Nat} {l : List D} (h : ρ[i]? = some (.ow l)) : EvD Φ Ψ τ ρ (.var i) .B (.list l) := by unfold EvD; rw [ev, h]
theorem ev_bin {op : Bo} {a b : E} {k l : Kd} {x y : D} {r : R} (p : EvD Φ Ψ τ ρ a k x) (q : EvD Φ Ψ τ ρ b l y) (h : binD op x y = some r) : EvD Φ Ψ τ ρ (.bin op a b) r.k r.d := by
  unfold EvD at *
  rw [ev, p, Option.bind_some, q, Option.bind_some, h, Option.map_some]
theorem ev_cmp {op : Co} {a b : E} {k l : Kd} {x y : D} {r : Bool} (p : EvD Φ Ψ τ ρ a k x) (q : EvD Φ Ψ τ ρ b l y) (h : cmpD op x y = some r) : EvD Φ Ψ τ ρ (.cmp op a b) .S (.bool r) := by
  unfold EvD at *
  rw [ev, p, Option.bind_some, q, Option.bind_some, h, Option.map_some]
section
variable {a b : E} {k l : Kd} {x y : Int}
theorem ev_add (p : EvD Φ Ψ τ ρ a k (.int x)) (q : EvD Φ Ψ τ ρ b l (.int y)) : EvD Φ Ψ τ ρ (.bin .add a b) .S (.int (addZ x y)) := ev_bin (r := ⟨.S, .int (addZ x y)⟩) p q (by rw [addZ_eq]; rfl)
theorem ev_sub (p : EvD Φ Ψ τ ρ a k (.int x)) (q : EvD Φ Ψ τ ρ b l (.int y)) : EvD Φ Ψ τ ρ (.bin .sub a b) .S (.int (subZ x y)) := ev_bin (r := ⟨.S, .int (subZ x y)⟩) p q (by rw [subZ_eq]; rfl)
theorem ev_mul (h : mulB x y = true) (p : EvD Φ Ψ τ ρ a k (.int x)) (q : EvD Φ Ψ τ ρ b l (.int y)) : EvD Φ Ψ τ ρ (.bin .mul a b) .S (.int (mulZ x y)) := ev_bin (r := ⟨.S, .int (mulZ x y)⟩) p q (by rw [mulZ_eq]; rw [mulB_eq] at h; simp only [binD, h, if_true])
theorem ev_fdiv (h : divB y = true) (p : EvD Φ Ψ τ ρ a k (.int x)) (q : EvD Φ Ψ τ ρ b l (.int y)) : EvD Φ Ψ τ ρ (.bin .fdiv a b) .S (.int (fdivZ x y)) := ev_bin (r := ⟨.S, .int (fdivZ x y)⟩) p q (by rw [fdivZ_eq]; rw [divB_eq] at h; simp only [binD, h, if_true])
theorem ev_mod (h : eqZ y 0 = false) (p : EvD Φ Ψ τ ρ a k (.int x)) (q : EvD Φ Ψ τ ρ b l (.int y)) : EvD Φ Ψ τ ρ (.bin .mod a b) .S (.int (fmodZ x y)) := ev_bin (r := ⟨.S, .int (fmodZ x y)⟩) p q (by
  rw [fmodZ_eq]; rw [eqZ_eq] at h; have := of_decide_eq_false h
  simp only [binD]
  rw [if_pos this])
theorem ev_lt (p : EvD Φ Ψ τ ρ a k (.int x)) (q : EvD Φ Ψ τ ρ b l (.int y)) : EvD Φ Ψ τ ρ (.cmp .lt a b) .S (.bool (ltZ x y)) := ev_cmp p q (by rw [ltZ_eq]; rfl)
theorem ev_le (p : EvD Φ Ψ τ ρ a k (.int x)) (q : EvD Φ Ψ τ ρ b l (.int y)) : EvD Φ Ψ τ ρ (.cmp .le a b) .S (.bool (leZ x y)) := ev_cmp p q (by rw [leZ_eq]; rfl)
theorem ev_gt (p : EvD Φ Ψ τ ρ a k (.int x)) (q : EvD Φ Ψ τ ρ b l (.int y)) : EvD Φ Ψ τ ρ (.cmp .gt a b) .S (.bool (ltZ y x)) := ev_cmp p q (by rw [ltZ_eq]; rfl)
theorem ev_ge (p : EvD Φ Ψ τ ρ a k (.int x)) (q : EvD Φ Ψ τ ρ b l (.int y)) : EvD Φ Ψ τ ρ (.cmp .ge a b) .S (.bool (leZ y x)) := ev_cmp p q (by rw [leZ_eq]; rfl)
theorem ev_eq (p : EvD Φ Ψ τ ρ a k (.int x)) (q : EvD Φ Ψ τ ρ b l (.int y)) : EvD Φ Ψ τ ρ (.cmp .eq a b) .S (.bool (eqZ x y)) := ev_cmp p q (by rw [eqZ_eq]; rfl)
theorem ev_ne (p : EvD Φ Ψ τ ρ a k (.int x)) (q : EvD Φ Ψ τ ρ b l (.int y)) : EvD Φ Ψ τ ρ (.cmp .ne a b) .S (.bool (notB (eqZ x y))) := ev_cmp p q (by rw [notB_eq, eqZ_eq]; rfl)
end
theorem cmp_iff {op : Co} {i j : Int} {r : Bool} (h : cmpD op (.int i) (.int j) = some r) : cmpD op (.int i) (.int j) = some r := h
/-- comparisons of ints, by name -/
noncomputable def cmpZ : Co → Int → Int → Bool
  | .lt, x, y => ltZ x y
  | .le, x, y => leZ x y
  | .gt, x, y => ltZ y x
  | .ge, x, y => leZ y x
  | .eq, x, y => eqZ x y
  | .ne, x, y => notB (eqZ x y)
  | _, _, _ => false
theorem cm_lt {x y : Int} : cmpD .lt (.int x) (.int y) = some (ltZ x y) := by rw [ltZ_eq]; rfl
theorem cm_le {x y : Int} : cmpD .le (.int x) (.int y) = some (leZ x y) := by rw [leZ_eq]; rfl
theorem cm_gt {x y : Int} : cmpD .gt (.int x) (.int y) = some (ltZ y x) := by rw [ltZ_eq]; rfl
theorem cm_ge {x y : Int} : cmpD .ge (.int x) (.int y) = some (leZ y x) := by rw [leZ_eq]; rfl
theorem cm_eq {x y : Int} : cmpD .eq (.int x) (.int y) = some (eqZ x y) := by rw [eqZ_eq]; rfl
theorem cm_ne {x y : Int} : cmpD .ne (.int x) (.int y) = some (notB (eqZ x y)) := by rw [notB_eq, eqZ_eq]; rfl
theorem ev_chn {o1 o2 : Co} {a b c : E} {k l m : Kd} {x y z : D} {r s : Bool} (p : EvD Φ Ψ τ ρ a k x) (q : EvD Φ Ψ τ ρ b l y) (h1 : cmpD o1 x y = some r) (t : r = true → EvD Φ Ψ τ ρ c m z) (h2 : r = true → cmpD o2 y z = some s) : EvD Φ Ψ τ ρ (.chn o1 o2 a b c) .S (.bool (iteB r s false)) := by
  unfold EvD at *
  rw [ev, p, Option.bind_some, q, Option.bind_some, h1, Option.bind_some]
  cases r with
  | false => rfl
  | true =>
    show (ev Φ Ψ ρ τ c).bind _ = _
    rw [t rfl, Option.bind_some, h2 rfl]; rfl
theorem cmpD_eq {x y : D} (h1 : shK x 8 = true) (h2 : shK y 8 = true) : cmpD .eq x y = some (eqK x y) := by
  rw [eqK_eq]
  have e1 := shaped_of h1
  have e2 := shaped_of h2
  unfold cmpD
  split <;> first | (rename_i heq; cases heq; done) | skip
  all_goals first | (simp only [PyData.eqv]; rename_i i j; exact congrArg some (Bool.beq_eq_decide_eq _ _).symm) | (simp only [PyData.eqv]; done) | (rw [e1, e2]; rfl) | skip
  all_goals first | rfl | contradiction
theorem cmpD_ne {x y : D} (h1 : shK x 8 = true) (h2 : shK y 8 = true) : cmpD .ne x y = some (notB (eqK x y)) := by
  rw [eqK_eq, notB_eq]
  have e1 := shaped_of h1
  have e2 := shaped_of h2
  unfold cmpD
  split <;> first | (rename_i heq; cases heq; done) | skip
  all_goals first | (simp only [PyData.eqv]; rename_i i j; exact congrArg some (congrArg _ (Bool.beq_eq_decide_eq _ _).symm)) | (simp only [PyData.eqv]; done) | (rw [e1, e2]; rfl) | skip
  all_goals first | rfl | contradiction
theorem inT {i : Int} {l : List D} (h : intsB l = true) : cmpD .isin (.int i) (.tuple l) = some (anyZ l i) := by
  rw [anyZ_eq]; simp only [cmpD, intsK_eq h, Option.map_some]
theorem ninT {i : Int} {l : List D} (h : intsB l = true) : cmpD .notin (.int i) (.tuple l) = some (notB (anyZ l i)) := by
  rw [anyZ_eq, notB_eq]; simp only [cmpD, intsK_eq h, Option.map_some]
theorem inL {d : D} {l : List D} (h1 : shK d 8 = true) (h2 : shK (.list l) 8 = true) : cmpD .isin d (.list l) = some (anyE l d) := by
  rw [anyE_eq]
  have e1 := shaped_of h1
  have e2 := shaped_of h2
  cases d <;> simp only [cmpD] <;> rw [e1, e2] <;> rfl
theorem ninL {d : D} {l : List D} (h1 : shK d 8 = true) (h2 : shK (.list l) 8 = true) : cmpD .notin d (.list l) = some (notB (anyE l d)) := by
  rw [anyE_eq, notB_eq]
  have e1 := shaped_of h1
  have e2 := shaped_of h2
  cases d <;> simp only [cmpD] <;> rw [e1, e2] <;> rfl
theorem ev_neg {a : E} {k : Kd} {x : Int} (p : EvD Φ Ψ τ ρ a k (.int x)) : EvD Φ Ψ τ ρ (.neg a) .S (.int (negZ x)) := by
  unfold EvD at *
  rw [ev, p, negZ_eq]; rfl
theorem ev_isN {a : E} {k : Kd} {d : D} (p : EvD Φ Ψ τ ρ a k d) : EvD Φ Ψ τ ρ (.isN a) .S (.bool (isNn d)) := by
  unfold EvD at *
  rw [ev, p, isNn_eq]; rfl
theorem ev_notN {a : E} {k : Kd} {d : D} (p : EvD Φ Ψ τ ρ a k d) : EvD Φ Ψ τ ρ (.notN a) .S (.bool (notB (isNn d))) := by
  unfold EvD at *
  rw [ev, p, notB_eq, isNn_eq]; rfl
noncomputable def eqB (a b : Bool) : Bool := iteB a b (notB b)
theorem eqB_eq (a b : Bool) : eqB a b = (a == b) := by cases a <;> cases b <;> rfl
theorem ev_isB {a b : E} {k l : Kd} {x y : Bool} (p : EvD Φ Ψ τ ρ a k (.bool x)) (q : EvD Φ Ψ τ ρ b l (.bool y)) : EvD Φ Ψ τ ρ (.isB a b) .S (.bool (eqB x y)) := by
  unfold EvD at *
  rw [ev, p, Option.bind_some, q, Option.bind_some, eqB_eq]
theorem ev_notB {a b : E} {k l : Kd} {x y : Bool} (p : EvD Φ Ψ τ ρ a k (.bool x)) (q : EvD Φ Ψ τ ρ b l (.bool y)) : EvD Φ Ψ τ ρ (.notB a b) .S (.bool (notB (eqB x y))) := by
  unfold EvD at *
  rw [ev, p, Option.bind_some, q, Option.bind_some, notB_eq, eqB_eq]
theorem ev_eqb {a b : E} {k l : Kd} {x y : Bool} (p : EvD Φ Ψ τ ρ a k (.bool x)) (q : EvD Φ Ψ τ ρ b l (.bool y)) : EvD Φ Ψ τ ρ (.cmp .eq a b) .S (.bool (eqB x y)) := ev_cmp p q (by rw [eqB_eq]; rfl)
theorem ev_neb {a b : E} {k l : Kd} {x y : Bool} (p : EvD Φ Ψ τ ρ a k (.bool x)) (q : EvD Φ Ψ τ ρ b l (.bool y)) : EvD Φ Ψ τ ρ (.cmp .ne a b) .S (.bool (notB (eqB x y))) := ev_cmp p q (by rw [notB_eq, eqB_eq]; rfl)
theorem ev_con {a b : E} {k l : Kd} {x y : Bool} (p : EvD Φ Ψ τ ρ a k (.bool x)) (q : x = true → EvD Φ Ψ τ ρ b l (.bool y)) : EvD Φ Ψ τ ρ (.con a b) .S (.bool (iteB x y false)) := by
  unfold EvD at *
  rw [ev, p, Option.bind_some]
  cases x with
  | false => rfl
  | true => rw [q rfl]; rfl
theorem ev_dis {a b : E} {k l : Kd} {x y : Bool} (p : EvD Φ Ψ τ ρ a k (.bool x)) (q : x = false → EvD Φ Ψ τ ρ b l (.bool y)) : EvD Φ Ψ τ ρ (.dis a b) .S (.bool (iteB x true y)) := by
  unfold EvD at *
  rw [ev, p, Option.bind_some]
  cases x with
  | true => rfl
  | false => rw [q rfl]; rfl
theorem ev_inv {a : E} {k : Kd} {x : Bool} (p : EvD Φ Ψ τ ρ a k (.bool x)) : EvD Φ Ψ τ ρ (.inv a) .S (.bool (notB x)) := by
  unfold EvD at *
  rw [ev, p, Option.bind_some, notB_eq]
theorem ev_tru {a : E} {k : Kd} {d : D} {b : Bool} (p : EvD Φ Ψ τ ρ a k d) (h : truD d = some b) : EvD Φ Ψ τ ρ (.tru a) .S (.bool b) := by
  unfold EvD at *
  rw [ev, p, Option.bind_some, h, Option.map_some]
noncomputable def neB {α : Type} (l : List α) : Bool := @List.rec α (fun _ => Bool) false (fun _ _ _ => true) l
theorem tr_I {i : Int} : truD (.int i) = some (notB (eqZ i 0)) := by rw [notB_eq, eqZ_eq]; rfl
theorem tr_B {i : Bool} : truD (.bool i) = some i := rfl
theorem tr_T {l : List D} : truD (.tuple l) = some (neB l) := by cases l <;> rfl
theorem tr_L {l : List D} : truD (.list l) = some (neB l) := by cases l <;> rfl
/-- truth of any datum -/
noncomputable def truOk (d : D) : Bool := @PyData.rec (fun _ => Bool) (fun _ => PUnit) (fun _ => PUnit) (fun _ => PUnit) true (fun _ => true) (fun _ => true) (fun _ => false) (fun _ _ => true) (fun _ _ => true) (fun _ _ => false) ⟨⟩ (fun _ _ _ _ => ⟨⟩) ⟨⟩ (fun _ _ _ _ => ⟨⟩) (fun _ _ _ _ => ⟨⟩) d
noncomputable def truK (d : D) : Bool := @PyData.rec (fun _ => Bool) (fun _ => PUnit) (fun _ => PUnit) (fun _ => PUnit) false (fun b => b) (fun i => notB (eqZ i 0)) (fun _ => false) (fun l _ => neB l) (fun l _ => neB l) (fun _ _ => false) ⟨⟩ (fun _ _ _ _ => ⟨⟩) ⟨⟩ (fun _ _ _ _ => ⟨⟩) (fun _ _ _ _ => ⟨⟩) d
theorem tr_D {d : D} (h : truOk d = true) : truD d = some (truK d) := by
  cases d <;> first | rfl | exact tr_I | exact tr_T | exact tr_L | cases h
theorem ev_ite {c a b : E} {k m : Kd} {t : Bool} {x y z : D} (p : EvD Φ Ψ τ ρ c k (.bool t)) (q : t = true → EvD Φ Ψ τ ρ a m x) (r : t = false → EvD Φ Ψ τ ρ b m y) (h : z = iteB t x y) : EvD Φ Ψ τ ρ (.ite c a b) m z := by
  unfold EvD at *
  rw [ev, p, Option.bind_some]
  subst h
  cases t with
  | true => exact q rfl
  | false => exact r rfl
theorem it_I {t : Bool} {x y : Int} : PyData.int (iteB t x y) = iteB t (.int x) (.int y) := by cases t <;> rfl
theorem it_B {t : Bool} {x y : Bool} : PyData.bool (iteB t x y) = iteB t (.bool x) (.bool y) := by cases t <;> rfl
theorem it_T {t : Bool} {x y : List D} : PyData.tuple (iteB t x y) = iteB t (.tuple x) (.tuple y) := by cases t <;> rfl
theorem it_L {t : Bool} {x y : List D} : PyData.list (iteB t x y) = iteB t (.list x) (.list y) := by cases t <;> rfl
theorem ea_nil : EvA Φ Ψ τ ρ [] [] := by unfold EvA; rw [evs]
theorem ea_cons {e : E} {es : List E} {k : Kd} {d : D} {rs : List R} (p : EvD Φ Ψ τ ρ e k d) (q : EvA Φ Ψ τ ρ es rs) : EvA Φ Ψ τ ρ (e :: es) (⟨k, d⟩ :: rs) := by
  unfold EvD at p
  unfold EvA at *
  rw [evs, p, Option.bind_some, q, Option.map_some]
theorem ec_nil : EvC Φ Ψ τ ρ [] true := by unfold EvC; rw [evAll]
theorem ec_cons {e : E} {es : List E} {k : Kd} {a b : Bool} (p : EvD Φ Ψ τ ρ e k (.bool a)) (q : a = true → EvC Φ Ψ τ ρ es b) : EvC Φ Ψ τ ρ (e :: es) (iteB a b false) := by
  unfold EvD at p
  unfold EvC at *
  rw [evAll, p, Option.bind_some]
  cases a with
  | false => rfl
  | true => exact q rfl
theorem ec_one {e : E} {k : Kd} {a : Bool} (p : EvD Φ Ψ τ ρ e k (.bool a)) : EvC Φ Ψ τ ρ [e] a := by
  have := ec_cons p (b := true) fun _ => ec_nil
  cases a <;> exact this
theorem ev_tup {es : List E} {rs : List R} {ds : List D} (p : EvA Φ Ψ τ ρ es rs) (h : rs.mapM stb = some ds) (hs : shortL ds = true) : EvD Φ Ψ τ ρ (.tup es) .S (.tuple ds) := by
  unfold EvA at p
  unfold EvD
  rw [ev, p, Option.bind_some, h, Option.bind_some, if_pos hs]
theorem ev_lst {es : List E} {rs : List R} {ds : List D} (p : EvA Φ Ψ τ ρ es rs) (h : rs.mapM stb = some ds) (hs : shortL ds = true) : EvD Φ Ψ τ ρ (.lst es) .F (.list ds) := by
  unfold EvA at p
  unfold EvD
  rw [ev, p, Option.bind_some, h, Option.bind_some, if_pos hs]
theorem ev_idx {a b : E} {k l : Kd} {x : D} {i : Int} {d : D} (p : EvD Φ Ψ τ ρ a k x) (q : EvD Φ Ψ τ ρ b l (.int i)) (h : idxD x (.int i) = some ⟨.S, d⟩) : EvD Φ Ψ τ ρ (.idx a b) .S d := by
  unfold EvD at *
  rw [ev, p, Option.bind_some, q, Option.bind_some, h, Option.map_some]
theorem ix_T {l : List D} {i : Int} {d : D} (h : ixK l i = some d) : idxD (.tuple l) (.int i) = some ⟨.S, d⟩ := by
  rw [ixK_eq] at h; simp only [idxD, h, Option.map_some]
theorem ix_L {l : List D} {i : Int} {d : D} (h : ixK l i = some d) : idxD (.list l) (.int i) = some ⟨.S, d⟩ := by
  rw [ixK_eq] at h; simp only [idxD, h, Option.map_some]
/-- items of a tuple or a list -/
noncomputable def dSeq {β : Type} (d : D) (g : β) (f : List D → β) : β := @PyData.rec (fun _ => β) (fun _ => PUnit) (fun _ => PUnit) (fun _ => PUnit) g (fun _ => g) (fun _ => g) (fun _ => g) (fun l _ => f l) (fun l _ => f l) (fun _ _ => g) ⟨⟩ (fun _ _ _ _ => ⟨⟩) ⟨⟩ (fun _ _ _ _ => ⟨⟩) (fun _ _ _ _ => ⟨⟩) d
noncomputable def isQ (d : D) : Bool := dSeq d false fun _ => true
noncomputable def asQ (d : D) : List D := dSeq d [] fun l => l
theorem isQ_eq {d : D} (h : isQ d = true) : d = .tuple (asQ d) ∨ d = .list (asQ d) := by cases d <;> first | exact .inl rfl | exact .inr rfl | cases h
noncomputable def ixD (d : D) (i : Int) : Option D := dSeq d none fun l => ixK l i
theorem ix_D {x : D} {i : Int} {d : D} (h : ixD x i = some d) : idxD x (.int i) = some ⟨.S, d⟩ := by
  cases x <;> first | exact ix_T h | exact ix_L h | cases h
theorem ev_slc {a b c : E} {k l m : Kd} {x : D} {i j : Int} {r : R} (p : EvD Φ Ψ τ ρ a k x) (q : EvD Φ Ψ τ ρ b l (.int i)) (t : EvD Φ Ψ τ ρ c m (.int j)) (h : slcD x (some i) (some j) = some r) : EvD Φ Ψ τ ρ (.slc a b c) r.k r.d := by
  unfold EvD at *
  rw [ev, p, Option.bind_some, q, Option.bind_some, t, Option.bind_some]
  simp only [intOf, Option.bind_some, h, Option.map_some]
theorem ev_slcL {a b : E} {k l : Kd} {x : D} {i : Int} {r : R} (p : EvD Φ Ψ τ ρ a k x) (q : EvD Φ Ψ τ ρ b l (.int i)) (h : slcD x (some i) none = some r) : EvD Φ Ψ τ ρ (.slcL a b) r.k r.d := by
  unfold EvD at *
  rw [ev, p, Option.bind_some, q, Option.bind_some]
  simp only [intOf, Option.bind_some, h, Option.map_some]
theorem ev_slcH {a b : E} {k l : Kd} {x : D} {i : Int} {r : R} (p : EvD Φ Ψ τ ρ a k x) (q : EvD Φ Ψ τ ρ b l (.int i)) (h : slcD x none (some i) = some r) : EvD Φ Ψ τ ρ (.slcH a b) r.k r.d := by
  unfold EvD at *
  rw [ev, p, Option.bind_some, q, Option.bind_some]
  simp only [intOf, Option.bind_some, h, Option.map_some]
theorem ev_slcA {a : E} {k : Kd} {x : D} {r : R} (p : EvD Φ Ψ τ ρ a k x) (h : slcD x none none = some r) : EvD Φ Ψ τ ρ (.slcA a) r.k r.d := by
  unfold EvD at *
  rw [ev, p, Option.bind_some, h, Option.map_some]
theorem ev_rev {a : E} {k : Kd} {x : D} {r : R} (p : EvD Φ Ψ τ ρ a k x) (h : revD x = some r) : EvD Φ Ψ τ ρ (.rev a) r.k r.d := by
  unfold EvD at *
  rw [ev, p, Option.bind_some, h, Option.map_some]
theorem sl_T {l : List D} {i j : Int} : slcD (.tuple l) (some i) (some j) = some ⟨.S, .tuple (cutK l i j)⟩ := by rw [cutK_eq]; rfl
theorem sl_L {l : List D} {i j : Int} : slcD (.list l) (some i) (some j) = some ⟨.F, .list (cutK l i j)⟩ := by rw [cutK_eq]; rfl
theorem slL_T {l : List D} {i : Int} : slcD (.tuple l) (some i) none = some ⟨.S, .tuple (cutLo l i)⟩ := by rw [cutLo_eq]; rfl
theorem slL_L {l : List D} {i : Int} : slcD (.list l) (some i) none = some ⟨.F, .list (cutLo l i)⟩ := by rw [cutLo_eq]; rfl
theorem slH_T {l : List D} {i : Int} : slcD (.tuple l) none (some i) = some ⟨.S, .tuple (cutHi l i)⟩ := by rw [cutHi_eq]; rfl
theorem slH_L {l : List D} {i : Int} : slcD (.list l) none (some i) = some ⟨.F, .list (cutHi l i)⟩ := by rw [cutHi_eq]; rfl
theorem cutA_eq (l : List D) : Ev.cutD l none none = l := by
  unfold Ev.cutD
  rw [HT.sIx_none, HT.sIx_none, List.drop_zero, Nat.sub_zero, List.take_length]
theorem slA_T {l : List D} : slcD (.tuple l) none none = some ⟨.S, .tuple l⟩ := by show some (⟨.S, .tuple (Ev.cutD l none none)⟩ : R) = _; rw [cutA_eq]
theorem slA_L {l : List D} : slcD (.list l) none none = some ⟨.F, .list l⟩ := by show some (⟨.F, .list (Ev.cutD l none none)⟩ : R) = _; rw [cutA_eq]
theorem rv_T {l : List D} : revD (.tuple l) = some ⟨.S, .tuple (revK l)⟩ := by rw [revK_eq]; rfl
theorem rv_L {l : List D} : revD (.list l) = some ⟨.F, .list (revK l)⟩ := by rw [revK_eq]; rfl
theorem bi_catT {l r : List D} (h : shB (appK l r) = true) : binD .add (.tuple l) (.tuple r) = some ⟨.S, .tuple (appK l r)⟩ := by
  have := shB_eq h
  rw [appK_eq] at *
  simp only [binD, this, if_true]
theorem bi_catL {l r : List D} (h : shB (appK l r) = true) : binD .add (.list l) (.list r) = some ⟨.F, .list (appK l r)⟩ := by
  have := shB_eq h
  rw [appK_eq] at *
  simp only [binD, this, if_true]
noncomputable def repB (l : List D) (k : Int) : Bool := andB (Nat.ble (absZ k) 1000) (Nat.ble (lenK l 0) 1000)
theorem repB_eq {l : List D} {k : Int} (h : repB l k = true) : k.natAbs ≤ 1000 ∧ l.length ≤ 1000 := by
  unfold repB at h
  have h1 := Nat.le_of_ble_eq_true (andB_l h)
  have h2 := Nat.le_of_ble_eq_true (andB_r h)
  rw [absZ_eq] at h1
  rw [lenK_eq] at h2
  omega
theorem bi_repT {l : List D} {k : Int} (h : repB l k = true) : binD .mul (.tuple l) (.int k) = some ⟨.S, .tuple (repK l (natZ k))⟩ := by
  have := repB_eq h
  rw [repK_eq, natZ_eq]
  have e : (decide ((-4611686018427387904 : Int) ≤ k) && decide (k ≤ 1000) && decide (l.length ≤ 1000)) = true := by
    simp only [Bool.and_eq_true, decide_eq_true_eq]; omega
  simp only [binD, e, if_true]
theorem p63 : (2 : Int) ^ 63 = 9223372036854775808 := by
  rw [show (2 : Int) = ((2 : Nat) : Int) from rfl, ← Int.natCast_pow]; rfl
theorem bi_repL {l : List D} {k : Int} (h : repB l k = true) : binD .mul (.list l) (.int k) = some ⟨.F, .list (repK l (natZ k))⟩ := by
  have := repB_eq h
  rw [repK_eq, natZ_eq]
  have hm : l.length * k.toNat ≤ 1000 * 1000 := Nat.mul_le_mul (by omega) (by omega)
  have e : (decide (-(2 ^ 63) ≤ k) && decide (k < 2 ^ 63) && decide (l.length * k.toNat < 16777216)) = true := by
    rw [p63]
    simp only [Bool.and_eq_true, decide_eq_true_eq]; omega
  simp only [binD, e, if_true]
theorem ev_call {n : Nat} {es : List E} {rs : List R} {r : R} (p : EvA Φ Ψ τ ρ es rs) (h : Φ n (rs.map (·.d)) = some r) (hc : clean r = true) : EvD Φ Ψ τ ρ (.call n es) r.k r.d := by
  unfold EvA at p
  unfold EvD
  rw [ev, p, Option.bind_some, h, Option.bind_some, if_pos hc]
theorem cl_D {d : D} (h : nlK d = true) : clean ⟨.S, d⟩ = true := nlK_of d h
theorem cl_L {l : List D} (h : nlL l = true) : clean ⟨.F, .list l⟩ = true := nlL_of l h
theorem ev_blt {b : Bl} {es : List E} {rs : List R} {r : R} (p : EvA Φ Ψ τ ρ es rs) (h : bltD b (rs.map (·.d)) = some r) : EvD Φ Ψ τ ρ (.blt b es) r.k r.d := by
  unfold EvA at p
  unfold EvD
  rw [ev, p, Option.bind_some, h, Option.map_some]
theorem bl_lenT {l : List D} : bltD .len [.tuple l] = some ⟨.S, .int (lenZ l)⟩ := by rw [lenZ_eq]; rfl
theorem bl_lenL {l : List D} : bltD .len [.list l] = some ⟨.S, .int (lenZ l)⟩ := by rw [lenZ_eq]; rfl
theorem bl_lenD {d : D} (h : isQ d = true) : bltD .len [d] = some ⟨.S, .int (lenZ (asQ d))⟩ := by
  rcases isQ_eq h with e | e
  · rw [e]; exact bl_lenT
  · rw [e]; exact bl_lenL
theorem bl_abs {i : Int} : bltD .abs [.int i] = some ⟨.S, .int (absI i)⟩ := by rw [absI_eq]; rfl
noncomputable def min2 (i j : Int) : Int := iteB (ltZ j i) j i
noncomputable def max2 (i j : Int) : Int := iteB (ltZ i j) j i
theorem bl_min {i j : Int} : bltD .min [.int i, .int j] = some ⟨.S, .int (min2 i j)⟩ := by unfold min2; rw [iteB_eq, ltZ_eq]; simp only [bltD, decide_eq_true_eq]
theorem bl_max {i j : Int} : bltD .max [.int i, .int j] = some ⟨.S, .int (max2 i j)⟩ := by unfold max2; rw [iteB_eq, ltZ_eq]; simp only [bltD, decide_eq_true_eq, gt_iff_lt]
theorem bl_intI {i : Int} : bltD .int [.int i] = some ⟨.S, .int i⟩ := rfl
theorem bl_intB {i : Bool} : bltD .int [.bool i] = some ⟨.S, .int (iteB i 1 0)⟩ := by cases i <;> rfl
theorem bl_tupL {l : List D} : bltD .tuple [.list l] = some ⟨.S, .tuple l⟩ := rfl
theorem bl_tupT {l : List D} : bltD .tuple [.tuple l] = some ⟨.S, .tuple l⟩ := rfl
theorem bl_lstL {l : List D} : bltD .list [.list l] = some ⟨.F, .list l⟩ := rfl
theorem bl_lstT {l : List D} : bltD .list [.tuple l] = some ⟨.F, .list l⟩ := rfl
theorem bl_tupD {d : D} (h : isQ d = true) : bltD .tuple [d] = some ⟨.S, .tuple (asQ d)⟩ := by
  rcases isQ_eq h with e | e <;> (rw [e]; rfl)
theorem bl_lstD {d : D} (h : isQ d = true) : bltD .list [d] = some ⟨.F, .list (asQ d)⟩ := by
  rcases isQ_eq h with e | e <;> (rw [e]; rfl)
theorem bl_sum {l : List D} (h : intsB l = true) : bltD .sum [.list l] = some ⟨.S, .int (sumK l 0)⟩ := by
  rw [sumK_eq, Int.zero_add]; simp only [bltD, intsK_eq h, Option.map_some]
theorem bl_any {l : List D} (h : boosB l = true) : bltD .any [.list l] = some ⟨.S, .bool (anyK l)⟩ := by
  obtain ⟨bs, h1, h2, h3⟩ := anyK_eq h
  simp only [bltD, h1, Option.map_some, h2]
theorem bl_all {l : List D} (h : boosB l = true) : bltD .all [.list l] = some ⟨.S, .bool (allK l)⟩ := by
  obtain ⟨bs, h1, h2, h3⟩ := anyK_eq h
  simp only [bltD, h1, Option.map_some, h3]
theorem bl_srt {l : List D} (h : intsB l = true) : bltD .sorted [.list l] = some ⟨.F, .list (boxK (srtK (intsK l)))⟩ := by
  rw [boxK_eq, srtK_eq]; simp only [bltD, intsK_eq h, Option.map_some]
noncomputable def topK (l : List D) : Int := @List.rec D (fun _ => Int) 0 (fun a r _ => maxK (intsK r) (asI a)) l
noncomputable def lowK (l : List D) : Int := @List.rec D (fun _ => Int) 0 (fun a r _ => minK (intsK r) (asI a)) l
theorem maxL_eq {l : List D} (h : andB (neB l) (intsB l) = true) : (intsOf l).bind maxL = some (topK l) ∧ (intsOf l).bind minL = some (lowK l) := by
  rw [intsK_eq (andB_r h), Option.bind_some, Option.bind_some]
  cases l with
  | nil => cases h
  | cons a r =>
    show some ((intsK r).foldl max (asI a)) = some (maxK (intsK r) (asI a)) ∧ some ((intsK r).foldl min (asI a)) = some (minK (intsK r) (asI a))
    rw [maxK_eq, minK_eq]
    exact ⟨rfl, rfl⟩
theorem bl_topL {l : List D} (h : andB (neB l) (intsB l) = true) : bltD .max [.list l] = some ⟨.S, .int (topK l)⟩ := by
  have := (maxL_eq h).1
  simp only [bltD]
  cases e : intsOf l with
  | none => rw [e] at this; cases this
  | some ns => rw [e] at this; simp only [Option.bind_some] at this ⊢; rw [this, Option.map_some]
theorem bl_topT {l : List D} (h : andB (neB l) (intsB l) = true) : bltD .max [.tuple l] = some ⟨.S, .int (topK l)⟩ := bl_topL h
theorem bl_lowL {l : List D} (h : andB (neB l) (intsB l) = true) : bltD .min [.list l] = some ⟨.S, .int (lowK l)⟩ := by
  have := (maxL_eq h).2
  simp only [bltD]
  cases e : intsOf l with
  | none => rw [e] at this; cases this
  | some ns => rw [e] at this; simp only [Option.bind_some] at this ⊢; rw [this, Option.map_some]
theorem bl_lowT {l : List D} (h : andB (neB l) (intsB l) = true) : bltD .min [.tuple l] = some ⟨.S, .int (lowK l)⟩ := bl_lowL h
noncomputable def bitsK (i : Int) : Int := iteB (Nat.beq (absZ i) 0) 0 (.ofNat (.succ (Nat.log2 (absZ i))))
theorem bl_bits {i : Int} : bltD .bitlen [.int i] = some ⟨.S, .int (bitsK i)⟩ := by
  unfold bitsK
  rw [iteB_eq, absZ_eq, beq_dec]
  simp only [bltD]
  congr 2
  unfold Builtin.Int.intBits
  by_cases h : i = 0
  · subst h; rfl
  · simp only [h, if_false, show ¬ i.natAbs = 0 by omega, decide_false, Bool.false_eq_true]
    first | rfl | simp [h]
noncomputable def nubK (l : List Int) : List Int := RZ.nubI l
theorem bl_set {l : List D} (h : andB (intsB l) (Nat.ble (lenK l 0) 4000) = true) : bltD .setlen [.tuple l] = some ⟨.S, .int (.ofNat (nubK (intsK l)).length)⟩ := by
  have h1 := intsK_eq (andB_l h)
  have h2 := Nat.le_of_ble_eq_true (andB_r h)
  rw [lenK_eq] at h2
  have h3 : (intsK l).length = l.length := by
    clear h h1 h2
    induction l with
    | nil => rfl
    | cons a l ih => show (intsK l).length + 1 = _; rw [ih]; rfl
  simp only [bltD, h1, Option.bind_some]
  rw [if_pos (decide_eq_true (by omega))]
  rfl
end
end Nx

/-! ## Nx3 -/
namespace Nx
open PySem PySem.Spec PyProof.Rows L2 Ev
/-! ### what a for walks -/
noncomputable def rfB (i j : Int) : Bool := andB (Nat.ble (absZ i) 4611686018427387903) (Nat.ble (absZ j) 4611686018427387903)
theorem p62 : (2 : Int) ^ 62 = 4611686018427387904 := by
  rw [show (2 : Int) = ((2 : Nat) : Int) from rfl, ← Int.natCast_pow]; rfl
theorem rfB_eq {i j : Int} (h : rfB i j = true) : rngFits i j = true := by
  unfold rfB at h
  have h1 := Nat.le_of_ble_eq_true (andB_l h)
  have h2 := Nat.le_of_ble_eq_true (andB_r h)
  rw [absZ_eq] at h1 h2
  unfold rngFits
  rw [p62]
  simp only [Bool.and_eq_true, decide_eq_true_eq]
  omega
theorem it_1 {j : Int} (h : rfB 0 j = true) : itD 1 [.int j] = some (rngD 0 (natZ j)) := by
  have := rfB_eq h
  rw [natZ_eq]; simp only [itD, this, if_true]
theorem it_2 {i j : Int} (h : rfB i j = true) : itD 2 [.int i, .int j] = some (rngD i (natZ (subZ j i))) := by
  have := rfB_eq h
  rw [natZ_eq, subZ_eq]; simp only [itD, this, if_true]
theorem it_4 {i j : Int} (h : rfB i j = true) : itD 4 [.int i, .int j, .int (-1)] = some (rngC i (-1) (natZ (subZ i j))) := by
  have := rfB_eq h
  rw [natZ_eq, subZ_eq]; simp only [itD, this, decide_true, Bool.and_self, if_true]
theorem it_0T {l : List D} : itD 0 [.tuple l] = some l := rfl
theorem it_0L {l : List D} : itD 0 [.list l] = some l := rfl
theorem it_0D {d : D} (h : isQ d = true) : itD 0 [d] = some (asQ d) := by
  rcases isQ_eq h with e | e <;> (rw [e]; rfl)
theorem it_3T {l : List D} : itD 3 [.tuple l] = some (enumD 0 l) := rfl
theorem it_3L {l : List D} : itD 3 [.list l] = some (enumD 0 l) := rfl
theorem it_3D {d : D} (h : isQ d = true) : itD 3 [d] = some (enumD 0 (asQ d)) := by
  rcases isQ_eq h with e | e <;> (rw [e]; rfl)
/-! ### pairs -/
noncomputable def dT2 {β : Type} (d : D) (g : β) (f : D → D → β) : β := dTup d g fun l => @List.rec D (fun _ => β) g (fun a l _ => @List.rec D (fun _ => β) g (fun b l _ => @List.rec D (fun _ => β) (f a b) (fun _ _ _ => g) l) l) l
noncomputable def dT3 {β : Type} (d : D) (g : β) (f : D → D → D → β) : β := dTup d g fun l => @List.rec D (fun _ => β) g (fun a l _ => @List.rec D (fun _ => β) g (fun b l _ => @List.rec D (fun _ => β) g (fun c l _ => @List.rec D (fun _ => β) (f a b c) (fun _ _ _ => g) l) l) l) l
noncomputable def dT4 {β : Type} (d : D) (g : β) (f : D → D → D → D → β) : β := dTup d g fun l => @List.rec D (fun _ => β) g (fun a l _ => @List.rec D (fun _ => β) g (fun b l _ => @List.rec D (fun _ => β) g (fun c l _ => @List.rec D (fun _ => β) g (fun e l _ => @List.rec D (fun _ => β) (f a b c e) (fun _ _ _ => g) l) l) l) l) l
noncomputable def is2 (d : D) : Bool := dT2 d false fun _ _ => true
noncomputable def x20 (d : D) : D := dT2 d .none fun a _ => a
noncomputable def x21 (d : D) : D := dT2 d .none fun _ b => b
noncomputable def is3 (d : D) : Bool := dT3 d false fun _ _ _ => true
noncomputable def x30 (d : D) : D := dT3 d .none fun a _ _ => a
noncomputable def x31 (d : D) : D := dT3 d .none fun _ b _ => b
noncomputable def x32 (d : D) : D := dT3 d .none fun _ _ c => c
theorem is2_eq {d : D} (h : is2 d = true) : d = .tuple [x20 d, x21 d] := by
  cases d with
  | tuple l => match l, h with
    | [a, b], _ => rfl
  | _ => cases h
theorem is3_eq {d : D} (h : is3 d = true) : d = .tuple [x30 d, x31 d, x32 d] := by
  cases d with
  | tuple l => match l, h with
    | [a, b, c], _ => rfl
  | _ => cases h
theorem tg_1 {ρ ρ' : Rho} {i : Nat} {d : D} (e : ρ.set i (.im d) = ρ') : tgD ρ (.nm i) d = some ρ' := by rw [← e]; rfl
theorem tg_2 {ρ ρ' : Rho} {i j : Nat} {d : D} (h : is2 d = true) (e : (ρ.set i (.im (x20 d))).set j (.im (x21 d)) = ρ') : tgD ρ (.tu [i, j]) d = some ρ' := by rw [← e, is2_eq h]; rfl
theorem tg_3 {ρ ρ' : Rho} {i j k : Nat} {d : D} (h : is3 d = true) (e : ((ρ.set i (.im (x30 d))).set j (.im (x31 d))).set k (.im (x32 d)) = ρ') : tgD ρ (.tu [i, j, k]) d = some ρ' := by rw [← e, is3_eq h]; rfl
/-! ### comprehensions -/
noncomputable def mapR (T : Int → D) (n : Nat) : Int → List D := @Nat.rec (fun _ => Int → List D) (fun _ => []) (fun _ ih i => frcI i fun i => T i :: ih (addZ i 1)) n
noncomputable def fltR (C : Int → Bool) (T : Int → D) (n : Nat) : Int → List D := @Nat.rec (fun _ => Int → List D) (fun _ => []) (fun _ ih i => frcI i fun i => iteB (C i) (T i :: ih (addZ i 1)) (ih (addZ i 1))) n
noncomputable def allR (G : Int → Bool) (n : Nat) : Int → Bool := @Nat.rec (fun _ => Int → Bool) (fun _ => true) (fun _ ih i => frcI i fun i => iteB (G i) (ih (addZ i 1)) false) n
noncomputable def mapQ (T : D → D) (l : List D) : List D := @List.rec D (fun _ => List D) [] (fun d _ ih => T d :: ih) l
noncomputable def fltQ (C : D → Bool) (T : D → D) (l : List D) : List D := @List.rec D (fun _ => List D) [] (fun d _ ih => iteB (C d) (T d :: ih) ih) l
noncomputable def allQ (G : D → Bool) (l : List D) : Bool := @List.rec D (fun _ => Bool) true (fun d _ ih => iteB (G d) ih false) l
theorem allR_s {G : Int → Bool} {n : Nat} {i : Int} (h : allR G (n + 1) i = true) : G i = true ∧ allR G n (addZ i 1) = true := by
  have h' : frcI i (fun i => iteB (G i) (allR G n (addZ i 1)) false) = true := h
  rw [frcI_eq] at h'
  cases hg : G i with
  | false => rw [hg] at h'; cases h'
  | true => rw [hg] at h'; exact ⟨rfl, h'⟩
theorem allQ_s {G : D → Bool} {d : D} {l : List D} (h : allQ G (d :: l) = true) : G d = true ∧ allQ G l = true := by
  have h' : iteB (G d) (allQ G l) false = true := h
  cases hg : G d with
  | false => rw [hg] at h'; cases h'
  | true => rw [hg] at h'; exact ⟨rfl, h'⟩
section
variable {Φ : Nat → List D → Option R} {Ψ : Nat → List D → Tp → Option (R × Tp)} {N : Nat} {τ : Tp} {ρ : Rho}
theorem cl_R {elt : E} {cond : List E} {v : Nat} {C G : Int → Bool} {T : Int → D} {k : Kd} {ρ0 : Rho} (hk : ∀ d, stb ⟨k, d⟩ = some d)
    (hc : ∀ i, G i = true → EvC Φ Ψ τ (ρ0.set v (.im (.int i))) cond (C i)) (he : ∀ i, G i = true → C i = true → EvD Φ Ψ τ (ρ0.set v (.im (.int i))) elt k (T i)) :
    ∀ (n : Nat) (i : Int), allR G n i = true → compL (fun ρ τ => ev Φ Ψ ρ τ elt) (fun ρ τ => evAll Φ Ψ ρ τ cond) ρ0 (.nm v) (rngD i n) τ = some (fltR C T n i, τ)
  | 0, i, _ => rfl
  | n + 1, i, h => by
    obtain ⟨h1, h2⟩ := allR_s h
    have ih := cl_R hk hc he n (addZ i 1) h2
    have e : fltR C T (n + 1) i = frcI i fun i => iteB (C i) (T i :: fltR C T n (addZ i 1)) (fltR C T n (addZ i 1)) := rfl
    rw [e, frcI_eq]
    rw [addZ_eq] at ih ⊢
    have hci := hc i h1
    unfold EvC at hci
    simp only [rngD, compL, tgD, Option.bind_some, hci]
    cases hC : C i with
    | false =>
      simp only [Bool.false_eq_true, if_false]
      rw [ih]; rfl
    | true =>
      have hei := he i h1 hC
      unfold EvD at hei
      simp only [if_true, hei, Option.bind_some, hk, ih, Option.map_some]
      rfl
theorem len_fltR (C : Int → Bool) (T : Int → D) : ∀ (n : Nat) (i : Int), (fltR C T n i).length ≤ n
  | 0, _ => Nat.le_refl _
  | n + 1, i => by
    have e : fltR C T (n + 1) i = frcI i fun i => iteB (C i) (T i :: fltR C T n (addZ i 1)) (fltR C T n (addZ i 1)) := rfl
    rw [e, frcI_eq]
    have := len_fltR C T n (addZ i 1)
    cases C i
    · show (fltR C T n (addZ i 1)).length ≤ n + 1
      omega
    · show (fltR C T n (addZ i 1)).length + 1 ≤ n + 1
      omega
theorem mapR_eq (T : Int → D) : ∀ (n : Nat) (i : Int), mapR T n i = fltR (fun _ => true) T n i
  | 0, _ => rfl
  | n + 1, i => by
    show frcI i (fun i => T i :: mapR T n (addZ i 1)) = frcI i (fun i => T i :: fltR (fun _ => true) T n (addZ i 1))
    rw [frcI_eq, frcI_eq, mapR_eq T n]
theorem ev_compR {elt : E} {cond its : List E} {v kk : Nat} {C G : Int → Bool} {T : Int → D} {k : Kd} {rs : List R} {n : Nat} {i : Int} {ρ0 : Rho} {ρ' : Int → Rho} (ha : EvA Φ Ψ τ ρ its rs) (hi : itD kk (rs.map (·.d)) = some (rngD i n)) (hn : Nat.ble n 16777215 = true) (hG : allR G n i = true) (hw : wipeR ρ [v] = ρ0) (hr : ∀ i, ρ0.set v (.im (.int i)) = ρ' i) (hk : ∀ d, stb ⟨k, d⟩ = some d)
    (hc : ∀ i, G i = true → EvC Φ Ψ τ (ρ' i) cond (C i)) (he : ∀ i, G i = true → C i = true → EvD Φ Ψ τ (ρ' i) elt k (T i)) : EvD Φ Ψ τ ρ (.comp elt (.nm v) kk its cond) .F (.list (fltR C T n i)) := by
  unfold EvA at ha
  unfold EvD
  have h := cl_R (Φ := Φ) (Ψ := Ψ) (τ := τ) (elt := elt) (cond := cond) (v := v) (ρ0 := ρ0) hk (fun i h => by rw [hr]; exact hc i h) (fun i h h' => by rw [hr]; exact he i h h') n i hG
  rw [ev, ha, Option.bind_some, hi, Option.bind_some]
  simp only [tgVs]
  rw [hw, h, Option.bind_some, if_pos]
  have := len_fltR C T n i
  have := Nat.le_of_ble_eq_true hn
  unfold shortL
  exact decide_eq_true (by show (fltR C T n i).length < 16777216; omega)
theorem ev_compR0 {elt : E} {its : List E} {v kk : Nat} {G : Int → Bool} {T : Int → D} {k : Kd} {rs : List R} {n : Nat} {i : Int} {ρ0 : Rho} {ρ' : Int → Rho} (ha : EvA Φ Ψ τ ρ its rs) (hi : itD kk (rs.map (·.d)) = some (rngD i n)) (hn : Nat.ble n 16777215 = true) (hG : allR G n i = true) (hw : wipeR ρ [v] = ρ0) (hr : ∀ i, ρ0.set v (.im (.int i)) = ρ' i) (hk : ∀ d, stb ⟨k, d⟩ = some d)
    (he : ∀ i, G i = true → EvD Φ Ψ τ (ρ' i) elt k (T i)) : EvD Φ Ψ τ ρ (.comp elt (.nm v) kk its []) .F (.list (mapR T n i)) := by
  rw [mapR_eq]
  exact ev_compR ha hi hn hG hw hr hk (fun _ _ => ec_nil) fun i h _ => he i h
theorem cl_Q {elt : E} {cond : List E} {tg : Tg} {C G : D → Bool} {T : D → D} {k : Kd} {ρ0 : Rho} {ρ' : D → Rho} (hk : ∀ d, stb ⟨k, d⟩ = some d) (hr : ∀ d, G d = true → tgD ρ0 tg d = some (ρ' d))
    (hc : ∀ d, G d = true → EvC Φ Ψ τ (ρ' d) cond (C d)) (he : ∀ d, G d = true → C d = true → EvD Φ Ψ τ (ρ' d) elt k (T d)) :
    ∀ (l : List D), allQ G l = true → compL (fun ρ τ => ev Φ Ψ ρ τ elt) (fun ρ τ => evAll Φ Ψ ρ τ cond) ρ0 tg l τ = some (fltQ C T l, τ)
  | [], _ => rfl
  | d :: l, h => by
    obtain ⟨h1, h2⟩ := allQ_s h
    have ih := cl_Q hk hr hc he l h2
    have e : fltQ C T (d :: l) = iteB (C d) (T d :: fltQ C T l) (fltQ C T l) := rfl
    rw [e]
    have hci := hc d h1
    unfold EvC at hci
    simp only [compL, hr d h1, Option.bind_some, hci]
    cases hC : C d with
    | false =>
      simp only [Bool.false_eq_true, if_false]
      rw [ih]; rfl
    | true =>
      have hei := he d h1 hC
      unfold EvD at hei
      simp only [if_true, hei, Option.bind_some, hk, ih, Option.map_some]
      rfl
theorem mapQ_eq (T : D → D) : ∀ l : List D, mapQ T l = fltQ (fun _ => true) T l
  | [] => rfl
  | d :: l => by show T d :: mapQ T l = T d :: fltQ (fun _ => true) T l; rw [mapQ_eq T l]
theorem ev_compQ {elt : E} {cond its : List E} {tg : Tg} {kk : Nat} {C G : D → Bool} {T : D → D} {k : Kd} {rs : List R} {l : List D} {ρ0 : Rho} {ρ' : D → Rho} (ha : EvA Φ Ψ τ ρ its rs) (hi : itD kk (rs.map (·.d)) = some l) (hn : shB (fltQ C T l) = true) (hG : allQ G l = true) (hw : wipeR ρ (tgVs tg) = ρ0) (hr : ∀ d, G d = true → tgD ρ0 tg d = some (ρ' d)) (hk : ∀ d, stb ⟨k, d⟩ = some d)
    (hc : ∀ d, G d = true → EvC Φ Ψ τ (ρ' d) cond (C d)) (he : ∀ d, G d = true → C d = true → EvD Φ Ψ τ (ρ' d) elt k (T d)) : EvD Φ Ψ τ ρ (.comp elt tg kk its cond) .F (.list (fltQ C T l)) := by
  unfold EvA at ha
  unfold EvD
  have h := cl_Q (Φ := Φ) (Ψ := Ψ) (τ := τ) (elt := elt) (cond := cond) (tg := tg) (ρ0 := ρ0) hk hr hc he l hG
  rw [ev, ha, Option.bind_some, hi, Option.bind_some, hw, h, Option.bind_some, if_pos (shB_eq hn)]
theorem ev_compQ0 {elt : E} {its : List E} {tg : Tg} {kk : Nat} {G : D → Bool} {T : D → D} {k : Kd} {rs : List R} {l : List D} {ρ0 : Rho} {ρ' : D → Rho} (ha : EvA Φ Ψ τ ρ its rs) (hi : itD kk (rs.map (·.d)) = some l) (hn : shB l = true) (hG : allQ G l = true) (hw : wipeR ρ (tgVs tg) = ρ0) (hr : ∀ d, G d = true → tgD ρ0 tg d = some (ρ' d)) (hk : ∀ d, stb ⟨k, d⟩ = some d)
    (he : ∀ d, G d = true → EvD Φ Ψ τ (ρ' d) elt k (T d)) : EvD Φ Ψ τ ρ (.comp elt tg kk its []) .F (.list (mapQ T l)) := by
  have hl : ∀ l : List D, (mapQ T l).length = l.length := by
    intro l
    induction l with
    | nil => rfl
    | cons d l ih => show (mapQ T l).length + 1 = _; rw [ih]; rfl
  have hn' : shB (mapQ T l) = true := by
    unfold shB at *
    rw [lenK_eq] at *
    rw [hl]; exact hn
  rw [mapQ_eq] at *
  exact ev_compQ ha hi hn' hG hw hr hk (fun _ _ => ec_nil) fun d h _ => he d h
/-! ### statements -/
section
variable {α γ : Type} {enc : α → γ}
def OkO (enc : α → γ) (o : Option Out) (K : Out → Option γ) (n : Option α) : Prop := ∀ v, n = some v → o.bind K = some (enc v)
def sq (Φ : Nat → List D → Option R) (Ψ : Nat → List D → Tp → Option (R × Tp)) (N : Nat) (rest : List S) (K : Out → Option γ) : Out → Option γ
  | .nx ρ τ => (evSs Φ Ψ N ρ τ rest).bind K
  | .bk ρ τ => K (.bk ρ τ)
  | .ct ρ τ => K (.ct ρ τ)
  | .rt r τ => K (.rt r τ)
def wh (Φ : Nat → List D → Option R) (Ψ : Nat → List D → Tp → Option (R × Tp)) (N : Nat) (c : E) (b : List S) (m : Nat) (ρ : Rho) (τ : Tp) : Option Out := whL (fun ρ τ => ev Φ Ψ ρ τ c) (fun ρ τ => evSs Φ Ψ N ρ τ b) m ρ τ
def fo (Φ : Nat → List D → Option R) (Ψ : Nat → List D → Tp → Option (R × Tp)) (N : Nat) (tg : Tg) (b : List S) (l : List D) (ρ : Rho) (τ : Tp) : Option Out := forL (fun ρ τ => evSs Φ Ψ N ρ τ b) tg l ρ τ
def lp (Φ : Nat → List D → Option R) (Ψ : Nat → List D → Tp → Option (R × Tp)) (N : Nat) (c : E) (b : List S) (m : Nat) (K : Out → Option γ) : Out → Option γ
  | .nx ρ τ => (wh Φ Ψ N c b m ρ τ).bind K
  | .ct ρ τ => (wh Φ Ψ N c b m ρ τ).bind K
  | .bk ρ τ => K (.nx ρ τ)
  | .rt r τ => K (.rt r τ)
def fp (Φ : Nat → List D → Option R) (Ψ : Nat → List D → Tp → Option (R × Tp)) (N : Nat) (tg : Tg) (b : List S) (l : List D) (K : Out → Option γ) : Out → Option γ
  | .nx ρ τ => (fo Φ Ψ N tg b l ρ τ).bind K
  | .ct ρ τ => (fo Φ Ψ N tg b l ρ τ).bind K
  | .bk ρ τ => K (.nx ρ τ)
  | .rt r τ => K (.rt r τ)
variable {K : Out → Option γ} {n : Option α} {rest : List S} {o : Option Out}
theorem ok_none : OkO enc o K none := fun _ h => by cases h
theorem ok_g {g : Bool} (h : g = true → OkO enc o K n) : OkO enc o K (iteB g n none) := fun v e => by
  cases g with
  | false => cases e
  | true => exact h rfl v e
theorem ok_bnd {β : Type} {t : Option β} {F : β → Option α} (h : ∀ x, t = some x → OkO enc o K (F x)) : OkO enc o K (bndO t F) := fun v e => by
  cases t with
  | none => cases e
  | some x => exact h x rfl v e
theorem ok_frcI {t : Int} {F : Int → Option α} (h : ∀ x, t = x → OkO enc o K (F x)) : OkO enc o K (frcI t F) := by rw [frcI_eq]; exact h t rfl
theorem ok_frcB {t : Bool} {F : Bool → Option α} (h : ∀ x, t = x → OkO enc o K (F x)) : OkO enc o K (frcB t F) := by rw [frcB_eq]; exact h t rfl
theorem ok_frcD {t : D} {F : D → Option α} (h : ∀ x, t = x → OkO enc o K (F x)) : OkO enc o K (frcDD t F) := by rw [frcDD_eq]; exact h t rfl
theorem ok_frcL {t : List D} {F : List D → Option α} (h : ∀ x, t = x → OkO enc o K (F x)) : OkO enc o K (frcLL t F) := by rw [frcLL_eq]; exact h t rfl
theorem ok_frcN {t : Nat} {F : Nat → Option α} (h : ∀ x, t = x → OkO enc o K (F x)) : OkO enc o K (frcN t F) := by rw [frcN_eq]; exact h t rfl
theorem ok_dInt {t : D} {F : Int → Option α} (h : ∀ x, t = .int x → OkO enc o K (F x)) : OkO enc o K (dInt t none F) := fun v e => by
  cases t <;> first | (exact h _ rfl v e) | cases e
theorem ok_dBool {t : D} {F : Bool → Option α} (h : ∀ x, t = .bool x → OkO enc o K (F x)) : OkO enc o K (dBool t none F) := fun v e => by
  cases t <;> first | (exact h _ rfl v e) | cases e
theorem ok_dTup {t : D} {F : List D → Option α} (h : ∀ x, t = .tuple x → OkO enc o K (F x)) : OkO enc o K (dTup t none F) := fun v e => by
  cases t <;> first | (exact h _ rfl v e) | cases e
theorem ok_dLst {t : D} {F : List D → Option α} (h : ∀ x, t = .list x → OkO enc o K (F x)) : OkO enc o K (dLst t none F) := fun v e => by
  cases t <;> first | (exact h _ rfl v e) | cases e
theorem ok_dT2 {t : D} {F : D → D → Option α} (h : ∀ a b, t = .tuple [a, b] → OkO enc o K (F a b)) : OkO enc o K (dT2 t none F) := fun v e => by
  cases t with
  | tuple l => match l, e with
    | [a, b], e => exact h a b rfl v e
  | _ => cases e
theorem ok_dT3 {t : D} {F : D → D → D → Option α} (h : ∀ a b c, t = .tuple [a, b, c] → OkO enc o K (F a b c)) : OkO enc o K (dT3 t none F) := fun v e => by
  cases t with
  | tuple l => match l, e with
    | [a, b, c], e => exact h a b c rfl v e
  | _ => cases e
theorem ok_dT4 {t : D} {F : D → D → D → D → Option α} (h : ∀ a b c e, t = .tuple [a, b, c, e] → OkO enc o K (F a b c e)) : OkO enc o K (dT4 t none F) := fun v e => by
  cases t with
  | tuple l => match l, e with
    | [a, b, c, f], e => exact h a b c f rfl v e
  | _ => cases e
theorem ok_nil (h : OkO enc (some (.nx ρ τ)) K n) : OkO enc (evSs Φ Ψ N ρ τ []) K n := by rw [evSs]; exact h
theorem ok_seq {s : S} (h : OkO enc (evS Φ Ψ N ρ τ s) (sq Φ Ψ N rest K) n) : OkO enc (evSs Φ Ψ N ρ τ (s :: rest)) K n := fun v e => by
  have := h v e
  rw [evSs]
  cases q : evS Φ Ψ N ρ τ s with
  | none => rw [q] at this; cases this
  | some o => rw [q] at this; cases o <;> exact this
theorem nx_sq (h : OkO enc (evSs Φ Ψ N ρ τ rest) K n) : OkO enc (some (.nx ρ τ)) (sq Φ Ψ N rest K) n := h
theorem bk_sq (h : OkO enc (some (.bk ρ τ)) K n) : OkO enc (some (.bk ρ τ)) (sq Φ Ψ N rest K) n := h
theorem ct_sq (h : OkO enc (some (.ct ρ τ)) K n) : OkO enc (some (.ct ρ τ)) (sq Φ Ψ N rest K) n := h
theorem rt_sq {r : R} (h : OkO enc (some (.rt r τ)) K n) : OkO enc (some (.rt r τ)) (sq Φ Ψ N rest K) n := h
section
variable {c : E} {b : List S} {m : Nat} {tg : Tg} {l : List D}
theorem nx_lp (h : OkO enc (wh Φ Ψ N c b m ρ τ) K n) : OkO enc (some (.nx ρ τ)) (lp Φ Ψ N c b m K) n := h
theorem ct_lp (h : OkO enc (wh Φ Ψ N c b m ρ τ) K n) : OkO enc (some (.ct ρ τ)) (lp Φ Ψ N c b m K) n := h
theorem bk_lp (h : OkO enc (some (.nx ρ τ)) K n) : OkO enc (some (.bk ρ τ)) (lp Φ Ψ N c b m K) n := h
theorem rt_lp {r : R} (h : OkO enc (some (.rt r τ)) K n) : OkO enc (some (.rt r τ)) (lp Φ Ψ N c b m K) n := h
theorem nx_fp (h : OkO enc (fo Φ Ψ N tg b l ρ τ) K n) : OkO enc (some (.nx ρ τ)) (fp Φ Ψ N tg b l K) n := h
theorem ct_fp (h : OkO enc (fo Φ Ψ N tg b l ρ τ) K n) : OkO enc (some (.ct ρ τ)) (fp Φ Ψ N tg b l K) n := h
theorem bk_fp (h : OkO enc (some (.nx ρ τ)) K n) : OkO enc (some (.bk ρ τ)) (fp Φ Ψ N tg b l K) n := h
theorem rt_fp {r : R} (h : OkO enc (some (.rt r τ)) K n) : OkO enc (some (.rt r τ)) (fp Φ Ψ N tg b l K) n := h
theorem wh_step {k : Kd} {t : Bool} {Y Z : Option α} (p : EvD Φ Ψ τ ρ c k (.bool t)) (hb : OkO enc (evSs Φ Ψ N ρ τ b) (lp Φ Ψ N c b m K) Y) (ha : OkO enc (some (.nx ρ τ)) K Z) : OkO enc (wh Φ Ψ N c b (m + 1) ρ τ) K (iteB t Y Z) := fun v e => by
  unfold EvD at p
  unfold wh
  rw [whL, p, Option.bind_some]
  cases t with
  | false => exact ha v e
  | true =>
    have := hb v e
    show ((evSs Φ Ψ N ρ τ b).bind _).bind K = _
    cases q : evSs Φ Ψ N ρ τ b with
    | none => rw [q] at this; cases this
    | some o => rw [q] at this; cases o <;> exact this
theorem fo_nil (h : OkO enc (some (.nx ρ τ)) K n) : OkO enc (fo Φ Ψ N tg b [] ρ τ) K n := h
theorem fo_cons {d : D} {ρ1 : Rho} (ht : tgD ρ tg d = some ρ1) (hb : OkO enc (evSs Φ Ψ N ρ1 τ b) (fp Φ Ψ N tg b l K) n) : OkO enc (fo Φ Ψ N tg b (d :: l) ρ τ) K n := fun v e => by
  have := hb v e
  unfold fo
  rw [forL, ht, Option.bind_some]
  cases q : evSs Φ Ψ N ρ1 τ b with
  | none => rw [q] at this; cases this
  | some o => rw [q] at this; cases o <;> exact this
end
theorem st_set {e : E} {i : Nat} {d : D} {ρ' : Rho} (p : EvD Φ Ψ τ ρ e .S d) (hr : ρ.set i (.im d) = ρ') (h : OkO enc (evSs Φ Ψ N ρ' τ rest) K n) : OkO enc (evSs Φ Ψ N ρ τ (.set (.nm i) e :: rest)) K n := ok_seq (by
  unfold EvD at p
  rw [evS, p, Option.bind_some]
  subst hr
  exact h)
theorem st_setL {e : E} {i : Nat} {l : List D} {ρ' : Rho} (p : EvD Φ Ψ τ ρ e .F (.list l)) (hr : ρ.set i (.ow l) = ρ') (h : OkO enc (evSs Φ Ψ N ρ' τ rest) K n) : OkO enc (evSs Φ Ψ N ρ τ (.set (.nm i) e :: rest)) K n := ok_seq (by
  unfold EvD at p
  rw [evS, p, Option.bind_some]
  subst hr
  exact h)
theorem st_setT {e : E} {is : List Nat} {k : Kd} {ds : List D} {ρ' : Rho} (p : EvD Φ Ψ τ ρ e k (.tuple ds)) (hr : setsD ρ is ds = some ρ') (h : OkO enc (evSs Φ Ψ N ρ' τ rest) K n) : OkO enc (evSs Φ Ψ N ρ τ (.set (.tu is) e :: rest)) K n := ok_seq (by
  unfold EvD at p
  rw [evS, p, Option.bind_some]
  show OkO enc ((setsD ρ is ds).map _) _ _
  rw [hr]
  exact h)
theorem st_par2 {a b : E} {i j : Nat} {k l : Kd} {x y : D} {ρ' : Rho} (p : EvD Φ Ψ τ ρ a k x) (q : EvD Φ Ψ τ ρ b l y) (hk : stb ⟨k, x⟩ = some x) (hl : stb ⟨l, y⟩ = some y) (hr : (ρ.set i (.im x)).set j (.im y) = ρ') (h : OkO enc (evSs Φ Ψ N ρ' τ rest) K n) : OkO enc (evSs Φ Ψ N ρ τ (.par2 i j a b :: rest)) K n := ok_seq (by
  unfold EvD at p q
  rw [evS, p, Option.bind_some, q, Option.bind_some, hk, Option.bind_some, hl]
  subst hr
  exact h)
theorem st_par3 {a b c : E} {i j m : Nat} {k l o : Kd} {x y z : D} {ρ' : Rho} (p : EvD Φ Ψ τ ρ a k x) (q : EvD Φ Ψ τ ρ b l y) (r : EvD Φ Ψ τ ρ c o z) (hk : stb ⟨k, x⟩ = some x) (hl : stb ⟨l, y⟩ = some y) (ho : stb ⟨o, z⟩ = some z) (hr : ((ρ.set i (.im x)).set j (.im y)).set m (.im z) = ρ') (h : OkO enc (evSs Φ Ψ N ρ' τ rest) K n) : OkO enc (evSs Φ Ψ N ρ τ (.par3 i j m a b c :: rest)) K n := ok_seq (by
  unfold EvD at p q r
  rw [evS, p, Option.bind_some, q, Option.bind_some, r, Option.bind_some, hk, Option.bind_some, hl, Option.bind_some, ho]
  subst hr
  exact h)
theorem st_aug {e : E} {op : Bo} {i : Nat} {k : Kd} {d g r : D} {ρ' : Rho} (hi : ρ[i]? = some (.im d)) (p : EvD Φ Ψ τ ρ e k g) (ha : augD op d g = some r) (hr : ρ.set i (.im r) = ρ') (h : OkO enc (evSs Φ Ψ N ρ' τ rest) K n) : OkO enc (evSs Φ Ψ N ρ τ (.aug i op e :: rest)) K n := ok_seq (by
  unfold EvD at p
  rw [evS, hi]
  simp only []
  rw [p, Option.bind_some, ha]
  subst hr
  exact h)
theorem ag_add {x y : Int} : augD .add (.int x) (.int y) = some (.int (addZ x y)) := by rw [addZ_eq]; rfl
theorem ag_sub {x y : Int} : augD .sub (.int x) (.int y) = some (.int (subZ x y)) := by rw [subZ_eq]; rfl
theorem ag_mul {x y : Int} (h : mulB x y = true) : augD .mul (.int x) (.int y) = some (.int (mulZ x y)) := by rw [mulZ_eq]; rw [mulB_eq] at h; simp only [augD, h, if_true]
theorem ag_fdiv {x y : Int} (h : divB y = true) (h0 : ltZ 0 y = true) : augD .fdiv (.int x) (.int y) = some (.int (fdivZ x y)) := by
  rw [fdivZ_eq]; rw [divB_eq] at h; rw [ltZ_eq] at h0
  simp only [augD, h, h0, Bool.and_self, if_true]
theorem ag_mod {x y : Int} (h0 : ltZ 0 y = true) : augD .mod (.int x) (.int y) = some (.int (fmodZ x y)) := by
  rw [fmodZ_eq]; rw [ltZ_eq] at h0
  simp only [augD, h0, if_true]
theorem st_app {e : E} {i : Nat} {k : Kd} {d : D} {l : List D} {ρ' : Rho} (hi : ρ[i]? = some (.ow l)) (p : EvD Φ Ψ τ ρ e k d) (hk : stb ⟨k, d⟩ = some d) (hs : shB l = true) (hr : ρ.set i (.ow (appK l [d])) = ρ') (h : OkO enc (evSs Φ Ψ N ρ' τ rest) K n) : OkO enc (evSs Φ Ψ N ρ τ (.app i e :: rest)) K n := ok_seq (by
  unfold EvD at p
  rw [appK_eq] at hr
  rw [evS, hi]
  simp only []
  rw [p, Option.bind_some, hk, Option.bind_some, if_pos (shB_eq hs)]
  subst hr
  exact h)
theorem st_ext {e : E} {i : Nat} {k : Kd} {l m : List D} {ρ' : Rho} (hi : ρ[i]? = some (.ow l)) (p : EvD Φ Ψ τ ρ e k (.list m)) (hs : shB (appK l m) = true) (hr : ρ.set i (.ow (appK l m)) = ρ') (h : OkO enc (evSs Φ Ψ N ρ' τ rest) K n) : OkO enc (evSs Φ Ψ N ρ τ (.ext i e :: rest)) K n := ok_seq (by
  unfold EvD at p
  have hs' := shB_eq hs
  rw [appK_eq] at hr hs'
  rw [evS, hi]
  simp only []
  rw [p, Option.bind_some]
  show OkO enc (if shortL (l ++ m) then _ else _) _ _
  rw [if_pos hs']
  subst hr
  exact h)
noncomputable def iniK {α : Type} (l : List α) : List α := @List.rec α (fun _ => List α) [] (fun a r ih => @List.rec α (fun _ => List α) [] (fun _ _ _ => a :: ih) r) l
noncomputable def lasK {α : Type} (l : List α) : Option α := @List.rec α (fun _ => Option α) none (fun a r ih => @List.rec α (fun _ => Option α) (some a) (fun _ _ _ => ih) r) l
theorem iniK_eq {α : Type} : ∀ l : List α, iniK l = l.dropLast
  | [] => rfl
  | [a] => rfl
  | a :: b :: r => by show a :: iniK (b :: r) = _; rw [iniK_eq (b :: r)]; rfl
theorem lasK_eq {α : Type} : ∀ l : List α, lasK l = l.getLast?
  | [] => rfl
  | [a] => rfl
  | a :: b :: r => by show lasK (b :: r) = _; rw [lasK_eq (b :: r)]; simp
theorem st_pop {i : Nat} {l : List D} {ρ' : Rho} (hi : ρ[i]? = some (.ow l)) (hs : neB l = true) (hr : ρ.set i (.ow (iniK l)) = ρ') (h : OkO enc (evSs Φ Ψ N ρ' τ rest) K n) : OkO enc (evSs Φ Ψ N ρ τ (.pop i :: rest)) K n := ok_seq (by
  rw [iniK_eq] at hr
  rw [evS, hi]
  simp only []
  rw [if_neg (by cases l with | nil => cases hs | cons a r => (intro z; cases z))]
  subst hr
  exact h)
theorem st_popt {tg : Tg} {i : Nat} {l : List D} {d : D} {ρ' : Rho} (hi : ρ[i]? = some (.ow l)) (hs : lasK l = some d) (hr : tgD (ρ.set i (.ow (iniK l))) tg d = some ρ') (h : OkO enc (evSs Φ Ψ N ρ' τ rest) K n) : OkO enc (evSs Φ Ψ N ρ τ (.popt tg i :: rest)) K n := ok_seq (by
  rw [iniK_eq] at hr
  rw [lasK_eq] at hs
  rw [evS, hi]
  simp only [hs]
  rw [hr]
  exact h)
theorem st_mov {i j : Nat} {d : D} {ρ' : Rho} (hi : ρ[j]? = some (.im d)) (hr : ρ.set i (.im d) = ρ') (h : OkO enc (evSs Φ Ψ N ρ' τ rest) K n) : OkO enc (evSs Φ Ψ N ρ τ (.mov i j :: rest)) K n := ok_seq (by
  rw [evS, hi]
  subst hr
  exact h)
theorem st_movL {i j : Nat} {l : List D} {ρ' : Rho} (hi : ρ[j]? = some (.ow l)) (hr : (ρ.set j .un).set i (.ow l) = ρ') (h : OkO enc (evSs Φ Ψ N ρ' τ rest) K n) : OkO enc (evSs Φ Ψ N ρ τ (.mov i j :: rest)) K n := ok_seq (by
  rw [evS, hi]
  subst hr
  exact h)
noncomputable def stK {α : Type} (d : α) (l : List α) : Nat → Option (List α) := @List.rec α (fun _ => Nat → Option (List α)) (fun _ => none) (fun a r ih j => @Nat.rec (fun _ => Option (List α)) (some (d :: r)) (fun j _ => bndO (ih j) fun r => some (a :: r)) j) l
noncomputable def sxK (l : List D) (i : Int) (d : D) : Option (List D) := @Int.rec (fun _ => Option (List D)) (fun j => stK d l j) (fun m => iteB (Nat.ble (.succ m) (lenK l 0)) (stK d l (Nat.sub (lenK l 0) (.succ m))) none) i
theorem stK_eq {α : Type} (d : α) : ∀ (l : List α) (j : Nat) (l' : List α), stK d l j = some l' → j < l.length ∧ l.set j d = l'
  | [], _, _, h => by cases h
  | a :: r, 0, l', h => by
    have h' : some (d :: r) = some l' := h
    cases h'
    exact ⟨Nat.succ_pos _, rfl⟩
  | a :: r, j + 1, l', h => by
    have h' : bndO (stK d r j) (fun r => some (a :: r)) = some l' := h
    cases q : stK d r j with
    | none => rw [q] at h'; cases h'
    | some r' =>
      rw [q] at h'
      have e : some (a :: r') = some l' := h'
      cases e
      have := stK_eq d r j r' q
      exact ⟨Nat.succ_lt_succ this.1, by rw [List.set_cons_succ, this.2]⟩
theorem sxK_eq {l l' : List D} {i : Int} {d : D} (h : sxK l i d = some l') : ∃ j, ixN l.length i = some j ∧ l.set j d = l' := by
  cases i with
  | ofNat j =>
    have := stK_eq d l j l' h
    refine ⟨j, ?_, this.2⟩
    unfold ixN
    rw [if_pos (by show (0 : Int) ≤ (j : Int); omega), if_pos (by show (j : Int) < _; omega)]; rfl
  | negSucc m =>
    have e0 : lenK l 0 = l.length := by rw [lenK_eq]; rfl
    have h' : iteB (Nat.ble (m + 1) (lenK l 0)) (stK d l (lenK l 0 - (m + 1))) none = some l' := h
    rw [e0] at h'
    cases q : Nat.ble (m + 1) l.length with
    | false => rw [q] at h'; cases h'
    | true =>
      rw [q] at h'
      have hm := Nat.le_of_ble_eq_true q
      have := stK_eq d l _ l' h'
      refine ⟨l.length - (m + 1), ?_, this.2⟩
      unfold ixN
      rw [if_neg (by omega), if_pos (by omega)]
      congr 1
      omega
theorem st_sti {ix e : E} {i : Nat} {k kx : Kd} {x : Int} {d : D} {l l' : List D} {ρ' : Rho} (p : EvD Φ Ψ τ ρ e k d) (hk : stb ⟨k, d⟩ = some d) (hi : ρ[i]? = some (.ow l)) (q : EvD Φ Ψ τ ρ ix kx (.int x)) (hs : sxK l x d = some l') (hr : ρ.set i (.ow l') = ρ') (h : OkO enc (evSs Φ Ψ N ρ' τ rest) K n) : OkO enc (evSs Φ Ψ N ρ τ (.sti i ix e :: rest)) K n := ok_seq (by
  unfold EvD at p q
  obtain ⟨j, e1, e2⟩ := sxK_eq hs
  rw [evS, p, Option.bind_some, hk, Option.bind_some, hi]
  simp only []
  rw [q, Option.bind_some]
  simp only [intOf, Option.bind_some]
  rw [e1, Option.map_some, e2]
  subst hr
  exact h)
theorem st_ret {e : E} {k : Kd} {d : D} (p : EvD Φ Ψ τ ρ e k d) (hk : stb ⟨k, d⟩ = some d) (h : OkO enc (some (.rt ⟨k, d⟩ τ)) K n) : OkO enc (evSs Φ Ψ N ρ τ (.ret e :: rest)) K n := ok_seq (by
  unfold EvD at p
  rw [evS, p, Option.bind_some]
  cases k with
  | B => cases hk
  | S => exact h
  | F => exact h)
theorem st_retv {i : Nat} {d : D} (hi : ρ[i]? = some (.im d)) (h : OkO enc (some (.rt ⟨.S, d⟩ τ)) K n) : OkO enc (evSs Φ Ψ N ρ τ (.retv i :: rest)) K n := ok_seq (by
  rw [evS, hi]; exact h)
theorem st_retvL {i : Nat} {l : List D} (hi : ρ[i]? = some (.ow l)) (h : OkO enc (some (.rt ⟨.F, .list l⟩ τ)) K n) : OkO enc (evSs Φ Ψ N ρ τ (.retv i :: rest)) K n := ok_seq (by
  rw [evS, hi]; exact h)
theorem st_retn (h : OkO enc (some (.rt ⟨.S, .none⟩ τ)) K n) : OkO enc (evSs Φ Ψ N ρ τ (.retn :: rest)) K n := ok_seq (by
  rw [evS]; exact h)
theorem st_ite {c : E} {a b : List S} {k : Kd} {t : Bool} {Y Z : Option α} (p : EvD Φ Ψ τ ρ c k (.bool t)) (ha : OkO enc (evSs Φ Ψ N ρ τ a) (sq Φ Ψ N rest K) Y) (hb : OkO enc (evSs Φ Ψ N ρ τ b) (sq Φ Ψ N rest K) Z) : OkO enc (evSs Φ Ψ N ρ τ (.ite c a b :: rest)) K (iteB t Y Z) := ok_seq (by
  unfold EvD at p
  rw [evS, p, Option.bind_some]
  cases t with
  | false => exact hb
  | true => exact ha)
/-- with a place where both ways meet -/
theorem st_iteJ (P : Rho → Option α → Prop) {c : E} {a b : List S} {k : Kd} {t : Bool} {Y Z : Option α} (hJ : ∀ ρ n, P ρ n → OkO enc (evSs Φ Ψ N ρ τ rest) K n) (p : EvD Φ Ψ τ ρ c k (.bool t)) (ha : (∀ ρ n, P ρ n → OkO enc (some (.nx ρ τ)) (sq Φ Ψ N rest K) n) → OkO enc (evSs Φ Ψ N ρ τ a) (sq Φ Ψ N rest K) Y) (hb : (∀ ρ n, P ρ n → OkO enc (some (.nx ρ τ)) (sq Φ Ψ N rest K) n) → OkO enc (evSs Φ Ψ N ρ τ b) (sq Φ Ψ N rest K) Z) : OkO enc (evSs Φ Ψ N ρ τ (.ite c a b :: rest)) K (iteB t Y Z) := st_ite p (ha hJ) (hb hJ)
theorem st_exp {e : E} {k : Kd} {d : D} (p : EvD Φ Ψ τ ρ e k d) (h : OkO enc (evSs Φ Ψ N ρ τ rest) K n) : OkO enc (evSs Φ Ψ N ρ τ (.exp e :: rest)) K n := ok_seq (by
  unfold EvD at p
  rw [evS, p]; exact h)
theorem st_pas (h : OkO enc (evSs Φ Ψ N ρ τ rest) K n) : OkO enc (evSs Φ Ψ N ρ τ (.pas :: rest)) K n := ok_seq (by rw [evS]; exact h)
theorem st_brk (h : OkO enc (some (.bk ρ τ)) K n) : OkO enc (evSs Φ Ψ N ρ τ (.brk :: rest)) K n := ok_seq (by rw [evS]; exact h)
theorem st_cnt (h : OkO enc (some (.ct ρ τ)) K n) : OkO enc (evSs Φ Ψ N ρ τ (.cnt :: rest)) K n := ok_seq (by rw [evS]; exact h)
theorem st_whl (PK : Rho → Option α → Prop) (P : Nat → Rho → Option α → Prop) {c : E} {b : List S} (hK : ∀ ρ n, PK ρ n → OkO enc (evSs Φ Ψ N ρ τ rest) K n) (h0 : P N ρ n) (hz : ∀ ρ n, P 0 ρ n → n = none)
    (hs : (∀ ρ n, PK ρ n → OkO enc (some (.nx ρ τ)) (sq Φ Ψ N rest K) n) → ∀ m, (∀ ρ n, P m ρ n → OkO enc (wh Φ Ψ N c b m ρ τ) (sq Φ Ψ N rest K) n) → ∀ ρ n, P (m + 1) ρ n → OkO enc (wh Φ Ψ N c b (m + 1) ρ τ) (sq Φ Ψ N rest K) n) : OkO enc (evSs Φ Ψ N ρ τ (.whl c b :: rest)) K n := ok_seq (by
  rw [evS]
  have : ∀ m ρ n, P m ρ n → OkO enc (wh Φ Ψ N c b m ρ τ) (sq Φ Ψ N rest K) n := by
    intro m
    induction m with
    | zero => intro ρ n h; rw [hz ρ n h]; exact ok_none
    | succ m ih => exact hs hK m ih
  exact this N ρ n h0)
theorem st_for {tg : Tg} {k : Nat} {its : List E} {b : List S} {rs : List R} {l : List D} (ha : EvA Φ Ψ τ ρ its rs) (nb : (rs.any fun r => r.k == .B) = false) (hi : itD k (rs.map (·.d)) = some l) (h : OkO enc (fo Φ Ψ N tg b l ρ τ) (sq Φ Ψ N rest K) n) : OkO enc (evSs Φ Ψ N ρ τ (.for_ tg k its b :: rest)) K n := ok_seq (by
  unfold EvA at ha
  rw [evS, ha, Option.bind_some, hi, Option.bind_some, if_neg (by rw [nb]; decide)]
  exact h)
theorem st_forv {tg : Tg} {i : Nat} {b : List S} {d : D} {l : List D} (hd : ρ[i]? = some (.im d)) (hi : itD 0 [d] = some l) (h : OkO enc (fo Φ Ψ N tg b l ρ τ) (sq Φ Ψ N rest K) n) : OkO enc (evSs Φ Ψ N ρ τ (.forv tg i b :: rest)) K n := ok_seq (by
  rw [evS, hd]
  simp only []
  rw [hi]
  exact h)
theorem st_forvL {tg : Tg} {i : Nat} {b : List S} {l : List D} {ρ' : Rho} (hd : ρ[i]? = some (.ow l)) (hr : ρ.set i (.im (.list l)) = ρ') (h : OkO enc (fo Φ Ψ N tg b l ρ' τ) (sq Φ Ψ N rest K) n) : OkO enc (evSs Φ Ψ N ρ τ (.forv tg i b :: rest)) K n := ok_seq (by
  rw [evS, hd]
  subst hr
  exact h)
/-- loops over items: the same shape for ranges, items, pairs of enumerate -/
theorem fo_R (PK : Rho → Option α → Prop) (P : Nat → Int → Rho → Option α → Prop) {tg : Tg} {b : List S} {m : Nat} {i : Int} (hK : ∀ ρ n, PK ρ n → OkO enc (evSs Φ Ψ N ρ τ rest) K n) (h0 : P m i ρ n)
    (hz : (∀ ρ n, PK ρ n → OkO enc (some (.nx ρ τ)) (sq Φ Ψ N rest K) n) → ∀ i ρ n, P 0 i ρ n → OkO enc (some (.nx ρ τ)) (sq Φ Ψ N rest K) n)
    (hs : (∀ ρ n, PK ρ n → OkO enc (some (.nx ρ τ)) (sq Φ Ψ N rest K) n) → ∀ m i, (∀ ρ n, P m (addZ i 1) ρ n → OkO enc (fo Φ Ψ N tg b (rngD (addZ i 1) m) ρ τ) (sq Φ Ψ N rest K) n) → ∀ ρ n, P (m + 1) i ρ n → OkO enc (fo Φ Ψ N tg b (.int i :: rngD (addZ i 1) m) ρ τ) (sq Φ Ψ N rest K) n) :
    OkO enc (fo Φ Ψ N tg b (rngD i m) ρ τ) (sq Φ Ψ N rest K) n := by
  have : ∀ m i ρ n, P m i ρ n → OkO enc (fo Φ Ψ N tg b (rngD i m) ρ τ) (sq Φ Ψ N rest K) n := by
    intro m
    induction m with
    | zero => intro i ρ n h; exact hz hK i ρ n h
    | succ m ih =>
      intro i ρ n h
      have := hs hK m i (fun ρ n h => ih _ ρ n h) ρ n h
      rw [addZ_eq] at this
      exact this
  exact this m i ρ n h0
theorem fo_C (PK : Rho → Option α → Prop) (P : Nat → Int → Rho → Option α → Prop) {tg : Tg} {b : List S} {m : Nat} {i : Int} (hK : ∀ ρ n, PK ρ n → OkO enc (evSs Φ Ψ N ρ τ rest) K n) (h0 : P m i ρ n)
    (hz : (∀ ρ n, PK ρ n → OkO enc (some (.nx ρ τ)) (sq Φ Ψ N rest K) n) → ∀ i ρ n, P 0 i ρ n → OkO enc (some (.nx ρ τ)) (sq Φ Ψ N rest K) n)
    (hs : (∀ ρ n, PK ρ n → OkO enc (some (.nx ρ τ)) (sq Φ Ψ N rest K) n) → ∀ m i, (∀ ρ n, P m (subZ i 1) ρ n → OkO enc (fo Φ Ψ N tg b (rngC (subZ i 1) (-1) m) ρ τ) (sq Φ Ψ N rest K) n) → ∀ ρ n, P (m + 1) i ρ n → OkO enc (fo Φ Ψ N tg b (.int i :: rngC (subZ i 1) (-1) m) ρ τ) (sq Φ Ψ N rest K) n) :
    OkO enc (fo Φ Ψ N tg b (rngC i (-1) m) ρ τ) (sq Φ Ψ N rest K) n := by
  have : ∀ m i ρ n, P m i ρ n → OkO enc (fo Φ Ψ N tg b (rngC i (-1) m) ρ τ) (sq Φ Ψ N rest K) n := by
    intro m
    induction m with
    | zero => intro i ρ n h; exact hz hK i ρ n h
    | succ m ih =>
      intro i ρ n h
      have := hs hK m i (fun ρ n h => ih _ ρ n h) ρ n h
      rw [subZ_eq] at this
      exact this
  exact this m i ρ n h0
theorem fo_L (PK : Rho → Option α → Prop) (P : List D → Rho → Option α → Prop) {tg : Tg} {b : List S} {l : List D} (hK : ∀ ρ n, PK ρ n → OkO enc (evSs Φ Ψ N ρ τ rest) K n) (h0 : P l ρ n)
    (hz : (∀ ρ n, PK ρ n → OkO enc (some (.nx ρ τ)) (sq Φ Ψ N rest K) n) → ∀ ρ n, P [] ρ n → OkO enc (some (.nx ρ τ)) (sq Φ Ψ N rest K) n)
    (hs : (∀ ρ n, PK ρ n → OkO enc (some (.nx ρ τ)) (sq Φ Ψ N rest K) n) → ∀ d l, (∀ ρ n, P l ρ n → OkO enc (fo Φ Ψ N tg b l ρ τ) (sq Φ Ψ N rest K) n) → ∀ ρ n, P (d :: l) ρ n → OkO enc (fo Φ Ψ N tg b (d :: l) ρ τ) (sq Φ Ψ N rest K) n) :
    OkO enc (fo Φ Ψ N tg b l ρ τ) (sq Φ Ψ N rest K) n := by
  have : ∀ l ρ n, P l ρ n → OkO enc (fo Φ Ψ N tg b l ρ τ) (sq Φ Ψ N rest K) n := by
    intro l
    induction l with
    | nil => intro ρ n h; exact hz hK ρ n h
    | cons d l ih => exact hs hK d l ih
  exact this l ρ n h0
theorem fo_E (PK : Rho → Option α → Prop) (P : Nat → List D → Rho → Option α → Prop) {tg : Tg} {b : List S} {l : List D} {i : Nat} (hK : ∀ ρ n, PK ρ n → OkO enc (evSs Φ Ψ N ρ τ rest) K n) (h0 : P i l ρ n)
    (hz : (∀ ρ n, PK ρ n → OkO enc (some (.nx ρ τ)) (sq Φ Ψ N rest K) n) → ∀ i ρ n, P i [] ρ n → OkO enc (some (.nx ρ τ)) (sq Φ Ψ N rest K) n)
    (hs : (∀ ρ n, PK ρ n → OkO enc (some (.nx ρ τ)) (sq Φ Ψ N rest K) n) → ∀ i d l, (∀ ρ n, P (.succ i) l ρ n → OkO enc (fo Φ Ψ N tg b (enumD (.succ i) l) ρ τ) (sq Φ Ψ N rest K) n) → ∀ ρ n, P i (d :: l) ρ n → OkO enc (fo Φ Ψ N tg b (.tuple [.int (.ofNat i), d] :: enumD (.succ i) l) ρ τ) (sq Φ Ψ N rest K) n) :
    OkO enc (fo Φ Ψ N tg b (enumD i l) ρ τ) (sq Φ Ψ N rest K) n := by
  have : ∀ l i ρ n, P i l ρ n → OkO enc (fo Φ Ψ N tg b (enumD i l) ρ τ) (sq Φ Ψ N rest K) n := by
    intro l
    induction l with
    | nil => intro i ρ n h; exact hz hK i ρ n h
    | cons d l ih => intro i ρ n h; exact hs hK i d l (fun ρ n h => ih _ ρ n h) ρ n h
  exact this l i ρ n h0
end
/-! ### defs -/
def rI (i : Int) : R := ⟨.S, .int i⟩
def rB (b : Bool) : R := ⟨.S, .bool b⟩
def rD (d : D) : R := ⟨.S, d⟩
def rL (l : List D) : R := ⟨.F, .list l⟩
def rT (l : List D) : R := ⟨.S, .tuple l⟩
theorem cl_T {l : List D} (h : nlL l = true) : clean ⟨.S, .tuple l⟩ = true := nlL_of l h
theorem call_eq {Φ : Nat → List D → Option R} {n : Nat} {φ : List D → Option R} {ds : List D} {r : R} (h : Φ n = φ) (h2 : φ ds = some r) : Φ n ds = some r := by rw [h]; exact h2
theorem nz_of {i : Int} (h : notB (eqZ i 0) = true) : eqZ i 0 = false := by cases e : eqZ i 0 with | false => rfl | true => rw [e] at h; cases h
theorem allR_t : ∀ {n : Nat} {i : Int}, allR (fun _ => true) n i = true
  | 0, _ => rfl
  | n + 1, i => by
    show frcI i (fun i => iteB true (allR (fun _ => true) n (addZ i 1)) false) = true
    rw [frcI_eq]; exact allR_t
theorem allQ_t : ∀ {l : List D}, allQ (fun _ => true) l = true
  | [] => rfl
  | d :: l => allQ_t (l := l)
noncomputable def enuK (i : Nat) (l : List D) : List D := @List.rec D (fun _ => Nat → List D) (fun _ => []) (fun d _ ih i => frcN i fun i => PyData.tuple [.int (.ofNat i), d] :: ih (.succ i)) l i
theorem enuK_eq : ∀ (l : List D) (i : Nat), enuK i l = enumD i l
  | [], _ => rfl
  | d :: l, i => by
    show frcN i (fun i => PyData.tuple [.int (.ofNat i), d] :: enuK (.succ i) l) = _
    rw [frcN_eq, enuK_eq l]; rfl
theorem it_3T' {l : List D} : itD 3 [.tuple l] = some (enuK 0 l) := by rw [enuK_eq]; rfl
theorem it_3L' {l : List D} : itD 3 [.list l] = some (enuK 0 l) := by rw [enuK_eq]; rfl
theorem it_3D' {d : D} (h : isQ d = true) : itD 3 [d] = some (enuK 0 (asQ d)) := by rw [enuK_eq]; exact it_3D h
theorem rt_end {α : Type} {enc : α → R} {v : α} {r : R} (h : enc v = r) : OkO enc (some (.rt r τ)) retOf (some v) := fun w e => by cases e; rw [← h]; rfl
theorem nx_end {α : Type} {enc : α → R} {v : α} (h : enc v = ⟨.S, .none⟩) : OkO enc (some (.nx ρ τ)) retOf (some v) := fun w e => by cases e; rw [h]; rfl
/-- a native form as a def's own function -/
theorem own_of {α : Type} {enc : α → R} {Φ : Nat → List D → Option R} {code : List S} {m : Nat} {ds : List D} {x : Option α} {r : R} {M : Nat} (h : OkO enc (evSs Φ (Ψof []) M (start0 m ds) τ0 code) retOf x) (e : x.map enc = some r) : ∃ M o, evSs Φ (Ψof []) M (start0 m ds) τ0 code = some o ∧ retOf o = some r := by
  cases x with
  | none => cases e
  | some v =>
    have h1 := h v rfl
    have h2 : some (enc v) = some r := e
    cases q : evSs Φ (Ψof []) M (start0 m ds) τ0 code with
    | none => rw [q] at h1; cases h1
    | some o => rw [q] at h1; exact ⟨M, o, q, h1.trans h2⟩
end
end Nx

/-! ## Rt1 -/
set_option exponentiation.threshold 2000
/-! the program's exact fractions: what common, fraction, plus, minus, times, over come to -/
namespace Rt
open PySem PySem.Spec PyProof.Rows L2 Ev
abbrev tri (r s t : Int) : Ev.D := .tuple [.int r, .int s, .int t]
def cBody : List S := [.set (.nm 4) (.bin .fdiv (.idx (.var 2) (.cst (.int 0))) (.idx (.var 3) (.cst (.int 0)))),
    .set (.tu [2, 3]) (.tup [(.var 3), (.blt .tuple [(.comp (.bin .sub (.idx (.var 2) (.var 5)) (.bin .mul (.var 4) (.idx (.var 3) (.var 5)))) (.nm 5) 1 [(.cst (.int 3))] [])])])]
def cCond : E := .cmp .ne (.idx (.var 3) (.cst (.int 0))) (.cst (.int 0))
def cCode : List S := [.set (.tu [2, 3]) (.tup [(.tup [(.var 0), (.cst (.int 1)), (.cst (.int 0))]), (.tup [(.var 1), (.cst (.int 0)), (.cst (.int 1))])]),
    .whl cCond cBody,
    .ret (.ite (.cmp .lt (.idx (.var 2) (.cst (.int 0))) (.cst (.int 0))) (.blt .tuple [(.comp (.bin .sub (.cst (.int 0)) (.var 6)) (.nm 6) 0 [(.var 2)] [])]) (.var 2))]
variable {Φ : Nat → List Ev.D → Option Ev.R} {Ψ : Nat → List Ev.D → Tp → Option (Ev.R × Tp)} {M : Nat} {τ : Tp}
theorem cond_ev {a b r0 s0 t0 r1 s1 t1 : Int} {s4 s5 s6 : Sl} : ev Φ Ψ [.im (.int a), .im (.int b), .im (tri r0 s0 t0), .im (tri r1 s1 t1), s4, s5, s6] τ cCond = some (⟨.S, .bool (!decide (r1 = 0))⟩, τ) := by
  simp [cCond, ev, idxD, atD, atI, ixN, cmpD]
theorem body_ev {a b r0 s0 t0 r1 s1 t1 : Int} {s4 s5 s6 : Sl} (h1 : divFits r1 = true) (m1 : mulFits (r0.fdiv r1) r1 = true) (m2 : mulFits (r0.fdiv r1) s1 = true) (m3 : mulFits (r0.fdiv r1) t1 = true) :
    evSs Φ Ψ M [.im (.int a), .im (.int b), .im (tri r0 s0 t0), .im (tri r1 s1 t1), s4, s5, s6] τ cBody =
      some (.nx [.im (.int a), .im (.int b), .im (tri r1 s1 t1), .im (tri (r0 - r0.fdiv r1 * r1) (s0 - r0.fdiv r1 * s1) (t0 - r0.fdiv r1 * t1)), .im (.int (r0.fdiv r1)), s5, s6] τ) := by
  simp [cBody, evSs, evS, ev, evs, evAll, idxD, atD, atI, ixN, binD, h1, m1, m2, m3, putTg, putR, setsD, itD, rngFits, rngD, compL, wipeR, tgVs, tgD, stb, shortL, bltD]
/-! ### the numbers -/
theorem fmod_abs_lt (a : Int) {b : Int} (h : b ≠ 0) : (a.fmod b).natAbs < b.natAbs := by
  by_cases hb : 0 < b
  · have h1 := Int.fmod_nonneg_of_pos a hb
    have h2 := Int.fmod_lt_of_pos a hb
    omega
  · have hb' : 0 < -b := by omega
    have h1 := Int.fmod_nonneg_of_pos (-a) hb'
    have h2 := Int.fmod_lt_of_pos (-a) hb'
    rw [Int.neg_fmod_neg] at h1 h2
    omega
theorem fmod_half_pos {b c : Int} (hc : 0 < c) (hb : c < b) : 2 * (b.fmod c) < b := by
  have h1 := Int.fmod_nonneg_of_pos b hc
  have h2 := Int.fmod_lt_of_pos b hc
  have h3 := Int.fmod_def b c
  have h4 : c ≤ c * b.fdiv c := by
    by_cases hq : b.fdiv c ≤ 0
    · have := Int.mul_nonpos_of_nonneg_of_nonpos (Int.le_of_lt hc) hq
      omega
    · have := Int.mul_le_mul_of_nonneg_left (show (1 : Int) ≤ b.fdiv c by omega) (Int.le_of_lt hc)
      omega
  omega
theorem fmod_half (a : Int) {b : Int} (h : b ≠ 0) (h2 : a.fmod b ≠ 0) : 2 * (b.fmod (a.fmod b)).natAbs < b.natAbs := by
  by_cases hb : 0 < b
  · have h3 := Int.fmod_nonneg_of_pos a hb
    have h4 := Int.fmod_lt_of_pos a hb
    have h5 := fmod_half_pos (c := a.fmod b) (b := b) (by omega) h4
    have h6 := Int.fmod_nonneg_of_pos b (b := a.fmod b) (by omega)
    omega
  · have hb' : 0 < -b := by omega
    have h3 := Int.fmod_nonneg_of_pos (-a) hb'
    have h4 := Int.fmod_lt_of_pos (-a) hb'
    rw [Int.neg_fmod_neg] at h3 h4
    have h5 := fmod_half_pos (c := -(a.fmod b)) (b := -b) (by omega) h4
    rw [Int.neg_fmod_neg] at h5
    have h6 := Int.fmod_nonneg_of_pos (-b) (b := -(a.fmod b)) (by omega)
    rw [Int.neg_fmod_neg] at h6
    omega
theorem log2_of {a k : Nat} (h : a < 2 ^ k) (hk : 0 < k) : a.log2 < k := by
  by_cases ha : a = 0
  · subst ha; simpa using hk
  · exact (Nat.log2_lt ha).mpr h
theorem mulFits_of {i j : Int} {k l : Nat} (h1 : i.natAbs < 2 ^ k) (h2 : j.natAbs < 2 ^ l) (hk : 0 < k) (hl : 0 < l) (h : k + l ≤ 1000000) : mulFits i j = true := by
  unfold mulFits
  have a1 := log2_of h1 hk
  have a2 := log2_of h2 hl
  exact decide_eq_true (by omega)
theorem divFits_of {j : Int} {k : Nat} (h0 : j ≠ 0) (h1 : j.natAbs < 2 ^ k) (hk : 0 < k) (h : k ≤ 9000) : divFits j = true := by
  unfold divFits
  have a1 := log2_of h1 hk
  rw [decide_eq_true h0, decide_eq_true (show j.natAbs.log2 < 9000 by omega)]
  rfl
theorem co_lt {s q t : Int} {C B : Nat} (h1 : s.natAbs < 2 ^ C) (h2 : t.natAbs < 2 ^ C) (h3 : q.natAbs < 2 ^ B) : (s - q * t).natAbs < 2 ^ (C + (B + 1)) := by
  have e1 : (s - q * t).natAbs ≤ s.natAbs + q.natAbs * t.natAbs := by
    rw [← Int.natAbs_mul]; omega
  have e2 : q.natAbs * t.natAbs ≤ 2 ^ B * t.natAbs := Nat.mul_le_mul_right _ (Nat.le_of_lt h3)
  have e3 : 2 ^ B * t.natAbs ≤ 2 ^ B * (2 ^ C - 1) := Nat.mul_le_mul_left _ (by omega)
  have e4 : 2 ^ (C + (B + 1)) = 2 * (2 ^ B * 2 ^ C) := by rw [Nat.pow_add, Nat.pow_succ]; simp [Nat.mul_comm, Nat.mul_left_comm]
  have e5 : 0 < 2 ^ B := Nat.two_pow_pos B
  have e6 : 0 < 2 ^ C := Nat.two_pow_pos C
  have e7 : 2 ^ B * (2 ^ C - 1) + 2 ^ B = 2 ^ B * 2 ^ C := by
    rw [← Nat.mul_succ]; congr 1; omega
  have e8 : 2 ^ C ≤ 2 ^ B * 2 ^ C := Nat.le_mul_of_pos_left _ e5
  omega
/-! ### the loop -/
theorem loop_stop {n : Nat} {a b r0 s0 t0 s1 t1 : Int} {s4 s5 s6 : Sl} : whL (fun ρ τ => ev Φ Ψ ρ τ cCond) (fun ρ τ => evSs Φ Ψ M ρ τ cBody) (n + 1) [.im (.int a), .im (.int b), .im (tri r0 s0 t0), .im (tri 0 s1 t1), s4, s5, s6] τ =
    some (.nx [.im (.int a), .im (.int b), .im (tri r0 s0 t0), .im (tri 0 s1 t1), s4, s5, s6] τ) := by
  rw [whL, cond_ev]
  rfl
theorem loop_step {n : Nat} {a b r0 s0 t0 r1 s1 t1 : Int} {s4 s5 s6 : Sl} (h0 : r1 ≠ 0) (h1 : divFits r1 = true) (m1 : mulFits (r0.fdiv r1) r1 = true) (m2 : mulFits (r0.fdiv r1) s1 = true) (m3 : mulFits (r0.fdiv r1) t1 = true) :
    whL (fun ρ τ => ev Φ Ψ ρ τ cCond) (fun ρ τ => evSs Φ Ψ M ρ τ cBody) (n + 1) [.im (.int a), .im (.int b), .im (tri r0 s0 t0), .im (tri r1 s1 t1), s4, s5, s6] τ =
    whL (fun ρ τ => ev Φ Ψ ρ τ cCond) (fun ρ τ => evSs Φ Ψ M ρ τ cBody) n [.im (.int a), .im (.int b), .im (tri r1 s1 t1), .im (tri (r0.fmod r1) (s0 - r0.fdiv r1 * s1) (t0 - r0.fdiv r1 * t1)), .im (.int (r0.fdiv r1)), s5, s6] τ := by
  rw [whL, cond_ev, decide_eq_false h0]
  show (evSs Φ Ψ M _ τ cBody).bind _ = _
  rw [body_ev h1 m1 m2 m3, show r0 - r0.fdiv r1 * r1 = r0.fmod r1 by rw [Int.fmod_def, Int.mul_comm]]
  rfl
theorem gcd_fmod (a b : Int) : Int.gcd b (a.fmod b) = Int.gcd a b := by
  rw [Int.fmod_def, Int.gcd_sub_mul_left_right, Int.gcd_comm]
theorem loop_all : ∀ (m n C : Nat) (a b r0 s0 t0 r1 s1 t1 : Int) (s4 s5 s6 : Sl), 2 * m + 1 ≤ n → r1.natAbs < 2 ^ m → m ≤ 490 → r0.natAbs < 2 ^ 490 → 0 < C → s0.natAbs < 2 ^ C → t0.natAbs < 2 ^ C → s1.natAbs < 2 ^ C → t1.natAbs < 2 ^ C → C + m * 982 ≤ 900000 →
    ∃ g s t s' t' s4', whL (fun ρ τ => ev Φ Ψ ρ τ cCond) (fun ρ τ => evSs Φ Ψ M ρ τ cBody) n [.im (.int a), .im (.int b), .im (tri r0 s0 t0), .im (tri r1 s1 t1), s4, s5, s6] τ =
      some (.nx [.im (.int a), .im (.int b), .im (tri g s t), .im (tri 0 s' t'), s4', s5, s6] τ) ∧ g.natAbs = Int.gcd r0 r1 := by
  intro m
  induction m with
  | zero =>
    intro n C a b r0 s0 t0 r1 s1 t1 s4 s5 s6 hn h1 _ _ _ _ _ _ _ _
    obtain ⟨n, rfl⟩ : ∃ k, n = k + 1 := ⟨n - 1, by omega⟩
    have e : r1 = 0 := by omega
    subst e
    exact ⟨_, _, _, _, _, _, loop_stop, by simp⟩
  | succ m ih =>
    intro n C a b r0 s0 t0 r1 s1 t1 s4 s5 s6 hn h1 hm h0 hC a1 a2 a3 a4 hc
    obtain ⟨n, rfl⟩ : ∃ k, n = k + 1 := ⟨n - 1, by omega⟩
    by_cases e : r1 = 0
    · subst e
      exact ⟨_, _, _, _, _, _, loop_stop, by simp⟩
    · have hr1 : r1.natAbs < 2 ^ 490 := Nat.lt_of_lt_of_le h1 (Nat.pow_le_pow_right (by omega) hm)
      have hq : (r0.fdiv r1).natAbs < 2 ^ 490 := Nat.lt_of_le_of_lt (Int.natAbs_fdiv_le_natAbs r0 r1) h0
      rw [loop_step e (divFits_of e hr1 (by omega) (by omega)) (mulFits_of hq hr1 (by omega) (by omega) (by omega)) (mulFits_of hq a3 (by omega) hC (by omega)) (mulFits_of hq a4 (by omega) hC (by omega))]
      have b1 := co_lt a1 a3 hq
      have b2 := co_lt a2 a4 hq
      have b3 : s1.natAbs < 2 ^ (C + (490 + 1)) := Nat.lt_of_lt_of_le a3 (Nat.pow_le_pow_right (by omega) (by omega))
      have b4 : t1.natAbs < 2 ^ (C + (490 + 1)) := Nat.lt_of_lt_of_le a4 (Nat.pow_le_pow_right (by omega) (by omega))
      have hf := fmod_abs_lt r0 e
      obtain ⟨n, rfl⟩ : ∃ k, n = k + 1 := ⟨n - 1, by omega⟩
      by_cases e2 : r0.fmod r1 = 0
      · rw [e2]
        refine ⟨_, _, _, _, _, _, loop_stop, ?_⟩
        rw [← gcd_fmod r0 r1, e2]
        simp
      · have hr2 : (r0.fmod r1).natAbs < 2 ^ 490 := Nat.lt_trans hf hr1
        have hq2 : (r1.fdiv (r0.fmod r1)).natAbs < 2 ^ 490 := Nat.lt_of_le_of_lt (Int.natAbs_fdiv_le_natAbs _ _) hr1
        rw [loop_step e2 (divFits_of e2 hr2 (by omega) (by omega)) (mulFits_of hq2 hr2 (by omega) (by omega) (by omega)) (mulFits_of hq2 b1 (by omega) (by omega) (by omega)) (mulFits_of hq2 b2 (by omega) (by omega) (by omega))]
        have c1 := co_lt b3 b1 hq2
        have c2 := co_lt b4 b2 hq2
        have c3 : (s0 - r0.fdiv r1 * s1).natAbs < 2 ^ (C + (490 + 1) + (490 + 1)) := Nat.lt_of_lt_of_le b1 (Nat.pow_le_pow_right (by omega) (by omega))
        have c4 : (t0 - r0.fdiv r1 * t1).natAbs < 2 ^ (C + (490 + 1) + (490 + 1)) := Nat.lt_of_lt_of_le b2 (Nat.pow_le_pow_right (by omega) (by omega))
        have hh := fmod_half r0 e e2
        obtain ⟨g, s, t, s', t', s4', w1, w2⟩ := ih n (C + (490 + 1) + (490 + 1)) a b (r0.fmod r1) _ _ (r1.fmod (r0.fmod r1)) _ _ (.im (.int (r1.fdiv (r0.fmod r1)))) s5 s6 (by omega) (by rw [Nat.pow_succ] at h1; omega) (by omega) hr2 (by omega) c3 c4 c1 c2 (by omega)
        exact ⟨g, s, t, s', t', s4', w1, by rw [w2, gcd_fmod, gcd_fmod]⟩
/-- what common answers -/
theorem common_ev {a b : Int} (h1 : a.natAbs < 2 ^ 490) (h2 : b.natAbs < 2 ^ 490) : ∃ x y : Int, (evSs Φ Ψ 1000 (start0 7 [.int a, .int b]) τ cCode).bind retOf = some ⟨.S, tri (Int.gcd a b) x y⟩ := by
  have e0 : evSs Φ Ψ 1000 (start0 7 [.int a, .int b]) τ cCode = evSs Φ Ψ 1000 [.im (.int a), .im (.int b), .im (tri a 1 0), .im (tri b 0 1), .un, .un, .un] τ (cCode.drop 1) := by
    simp [cCode, evSs, evS, ev, evs, start0, stb, shortL, putTg, setsD, List.replicate]
  obtain ⟨g, s, t, s', t', s4', w1, w2⟩ := loop_all (Φ := Φ) (Ψ := Ψ) (M := 1000) (τ := τ) 490 1000 1 a b a 1 0 b 0 1 .un .un .un (by omega) h2 (by omega) h1 (by omega) (by decide) (by decide) (by decide) (by decide) (by omega)
  have e1 : evSs Φ Ψ 1000 [.im (.int a), .im (.int b), .im (tri a 1 0), .im (tri b 0 1), .un, .un, .un] τ (cCode.drop 1) = evSs Φ Ψ 1000 [.im (.int a), .im (.int b), .im (tri g s t), .im (tri 0 s' t'), s4', .un, .un] τ (cCode.drop 2) := by
    show evSs Φ Ψ 1000 _ τ (.whl cCond cBody :: cCode.drop 2) = _
    rw [evSs, evS, w1]
    rfl
  rw [e0, e1]
  by_cases hg : g < 0
  · refine ⟨0 - s, 0 - t, ?_⟩
    have e2 : (0 - g : Int) = (Int.gcd a b : Nat) := by omega
    simp [cCode, evSs, evS, ev, evs, evAll, idxD, atD, atI, ixN, cmpD, hg, itD, compL, wipeR, tgVs, tgD, binD, stb, shortL, bltD, retOf]
    omega
  · refine ⟨s, t, ?_⟩
    have e2 : (g : Int) = (Int.gcd a b : Nat) := by omega
    simp [cCode, evSs, evS, ev, evs, evAll, idxD, atD, atI, ixN, cmpD, hg, retOf]
    omega
end Rt

/-! ## Rt2 -/
set_option exponentiation.threshold 2000
namespace Rt
open PySem PySem.Spec PyProof.Rows L2 Ev
/-- a fraction as the program keeps it -/
def enc (q : Rat) : Ev.D := .tuple [.int q.num, .int q.den]
noncomputable def smK (x : Int) : Bool := Nat.ble (absZ x) (Nat.pow 2 480)
theorem smK_iff {x : Int} : smK x = true ↔ x.natAbs ≤ 2 ^ 480 := by
  unfold smK
  rw [absZ_eq, ble_dec]
  exact decide_eq_true_iff
noncomputable def negK (x : Int) : Bool := @Int.rec (fun _ => Bool) (fun _ => false) (fun _ => true) x
theorem negK_eq (x : Int) : negK x = decide (x < 0) := by
  cases x with
  | ofNat n => exact (decide_eq_false (by simp)).symm
  | negSucc n => exact (decide_eq_true (by omega)).symm
/-- the lowest terms of t / b -/
noncomputable def qK (t b : Int) : Ev.D := .tuple [.int (iteB (negK b) (iteB (negK t) (.ofNat (Nat.div (absZ t) (Nat.gcd (absZ t) (absZ b)))) (Int.neg (.ofNat (Nat.div (absZ t) (Nat.gcd (absZ t) (absZ b))))))
    (iteB (negK t) (Int.neg (.ofNat (Nat.div (absZ t) (Nat.gcd (absZ t) (absZ b))))) (.ofNat (Nat.div (absZ t) (Nat.gcd (absZ t) (absZ b)))))), .int (.ofNat (Nat.div (absZ b) (Nat.gcd (absZ t) (absZ b))))]
noncomputable def fracK (t b : Int) : Option Ev.R := iteB (Nat.beq (absZ b) 0) none (iteB (smK t) (iteB (smK b) (some ⟨.S, qK t b⟩) none) none)
noncomputable def fracF : List Ev.D → Option Ev.R
  | [.int t, .int b] => fracK t b
  | _ => none
def fCode (i : Nat) : List S := [.ite (.cmp .eq (.var 1) (.cst (.int 0))) [.nev] [],
    .set (.nm 2) (.idx (.call i [(.var 0), (.var 1)]) (.cst (.int 0))),
    .ite (.cmp .lt (.var 1) (.cst (.int 0))) [.set (.nm 2) (.bin .sub (.cst (.int 0)) (.var 2))] [],
    .ret (.tup [(.bin .fdiv (.var 0) (.var 2)), (.bin .fdiv (.var 1) (.var 2))])]
variable {Φ : Nat → List Ev.D → Option Ev.R} {Ψ : Nat → List Ev.D → Tp → Option (Ev.R × Tp)} {M : Nat} {τ : Tp}
theorem qK_eq {t b : Int} (hb : b ≠ 0) : qK t b = .tuple [.int (t.fdiv (if b < 0 then -(Int.gcd t b : Int) else Int.gcd t b)), .int (b.fdiv (if b < 0 then -(Int.gcd t b : Int) else Int.gcd t b))] := by
  have hg : 0 < Int.gcd t b := Int.gcd_pos_of_ne_zero_right t hb
  have key : ∀ {x : Int}, (Int.gcd t b : Int) ∣ x → x.fdiv (Int.gcd t b : Int) = if x < 0 then -((x.natAbs / Int.gcd t b : Nat) : Int) else ((x.natAbs / Int.gcd t b : Nat) : Int) := by
    intro x hx
    obtain ⟨k, rfl⟩ := hx
    have h1 : ((Int.gcd t b : Int) * k).fdiv (Int.gcd t b : Int) = k := by
      rw [Int.mul_comm]; exact Int.mul_fdiv_cancel k (by omega)
    have h2 : ((Int.gcd t b : Int) * k).natAbs / Int.gcd t b = k.natAbs := by
      rw [Int.natAbs_mul, Int.natAbs_natCast]
      exact Nat.mul_div_cancel_left _ hg
    rw [h1, h2]
    by_cases hk : k < 0
    · rw [if_pos (Int.mul_neg_of_pos_of_neg (by omega) hk)]; omega
    · rw [if_neg (by have := Int.mul_nonneg (a := (Int.gcd t b : Int)) (b := k) (by omega) (by omega); omega)]; omega
  have e : ∀ x : Int, x.fdiv (if b < 0 then -(Int.gcd t b : Int) else Int.gcd t b) = if b < 0 then (-x).fdiv (Int.gcd t b : Int) else x.fdiv (Int.gcd t b : Int) := by
    intro x
    by_cases h : b < 0
    · rw [if_pos h, if_pos h, ← Int.neg_fdiv_neg, Int.neg_neg]
    · rw [if_neg h, if_neg h]
  rw [e, e]
  unfold qK
  simp only [iteB_eq, negK_eq, absZ_eq, decide_eq_true_eq]
  have ht : (Int.gcd t b : Int) ∣ t := Int.gcd_dvd_left ..
  have hbd : (Int.gcd t b : Int) ∣ b := Int.gcd_dvd_right ..
  by_cases h : b < 0
  · simp only [if_pos h]
    rw [key ((Int.dvd_neg).mpr ht), key ((Int.dvd_neg).mpr hbd), Int.natAbs_neg, Int.natAbs_neg, if_neg (show ¬ -b < 0 by omega)]
    by_cases h0 : t < 0
    · rw [if_pos h0, if_neg (show ¬ -t < 0 by omega)]; rfl
    · rw [if_neg h0]
      by_cases h1 : -t < 0
      · rw [if_pos h1]; rfl
      · have e0 : t.natAbs / Int.gcd t b = 0 := by rw [show t.natAbs = 0 by omega]; exact Nat.zero_div _
        show PyData.tuple [.int (-((t.natAbs / Int.gcd t b : Nat) : Int)), .int ((b.natAbs / Int.gcd t b : Nat) : Int)] = _
        rw [if_neg h1, e0]
        rfl
  · simp only [if_neg h]
    rw [key ht, key hbd, if_neg h]
    by_cases h0 : t < 0
    · rw [if_pos h0, if_pos h0]; rfl
    · rw [if_neg h0, if_neg h0]; rfl
theorem frac_own {i : Nat} (hc : ∀ a b : Int, a.natAbs < 2 ^ 490 → b.natAbs < 2 ^ 490 → ∃ x y : Int, Φ i [.int a, .int b] = some ⟨.S, tri (Int.gcd a b) x y⟩) : ∀ ds r, fracF ds = some r → ds.length = 2 ∧ ∃ M o, evSs Φ Ψ M (start0 3 ds) τ (fCode i) = some o ∧ retOf o = some r := by
  intro ds r h
  unfold fracF at h
  split at h
  · rename_i t b
    refine ⟨rfl, 1, ?_⟩
    unfold fracK at h
    rw [iteB_eq] at h
    split at h
    · cases h
    rename_i hb
    rw [iteB_eq] at h
    split at h
    · rename_i h1
      rw [iteB_eq] at h
      split at h
      · rename_i h2
        cases h
        have hb0 : b ≠ 0 := fun e => by subst e; exact hb rfl
        have s1 := smK_iff.mp h1
        have s2 := smK_iff.mp h2
        have lt1 : t.natAbs < 2 ^ 490 := Nat.lt_of_le_of_lt s1 (by decide)
        have lt2 : b.natAbs < 2 ^ 490 := Nat.lt_of_le_of_lt s2 (by decide)
        obtain ⟨x, y, hq⟩ := hc t b lt1 lt2
        have hg : 0 < Int.gcd t b := Int.gcd_pos_of_ne_zero_right t hb0
        have hg2 : Int.gcd t b < 2 ^ 490 := Nat.lt_of_le_of_lt (Int.gcd_le_natAbs_right t hb0) lt2
        rw [qK_eq hb0]
        by_cases hn : b < 0
        · have d1 : divFits (-(Int.gcd t b : Int)) = true := divFits_of (k := 490) (by omega) (by omega) (by omega) (by omega)
          simp [fCode, evSs, evS, ev, evs, start0, List.replicate, cmpD, hb0, hn, hq, clean, noList, noListAll, idxD, atD, atI, ixN, putTg, putR, binD, d1, stb, shortL, retOf]
        · have d1 : divFits (Int.gcd t b : Int) = true := divFits_of (k := 490) (by omega) (by omega) (by omega) (by omega)
          simp [fCode, evSs, evS, ev, evs, start0, List.replicate, cmpD, hb0, hn, hq, clean, noList, noListAll, idxD, atD, atI, ixN, putTg, putR, binD, d1, stb, shortL, retOf]
      · cases h
    · cases h
  · cases h
/-- common, as a def whose code is run -/
theorem common_φ {φ : List Ev.D → Option Ev.R} {Φ' : Nat → List Ev.D → Option Ev.R} (h : φ = runF Φ' 1000 7 2 cCode) : ∀ a b : Int, a.natAbs < 2 ^ 490 → b.natAbs < 2 ^ 490 → ∃ x y : Int, φ [.int a, .int b] = some ⟨.S, tri (Int.gcd a b) x y⟩ := by
  intro a b h1 h2
  subst h
  unfold runF
  rw [if_pos (show [PyData.int a, PyData.int b].length = 2 from rfl)]
  obtain ⟨x, y, e⟩ := common_ev (Φ := Φ') (Ψ := Ψof []) (τ := τ0) h1 h2
  exact ⟨x, y, by rw [evSsK_eq]; exact e⟩
end Rt

/-! ## Rt3 -/
set_option exponentiation.threshold 2000
namespace Rt
open PySem PySem.Spec PyProof.Rows L2 Ev
noncomputable def sm2 (x : Int) : Bool := Nat.ble (absZ x) (Nat.pow 2 239)
theorem sm2_iff {x : Int} : sm2 x = true ↔ x.natAbs ≤ 2 ^ 239 := by
  unfold sm2
  rw [absZ_eq, ble_dec]
  exact decide_eq_true_iff
/-- four small numbers -/
noncomputable def sm4 (a b c d : Int) (o : Option Ev.R) : Option Ev.R := iteB (sm2 a) (iteB (sm2 b) (iteB (sm2 c) (iteB (sm2 d) o none) none) none) none
theorem sm4_some {a b c d : Int} {o : Option Ev.R} {r : Ev.R} (h : sm4 a b c d o = some r) : a.natAbs ≤ 2 ^ 239 ∧ b.natAbs ≤ 2 ^ 239 ∧ c.natAbs ≤ 2 ^ 239 ∧ d.natAbs ≤ 2 ^ 239 ∧ o = some r := by
  unfold sm4 at h
  simp only [iteB_eq] at h
  split at h <;> first | cases h | skip
  split at h <;> first | cases h | skip
  split at h <;> first | cases h | skip
  split at h
  · exact ⟨sm2_iff.mp (by assumption), sm2_iff.mp (by assumption), sm2_iff.mp (by assumption), sm2_iff.mp (by assumption), h⟩
  · cases h
theorem sm4_of {a b c d : Int} {o : Option Ev.R} (h1 : a.natAbs ≤ 2 ^ 239) (h2 : b.natAbs ≤ 2 ^ 239) (h3 : c.natAbs ≤ 2 ^ 239) (h4 : d.natAbs ≤ 2 ^ 239) : sm4 a b c d o = o := by
  unfold sm4
  rw [sm2_iff.mpr h1, sm2_iff.mpr h2, sm2_iff.mpr h3, sm2_iff.mpr h4]
  rfl
noncomputable def plusF : List Ev.D → Option Ev.R
  | [.tuple [.int a, .int b], .tuple [.int c, .int d]] => sm4 a b c d (fracK (addZ (mulZ a d) (mulZ c b)) (mulZ b d))
  | _ => none
noncomputable def minusF : List Ev.D → Option Ev.R
  | [.tuple [.int a, .int b], .tuple [.int c, .int d]] => sm4 a b c d (fracK (subZ (mulZ a d) (mulZ c b)) (mulZ b d))
  | _ => none
noncomputable def timesF : List Ev.D → Option Ev.R
  | [.tuple [.int a, .int b], .tuple [.int c, .int d]] => sm4 a b c d (fracK (mulZ a c) (mulZ b d))
  | _ => none
noncomputable def overF : List Ev.D → Option Ev.R
  | [.tuple [.int a, .int b], .tuple [.int c, .int d]] => sm4 a b c d (fracK (mulZ a d) (mulZ b c))
  | _ => none
def ix (i j : Nat) : E := .idx (.var i) (.cst (.int j))
def plusC (i : Nat) : List S := [.ret (.call i [(.bin .add (.bin .mul (.idx (.var 0) (.cst (.int 0))) (.idx (.var 1) (.cst (.int 1)))) (.bin .mul (.idx (.var 1) (.cst (.int 0))) (.idx (.var 0) (.cst (.int 1))))), (.bin .mul (.idx (.var 0) (.cst (.int 1))) (.idx (.var 1) (.cst (.int 1))))])]
def minusC (i : Nat) : List S := [.ret (.call i [(.bin .sub (.bin .mul (.idx (.var 0) (.cst (.int 0))) (.idx (.var 1) (.cst (.int 1)))) (.bin .mul (.idx (.var 1) (.cst (.int 0))) (.idx (.var 0) (.cst (.int 1))))), (.bin .mul (.idx (.var 0) (.cst (.int 1))) (.idx (.var 1) (.cst (.int 1))))])]
def timesC (i : Nat) : List S := [.ret (.call i [(.bin .mul (.idx (.var 0) (.cst (.int 0))) (.idx (.var 1) (.cst (.int 0)))), (.bin .mul (.idx (.var 0) (.cst (.int 1))) (.idx (.var 1) (.cst (.int 1))))])]
def overC (i : Nat) : List S := [.ret (.call i [(.bin .mul (.idx (.var 0) (.cst (.int 0))) (.idx (.var 1) (.cst (.int 1)))), (.bin .mul (.idx (.var 0) (.cst (.int 1))) (.idx (.var 1) (.cst (.int 0))))])]
theorem fracK_clean {t b : Int} {r : Ev.R} (h : fracK t b = some r) : clean r = true ∧ ∃ d, r = ⟨.S, d⟩ := by
  unfold fracK at h
  simp only [iteB_eq] at h
  split at h <;> first | cases h | skip
  split at h <;> first | cases h | skip
  split at h <;> first | cases h | skip
  exact ⟨by simp [qK, clean, noList, noListAll], _, rfl⟩
theorem mf {a b : Int} (h1 : a.natAbs ≤ 2 ^ 239) (h2 : b.natAbs ≤ 2 ^ 239) : mulFits a b = true :=
  mulFits_of (k := 240) (l := 240) (Nat.lt_of_le_of_lt h1 (by decide)) (Nat.lt_of_le_of_lt h2 (by decide)) (by decide) (by decide) (by decide)
variable {Φ : Nat → List Ev.D → Option Ev.R} {Ψ : Nat → List Ev.D → Tp → Option (Ev.R × Tp)} {M : Nat} {τ : Tp}
theorem plus_own {i : Nat} (hf : Φ i = fracF) : ∀ ds r, plusF ds = some r → ds.length = 2 ∧ ∃ M o, evSs Φ Ψ M (start0 2 ds) τ (plusC i) = some o ∧ retOf o = some r := by
  intro ds r h
  unfold plusF at h
  split at h
  · rename_i a b c d
    obtain ⟨h1, h2, h3, h4, h⟩ := sm4_some h
    rw [addZ_eq, mulZ_eq, mulZ_eq, mulZ_eq] at h
    obtain ⟨hc, dd, rfl⟩ := fracK_clean h
    have h' : fracF [.int (a * d + c * b), .int (b * d)] = some ⟨.S, dd⟩ := h
    exact ⟨rfl, 1, by simp [plusC, evSs, evS, ev, evs, start0, idxD, atD, atI, ixN, binD, mf h1 h4, mf h3 h2, mf h2 h4, hf, h', hc, retOf]⟩
  · cases h
theorem minus_own {i : Nat} (hf : Φ i = fracF) : ∀ ds r, minusF ds = some r → ds.length = 2 ∧ ∃ M o, evSs Φ Ψ M (start0 2 ds) τ (minusC i) = some o ∧ retOf o = some r := by
  intro ds r h
  unfold minusF at h
  split at h
  · rename_i a b c d
    obtain ⟨h1, h2, h3, h4, h⟩ := sm4_some h
    rw [subZ_eq, mulZ_eq, mulZ_eq, mulZ_eq] at h
    obtain ⟨hc, dd, rfl⟩ := fracK_clean h
    have h' : fracF [.int (a * d - c * b), .int (b * d)] = some ⟨.S, dd⟩ := h
    exact ⟨rfl, 1, by simp [minusC, evSs, evS, ev, evs, start0, idxD, atD, atI, ixN, binD, mf h1 h4, mf h3 h2, mf h2 h4, hf, h', hc, retOf]⟩
  · cases h
theorem times_own {i : Nat} (hf : Φ i = fracF) : ∀ ds r, timesF ds = some r → ds.length = 2 ∧ ∃ M o, evSs Φ Ψ M (start0 2 ds) τ (timesC i) = some o ∧ retOf o = some r := by
  intro ds r h
  unfold timesF at h
  split at h
  · rename_i a b c d
    obtain ⟨h1, h2, h3, h4, h⟩ := sm4_some h
    rw [mulZ_eq, mulZ_eq] at h
    obtain ⟨hc, dd, rfl⟩ := fracK_clean h
    have h' : fracF [.int (a * c), .int (b * d)] = some ⟨.S, dd⟩ := h
    exact ⟨rfl, 1, by simp [timesC, evSs, evS, ev, evs, start0, idxD, atD, atI, ixN, binD, mf h1 h3, mf h2 h4, hf, h', hc, retOf]⟩
  · cases h
theorem over_own {i : Nat} (hf : Φ i = fracF) : ∀ ds r, overF ds = some r → ds.length = 2 ∧ ∃ M o, evSs Φ Ψ M (start0 2 ds) τ (overC i) = some o ∧ retOf o = some r := by
  intro ds r h
  unfold overF at h
  split at h
  · rename_i a b c d
    obtain ⟨h1, h2, h3, h4, h⟩ := sm4_some h
    rw [mulZ_eq, mulZ_eq] at h
    obtain ⟨hc, dd, rfl⟩ := fracK_clean h
    have h' : fracF [.int (a * d), .int (b * c)] = some ⟨.S, dd⟩ := h
    exact ⟨rfl, 1, by simp [overC, evSs, evS, ev, evs, start0, idxD, atD, atI, ixN, binD, mf h1 h4, mf h2 h3, hf, h', hc, retOf]⟩
  · cases h
/-! ### as rationals -/
def Sm (q : Rat) : Prop := q.num.natAbs ≤ 2 ^ 239 ∧ q.den ≤ 2 ^ 239
theorem qK_rat {t : Int} {n : Nat} (hn : n ≠ 0) : qK t (n : Int) = enc (mkRat t n) := by
  unfold enc
  rw [Rat.num_mkRat, Rat.den_mkRat, if_neg hn, if_neg hn]
  unfold qK
  simp only [iteB_eq, negK_eq, absZ_eq, decide_eq_true_eq, Int.natAbs_natCast]
  rw [if_neg (show ¬ (n : Int) < 0 by omega), Nat.gcd_comm]
  have hg : 0 < n.gcd t.natAbs := Nat.gcd_pos_of_pos_left _ (by omega)
  obtain ⟨k, hk⟩ : (n.gcd t.natAbs : Int) ∣ t := Int.ofNat_dvd_left.mpr (Nat.gcd_dvd_right ..)
  have e1 : t / (n.gcd t.natAbs : Int) = k := by
    have := Int.mul_ediv_cancel_left k (show (n.gcd t.natAbs : Int) ≠ 0 by omega)
    rw [← hk] at this
    exact this
  have e2 : t.natAbs / n.gcd t.natAbs = k.natAbs := by
    have h1 : t.natAbs = n.gcd t.natAbs * k.natAbs := by
      have := congrArg Int.natAbs hk
      rw [Int.natAbs_mul, Int.natAbs_natCast] at this
      exact this
    have h2 := Nat.mul_div_cancel_left k.natAbs hg
    rw [← h1] at h2
    exact h2
  rw [e1]
  have e3 : (Nat.div t.natAbs (n.gcd t.natAbs)) = k.natAbs := e2
  rw [e3]
  have hk0 : t < 0 ↔ k < 0 := by
    constructor
    · intro h
      apply Decidable.byContradiction
      intro hn'
      have := Int.mul_nonneg (a := (n.gcd t.natAbs : Int)) (b := k) (by omega) (by omega)
      omega
    · intro h
      have := Int.mul_neg_of_pos_of_neg (a := (n.gcd t.natAbs : Int)) (b := k) (by omega) h
      omega
  by_cases h : t < 0
  · rw [if_pos h]
    have := hk0.mp h
    have e4 : Int.neg (.ofNat k.natAbs) = k := by show -((k.natAbs : Nat) : Int) = k; omega
    rw [e4]; rfl
  · rw [if_neg h]
    have : ¬ k < 0 := fun z => h (hk0.mpr z)
    have e4 : (Int.ofNat k.natAbs) = k := by show ((k.natAbs : Nat) : Int) = k; omega
    rw [e4]; rfl
theorem fracK_rat {t : Int} {n : Nat} (hn : n ≠ 0) (h1 : t.natAbs ≤ 2 ^ 480) (h2 : n ≤ 2 ^ 480) : fracK t (n : Int) = some ⟨.S, enc (mkRat t n)⟩ := by
  unfold fracK
  rw [iteB_eq, absZ_eq, beq_dec, if_neg (by simpa using hn), smK_iff.mpr h1, smK_iff.mpr (by simpa using h2), qK_rat hn]
  rfl
theorem two_pow {a b : Nat} (h1 : a ≤ 2 ^ 239) (h2 : b ≤ 2 ^ 239) : a * b ≤ 2 ^ 478 := by
  have := Nat.mul_le_mul h1 h2
  have e : (2 ^ 239 * 2 ^ 239 : Nat) = 2 ^ 478 := by rw [← Nat.pow_add]
  omega
theorem plus_rat {p q : Rat} (hp : Sm p) (hq : Sm q) : plusF [enc p, enc q] = some ⟨.S, enc (p + q)⟩ := by
  unfold plusF enc
  simp only
  rw [sm4_of hp.1 (by simpa using hp.2) hq.1 (by simpa using hq.2), addZ_eq, mulZ_eq, mulZ_eq, mulZ_eq]
  have hd : p.den * q.den ≠ 0 := Nat.mul_ne_zero p.den_nz q.den_nz
  have b1 := two_pow hp.1 hq.2
  have b2 := two_pow hq.1 hp.2
  have b3 := two_pow hp.2 hq.2
  have := fracK_rat (t := p.num * q.den + q.num * p.den) hd (by
    have e1 : (p.num * (q.den : Int)).natAbs = p.num.natAbs * q.den := by rw [Int.natAbs_mul, Int.natAbs_natCast]
    have e2 : (q.num * (p.den : Int)).natAbs = q.num.natAbs * p.den := by rw [Int.natAbs_mul, Int.natAbs_natCast]
    omega) (by omega)
  rw [Int.natCast_mul] at this
  rw [this, ← Rat.add_def']
  rfl
theorem minus_rat {p q : Rat} (hp : Sm p) (hq : Sm q) : minusF [enc p, enc q] = some ⟨.S, enc (p - q)⟩ := by
  unfold minusF enc
  simp only
  rw [sm4_of hp.1 (by simpa using hp.2) hq.1 (by simpa using hq.2), subZ_eq, mulZ_eq, mulZ_eq, mulZ_eq]
  have hd : p.den * q.den ≠ 0 := Nat.mul_ne_zero p.den_nz q.den_nz
  have b1 := two_pow hp.1 hq.2
  have b2 := two_pow hq.1 hp.2
  have b3 := two_pow hp.2 hq.2
  have := fracK_rat (t := p.num * q.den - q.num * p.den) hd (by
    have e1 : (p.num * (q.den : Int)).natAbs = p.num.natAbs * q.den := by rw [Int.natAbs_mul, Int.natAbs_natCast]
    have e2 : (q.num * (p.den : Int)).natAbs = q.num.natAbs * p.den := by rw [Int.natAbs_mul, Int.natAbs_natCast]
    omega) (by omega)
  rw [Int.natCast_mul] at this
  rw [this, ← Rat.sub_def']
  rfl
theorem times_rat {p q : Rat} (hp : Sm p) (hq : Sm q) : timesF [enc p, enc q] = some ⟨.S, enc (p * q)⟩ := by
  unfold timesF enc
  simp only
  rw [sm4_of hp.1 (by simpa using hp.2) hq.1 (by simpa using hq.2), mulZ_eq, mulZ_eq]
  have hd : p.den * q.den ≠ 0 := Nat.mul_ne_zero p.den_nz q.den_nz
  have b1 := two_pow hp.1 hq.1
  have b3 := two_pow hp.2 hq.2
  have := fracK_rat (t := p.num * q.num) hd (by rw [Int.natAbs_mul]; omega) (by omega)
  rw [Int.natCast_mul] at this
  rw [this, ← Rat.mul_def']
  rfl
end Rt

/-! ## Rt4 -/
set_option exponentiation.threshold 2000
/-! polynomials over fractions: trimmed, add, scale, .. as lists of rationals -/
namespace Rt
open PySem PySem.Spec PyProof.Rows L2 Ev
abbrev P (l : List Rat) : Ev.D := .tuple (l.map enc)
theorem enc_zero : enc 0 = .tuple [.int 0, .int 1] := rfl
theorem enc_one : enc 1 = .tuple [.int 1, .int 1] := rfl
theorem enc_int (z : Int) : enc (z : Rat) = .tuple [.int z, .int 1] := by unfold enc; simp
theorem shaped_enc (q : Rat) : SeqAt.shaped (enc q) = true := by
  unfold SeqAt.shaped enc
  simp [PyData.canLay0, PyData.canLayAll0, PyData.depth, PyData.depthAll]
theorem eq_zero_ev (q : Rat) : cmpD .eq (enc q) (.tuple [.int 0, .int 1]) = some (decide (q = 0)) := by
  have h1 := shaped_enc q
  have h2 : SeqAt.shaped (enc 0) = true := shaped_enc 0
  rw [enc_zero] at h2
  have e : cmpD .eq (enc q) (.tuple [.int 0, .int 1]) = if SeqAt.shaped (enc q) && SeqAt.shaped (.tuple [.int 0, .int 1]) then some (PyData.eqv (enc q) (.tuple [.int 0, .int 1])) else none := rfl
  rw [e, h1, h2]
  simp only [Bool.and_self, if_true, Option.some.injEq]
  unfold enc
  simp only [PyData.eqv, PyData.eqvAll]
  by_cases h : q = 0
  · subst h; rfl
  · rw [decide_eq_false h]
    have : q.num ≠ 0 := fun z => h (Rat.num_eq_zero.mp z)
    simp [this]
/-! ### trimmed -/
def tl (l : List Rat) : Nat → Nat
  | 0 => 0
  | m + 1 => if l[m]? = some 0 then tl l m else m + 1
def trim (l : List Rat) : List Rat := l.take (tl l l.length)
theorem tl_le (l : List Rat) : ∀ m, tl l m ≤ m
  | 0 => Nat.le_refl _
  | m + 1 => by
    unfold tl
    split
    · exact Nat.le_succ_of_le (tl_le l m)
    · exact Nat.le_refl _
theorem tl_zero (l : List Rat) : ∀ m i, tl l m ≤ i → i < m → l[i]?.getD 0 = 0
  | 0, i, _, h => by omega
  | m + 1, i, h1, h2 => by
    unfold tl at h1
    split at h1
    · rename_i h
      by_cases e : i = m
      · subst e; rw [h]; rfl
      · exact tl_zero l m i h1 (by omega)
    · omega
theorem tl_last (l : List Rat) : ∀ m, m ≤ l.length → 0 < tl l m → l[tl l m - 1]?.getD 0 ≠ 0
  | 0, _, h => by simp [tl] at h
  | m + 1, hl, h => by
    unfold tl at h ⊢
    split at h
    · rename_i e
      rw [if_pos e]
      exact tl_last l m (by omega) h
    · rename_i e
      rw [if_neg e]
      simp only [Nat.add_sub_cancel]
      have hm : m < l.length := by omega
      rw [List.getElem?_eq_getElem hm] at e ⊢
      exact fun z => e (congrArg some z)
def tCond : E := .con (.cmp .gt (.var 1) (.cst (.int 0))) (.cmp .eq (.idx (.var 0) (.bin .sub (.var 1) (.cst (.int 1)))) (.cst (.tuple [.int 0, .int 1])))
def tBody : List S := [.aug 1 .sub (.cst (.int 1))]
def tCode : List S := [.set (.nm 1) (.blt .len [(.var 0)]), .whl tCond tBody, .ret (.blt .tuple [(.slcH (.var 0) (.var 1))])]
variable {Φ : Nat → List Ev.D → Option Ev.R} {Ψ : Nat → List Ev.D → Tp → Option (Ev.R × Tp)} {M : Nat} {τ : Tp}
theorem at_P {l : List Rat} {m : Nat} (h : m < l.length) : atD (l.map enc) (m : Int) = some (enc l[m]) := by
  unfold atD atI ixN
  rw [if_pos (by omega), if_pos (by rw [List.length_map]; omega)]
  simp [h]
theorem t_loop (l : List Rat) : ∀ m n, m ≤ l.length → m < n → whL (fun ρ τ => ev Φ Ψ ρ τ tCond) (fun ρ τ => evSs Φ Ψ M ρ τ tBody) n [.im (P l), .im (.int (m : Int))] τ = some (.nx [.im (P l), .im (.int (tl l m : Int))] τ)
  | 0, n, _, hn => by
    obtain ⟨n, rfl⟩ : ∃ k, n = k + 1 := ⟨n - 1, by omega⟩
    rw [whL]
    have e : ev Φ Ψ [.im (P l), .im (.int ((0 : Nat) : Int))] τ tCond = some (⟨.S, .bool false⟩, τ) := by
      simp [tCond, ev, cmpD]
    rw [e]
    rfl
  | m + 1, n, hl, hn => by
    obtain ⟨n, rfl⟩ : ∃ k, n = k + 1 := ⟨n - 1, by omega⟩
    have hm : m < l.length := by omega
    have e : ev Φ Ψ [.im (P l), .im (.int ((m + 1 : Nat) : Int))] τ tCond = some (⟨.S, .bool (decide (l[m] = 0))⟩, τ) := by
      have e1 : ((m + 1 : Nat) : Int) - 1 = (m : Int) := by omega
      have e2 := at_P hm
      have e3 := eq_zero_ev l[m]
      have e4 : cmpD .gt (.int ((m + 1 : Nat) : Int)) (.int 0) = some true := by
        show some (decide (0 < ((m + 1 : Nat) : Int))) = some true
        rw [decide_eq_true (by omega)]
      simp only [tCond, ev, List.getElem?_cons_zero, List.getElem?_cons_succ, Option.bind_some, e4, Option.map_some, binD, e1, idxD, P, e2, e3]
    rw [whL, e]
    by_cases h : l[m] = 0
    · rw [decide_eq_true h]
      have eb : evSs Φ Ψ M [.im (P l), .im (.int ((m + 1 : Nat) : Int))] τ tBody = some (.nx [.im (P l), .im (.int (m : Int))] τ) := by
        simp [tBody, evSs, evS, ev, augD]
      simp only [Option.bind_some, eb]
      rw [t_loop l m n (by omega) (by omega)]
      rw [show tl l (m + 1) = tl l m by rw [tl, if_pos (by rw [List.getElem?_eq_getElem hm, h])]]
    · rw [decide_eq_false h]
      rw [show tl l (m + 1) = m + 1 by rw [tl, if_neg (by rw [List.getElem?_eq_getElem hm]; exact fun z => h (Option.some.inj z))]]
      rfl
theorem cut_P (l : List Rat) (t : Nat) (h : t ≤ l.length) : Ev.cutD (l.map enc) none (some (t : Int)) = (l.take t).map enc := by
  unfold Ev.cutD
  rw [HT.sIx_nat, HT.sIx_none, List.length_map, Nat.min_eq_left h, Nat.sub_zero, List.drop_zero, List.map_take]
theorem trimmed_ev {l : List Rat} (h : l.length < 999) : (evSs Φ Ψ 1000 (start0 2 [P l]) τ tCode).bind retOf = some ⟨.S, P (trim l)⟩ := by
  have e0 : evSs Φ Ψ 1000 (start0 2 [P l]) τ tCode = evSs Φ Ψ 1000 [.im (P l), .im (.int (l.length : Int))] τ (tCode.drop 1) := by
    simp [tCode, evSs, evS, ev, evs, start0, bltD, putTg, putR, List.replicate]
  rw [e0]
  show (evSs Φ Ψ 1000 _ τ (.whl tCond tBody :: tCode.drop 2)).bind retOf = _
  rw [evSs, evS, t_loop l l.length 1000 (Nat.le_refl _) (by omega)]
  have e2 := cut_P l (tl l l.length) (tl_le l _)
  simp [tCode, evSs, evS, ev, evs, slcD, intOf, bltD, retOf, e2, trim]
theorem trimmed_φ {φ : List Ev.D → Option Ev.R} {Φ' : Nat → List Ev.D → Option Ev.R} (h : φ = runF Φ' 1000 2 1 tCode) {l : List Rat} (hl : l.length < 999) : φ [P l] = some ⟨.S, P (trim l)⟩ := by
  subst h
  unfold runF
  rw [if_pos (show [P l].length = 1 from rfl), evSsK_eq]
  exact trimmed_ev hl
theorem clean_P (l : List Rat) : clean ⟨.S, P l⟩ = true := by
  show noListAll (l.map enc) = true
  induction l with
  | nil => rfl
  | cons q r ih =>
    show (noList (enc q) && noListAll (r.map enc)) = true
    rw [ih]
    rfl
end Rt

/-! ## Rt5 -/
set_option exponentiation.threshold 2000
namespace Rt
open PySem PySem.Spec PyProof.Rows L2 Ev
variable {Φ : Nat → List Ev.D → Option Ev.R} {Ψ : Nat → List Ev.D → Tp → Option (Ev.R × Tp)} {M : Nat} {τ : Tp}
/-! ### comprehensions without a condition -/
theorem comp_rng {fe : Rho → Tp → Option (Ev.R × Tp)} {fc : Rho → Tp → Option (Bool × Tp)} {ρ : Rho} {t : Nat} {G : Nat → Ev.D} (hfc : ∀ ρ τ, fc ρ τ = some (true, τ)) : ∀ (n lo : Nat), (∀ i, lo ≤ i → i < lo + n → fe (ρ.set t (.im (.int (i : Int)))) τ = some (⟨.S, G i⟩, τ)) →
    compL fe fc ρ (.nm t) (rngD (lo : Int) n) τ = some ((List.range' lo n).map G, τ)
  | 0, lo, _ => rfl
  | n + 1, lo, h => by
    have ih := comp_rng hfc n (lo + 1) fun i h1 h2 => h i (by omega) (by omega)
    rw [show ((lo + 1 : Nat) : Int) = (lo : Int) + 1 by omega] at ih
    simp only [rngD, compL, tgD, Option.bind_some, hfc, if_true, h lo (Nat.le_refl _) (by omega), stb, ih, Option.map_some]
    rfl
theorem comp_lst {fe : Rho → Tp → Option (Ev.R × Tp)} {fc : Rho → Tp → Option (Bool × Tp)} {ρ : Rho} {t : Nat} {G : Rat → Ev.D} (hfc : ∀ ρ τ, fc ρ τ = some (true, τ)) : ∀ (l : List Rat), (∀ q, q ∈ l → fe (ρ.set t (.im (enc q))) τ = some (⟨.S, G q⟩, τ)) →
    compL fe fc ρ (.nm t) (l.map enc) τ = some (l.map G, τ)
  | [], _ => rfl
  | q :: l, h => by
    have ih := comp_lst hfc l fun i h1 => h i (List.mem_cons_of_mem _ h1)
    simp only [List.map_cons, compL, tgD, Option.bind_some, hfc, if_true, h q List.mem_cons_self, stb, ih, Option.map_some]
/-! ### add -/
def addL (a b : List Rat) : List Rat := (List.range (max a.length b.length)).map fun i => a[i]?.getD 0 + b[i]?.getD 0
def padL (a : List Rat) (n : Nat) : List Rat := a ++ List.replicate (n - a.length) 0
theorem padL_len {a : List Rat} {n : Nat} (h : a.length ≤ n) : (padL a n).length = n := by
  unfold padL
  rw [List.length_append, List.length_replicate]
  omega
theorem padL_get {a : List Rat} {n i : Nat} (h : a.length ≤ n) (hi : i < n) : (padL a n)[i]'(by rw [padL_len h]; exact hi) = a[i]?.getD 0 := by
  unfold padL
  rw [List.getElem_append]
  by_cases h1 : i < a.length
  · rw [dif_pos h1, List.getElem?_eq_getElem h1]
    rfl
  · rw [dif_neg h1, List.getElem_replicate, List.getElem?_eq_none (by omega)]
    rfl
def aCode (t p : Nat) : List S := [.set (.nm 2) (.blt .max [(.blt .len [(.var 0)]), (.blt .len [(.var 1)])]),
    .set (.nm 3) (.bin .add (.var 0) (.bin .mul (.tup [(.cst (.tuple [.int 0, .int 1]))]) (.bin .sub (.var 2) (.blt .len [(.var 0)])))),
    .set (.nm 4) (.bin .add (.var 1) (.bin .mul (.tup [(.cst (.tuple [.int 0, .int 1]))]) (.bin .sub (.var 2) (.blt .len [(.var 1)])))),
    .ret (.call t [(.blt .tuple [(.comp (.call p [(.idx (.var 3) (.var 5)), (.idx (.var 4) (.var 5))]) (.nm 5) 1 [(.var 2)] [])])])]
theorem flat_enc (k : Nat) : (List.replicate k [PyData.tuple [.int 0, .int 1]]).flatten = (List.replicate k (0 : Rat)).map enc := by
  induction k with
  | zero => rfl
  | succ k ih =>
    rw [List.replicate_succ, List.flatten_cons, ih, List.replicate_succ]
    rfl
/-- what trimmed keeps to -/
def TrimOk (φ : List Ev.D → Option Ev.R) : Prop := ∀ l : List Rat, l.length < 999 → φ [P l] = some ⟨.S, P (trim l)⟩
theorem pad_ev {a : List Rat} {n : Nat} (h : a.length ≤ n) (hn : n ≤ 900) : binD .mul (.tuple [.tuple [.int 0, .int 1]]) (.int ((n : Int) - (a.length : Int))) = some ⟨.S, .tuple ((List.replicate (n - a.length) (0 : Rat)).map enc)⟩ := by
  have e : (decide ((-4611686018427387904 : Int) ≤ (n : Int) - (a.length : Int)) && decide ((n : Int) - (a.length : Int) ≤ 1000) && decide ([PyData.tuple [.int 0, .int 1]].length ≤ 1000)) = true := by
    simp only [Bool.and_eq_true, decide_eq_true_eq, List.length_cons, List.length_nil]
    omega
  have e2 : ((n : Int) - (a.length : Int)).toNat = n - a.length := by omega
  simp only [binD, e, if_true, e2, flat_enc]
theorem cat_ev {a b : List Ev.D} (h : a.length + b.length < 16777216) : binD .add (.tuple a) (.tuple b) = some ⟨.S, .tuple (a ++ b)⟩ := by
  have e : shortL (a ++ b) = true := by unfold shortL; exact decide_eq_true (by rw [List.length_append]; exact h)
  simp only [binD, e, if_true]
theorem p62 : (2 : Int) ^ 62 = 4611686018427387904 := by
  rw [show (2 : Int) = ((2 : Nat) : Int) from rfl, ← Int.natCast_pow]
  rfl
theorem rng_ev {n : Nat} (h : n ≤ 1000000) : itD 1 [.int (n : Int)] = some (rngD 0 n) := by
  have e : rngFits 0 (n : Int) = true := by
    unfold rngFits
    rw [p62]
    simp only [Bool.and_eq_true, decide_eq_true_eq]
    omega
  simp only [itD, e, if_true, Int.toNat_natCast]
theorem shortL_of {l : List Ev.D} (h : l.length < 16777216) : shortL l = true := by
  unfold shortL; exact decide_eq_true h
/-- a comprehension by what it walks -/
theorem comp0 {elt : E} {ρ : Rho} {tg : Tg} {k : Nat} {its : List E} {rs : List Ev.R} {its' ds : List Ev.D} {τ1 τ2 : Tp} (h1 : evs Φ Ψ ρ τ its = some (rs, τ1)) (hr : itD k (rs.map (·.d)) = some its') (hc : compL (fun ρ τ => ev Φ Ψ ρ τ elt) (fun ρ τ => evAll Φ Ψ ρ τ []) (wipeR ρ (tgVs tg)) tg its' τ1 = some (ds, τ2)) (hs : shortL ds = true) :
    ev Φ Ψ ρ τ (.comp elt tg k its []) = some (⟨.F, .list ds⟩, τ2) := by
  rw [ev, h1, Option.bind_some, hr, Option.bind_some, hc, Option.bind_some, if_pos hs]
/-- a comprehension over a range: its answer -/
theorem ev_comp_rng {elt : E} {ρ : Rho} {t v n : Nat} {G : Nat → Ev.D} (hv : ρ[v]? = some (.im (.int (n : Int)))) (hn : n ≤ 1000000) (h : ∀ i, i < n → ev Φ Ψ ((ρ.set t .un).set t (.im (.int (i : Int)))) τ elt = some (⟨.S, G i⟩, τ)) :
    ev Φ Ψ ρ τ (.comp elt (.nm t) 1 [.var v] []) = some (⟨.F, .list ((List.range n).map G)⟩, τ) := by
  have hc := comp_rng (τ := τ) (fe := fun ρ τ => ev Φ Ψ ρ τ elt) (fc := fun ρ τ => evAll Φ Ψ ρ τ []) (ρ := ρ.set t .un) (t := t) (G := G) (fun _ _ => by rw [evAll]) n 0 fun i _ hi => h i (by omega)
  have hs : shortL ((List.range' 0 n).map G) = true := shortL_of (by rw [List.length_map, List.length_range']; omega)
  have h1 : evs Φ Ψ ρ τ [.var v] = some ([⟨.S, .int (n : Int)⟩], τ) := by simp only [evs, ev, hv, Option.bind_some, Option.map_some]
  rw [List.range_eq_range']
  exact comp0 h1 (rng_ev hn) hc hs
/-- a comprehension over a tuple of fractions -/
theorem ev_comp_lst {elt : E} {ρ : Rho} {t v : Nat} {l : List Rat} {G : Rat → Ev.D} (hv : ρ[v]? = some (.im (P l))) (hl : l.length ≤ 1000000) (h : ∀ q, q ∈ l → ev Φ Ψ ((ρ.set t .un).set t (.im (enc q))) τ elt = some (⟨.S, G q⟩, τ)) :
    ev Φ Ψ ρ τ (.comp elt (.nm t) 0 [.var v] []) = some (⟨.F, .list (l.map G)⟩, τ) := by
  have hc := comp_lst (τ := τ) (fe := fun ρ τ => ev Φ Ψ ρ τ elt) (fc := fun ρ τ => evAll Φ Ψ ρ τ []) (ρ := ρ.set t .un) (t := t) (G := G) (fun _ _ => by rw [evAll]) l h
  have hs : shortL (l.map G) = true := shortL_of (by rw [List.length_map]; omega)
  have h1 : evs Φ Ψ ρ τ [.var v] = some ([⟨.S, P l⟩], τ) := by simp only [evs, ev, hv, Option.bind_some, Option.map_some]
  exact comp0 h1 rfl hc hs
/-- return f(tuple(e)) -/
theorem ret_tup {ce : E} {ρ : Rho} {t : Nat} {ds : List Ev.D} {d : Ev.D} (h : ev Φ Ψ ρ τ ce = some (⟨.F, .list ds⟩, τ)) (ht : Φ t [.tuple ds] = some ⟨.S, d⟩) (hc : clean ⟨.S, d⟩ = true) : (evSs Φ Ψ M ρ τ [.ret (.call t [.blt .tuple [ce]])]).bind retOf = some ⟨.S, d⟩ := by
  simp only [evSs, evS, ev, evs, h, Option.bind_some, Option.map_some, List.map_cons, List.map_nil, bltD, ht, hc, if_true]
  rfl
theorem max_ev (a b : Nat) : bltD .max [.int (a : Int), .int (b : Int)] = some ⟨.S, .int ((max a b : Nat) : Int)⟩ := by
  simp only [bltD]
  by_cases h : (b : Int) > (a : Int)
  · rw [if_pos h, show max a b = b by omega]
  · rw [if_neg h, show max a b = a by omega]
theorem add_ev {t p : Nat} (ht : TrimOk (Φ t)) (hp : Φ p = plusF) {a b : List Rat} (ha : a.length ≤ 900) (hb : b.length ≤ 900) (sa : ∀ q ∈ a, Sm q) (sb : ∀ q ∈ b, Sm q) :
    (evSs Φ Ψ M (start0 6 [P a, P b]) τ (aCode t p)).bind retOf = some ⟨.S, P (trim (addL a b))⟩ := by
  generalize hn : max a.length b.length = n
  have la : a.length ≤ n := by omega
  have lb : b.length ≤ n := by omega
  have ln : n ≤ 900 := by omega
  have e1 : evSs Φ Ψ M (start0 6 [P a, P b]) τ ((aCode t p).take 3) = some (.nx [.im (P a), .im (P b), .im (.int (n : Int)), .im (P (padL a n)), .im (P (padL b n)), .un] τ) := by
    have m1 := max_ev a.length b.length
    rw [hn] at m1
    have p1 := pad_ev la ln
    have p2 := pad_ev lb ln
    have c1 : binD .add (P a) (.tuple ((List.replicate (n - a.length) (0 : Rat)).map enc)) = some ⟨.S, P (padL a n)⟩ := by
      unfold padL P
      rw [List.map_append]
      exact cat_ev (by rw [List.length_map, List.length_map, List.length_replicate]; omega)
    have c2 : binD .add (P b) (.tuple ((List.replicate (n - b.length) (0 : Rat)).map enc)) = some ⟨.S, P (padL b n)⟩ := by
      unfold padL P
      rw [List.map_append]
      exact cat_ev (by rw [List.length_map, List.length_map, List.length_replicate]; omega)
    have l1 : bltD .len [P a] = some ⟨.S, .int (a.length : Int)⟩ := by simp [bltD]
    have l2 : bltD .len [P b] = some ⟨.S, .int (b.length : Int)⟩ := by simp [bltD]
    have d1 : binD .sub (.int (n : Int)) (.int (a.length : Int)) = some ⟨.S, .int ((n : Int) - (a.length : Int))⟩ := rfl
    have d2 : binD .sub (.int (n : Int)) (.int (b.length : Int)) = some ⟨.S, .int ((n : Int) - (b.length : Int))⟩ := rfl
    simp [-List.map_replicate, aCode, evSs, evS, ev, evs, start0, List.replicate, l1, l2, m1, d1, d2, p1, p2, c1, c2, putTg, putR, stb, shortL]
  rw [show aCode t p = (aCode t p).take 3 ++ (aCode t p).drop 3 from rfl, evSs_app e1]
  have lad : (addL a b).length = n := by unfold addL; rw [List.length_map, List.length_range, hn]
  have hc := ev_comp_rng (Φ := Φ) (Ψ := Ψ) (τ := τ) (elt := .call p [(.idx (.var 3) (.var 5)), (.idx (.var 4) (.var 5))]) (ρ := [.im (P a), .im (P b), .im (.int (n : Int)), .im (P (padL a n)), .im (P (padL b n)), .un]) (t := 5) (v := 2) (n := n) (G := fun i => enc (a[i]?.getD 0 + b[i]?.getD 0)) rfl (by omega) (by
    intro i hi'
    have g1 := at_P (l := padL a n) (m := i) (by rw [padL_len la]; exact hi')
    have g2 := at_P (l := padL b n) (m := i) (by rw [padL_len lb]; exact hi')
    rw [padL_get la hi'] at g1
    rw [padL_get lb hi'] at g2
    have s0 : ∀ {l : List Rat}, (∀ q ∈ l, Sm q) → Sm (l[i]?.getD 0) := fun {l} h => by
      by_cases hl : i < l.length
      · rw [List.getElem?_eq_getElem hl]; exact h _ (List.getElem_mem hl)
      · rw [List.getElem?_eq_none (by omega)]; exact ⟨by decide, by decide⟩
    have r := plus_rat (s0 sa) (s0 sb)
    have cl : clean ⟨.S, enc (a[i]?.getD 0 + b[i]?.getD 0)⟩ = true := rfl
    simp [ev, evs, idxD, g1, g2, hp, r, cl])
  rw [show (List.range n).map (fun i => enc (a[i]?.getD 0 + b[i]?.getD 0)) = (addL a b).map enc by unfold addL; rw [hn, List.map_map]; rfl] at hc
  exact ret_tup hc (ht (addL a b) (by omega)) (clean_P _)
theorem add_φ {t p : Nat} {φ : List Ev.D → Option Ev.R} (h : φ = runF Φ 1000 6 2 (aCode t p)) (ht : TrimOk (Φ t)) (hp : Φ p = plusF) {a b : List Rat} (ha : a.length ≤ 900) (hb : b.length ≤ 900) (sa : ∀ q ∈ a, Sm q) (sb : ∀ q ∈ b, Sm q) : φ [P a, P b] = some ⟨.S, P (trim (addL a b))⟩ := by
  subst h
  unfold runF
  rw [if_pos (show [P a, P b].length = 2 from rfl), evSsK_eq]
  exact add_ev ht hp ha hb sa sb
end Rt

/-! ## Rt6 -/
set_option exponentiation.threshold 2000
namespace Rt
open PySem PySem.Spec PyProof.Rows L2 Ev
variable {Φ : Nat → List Ev.D → Option Ev.R} {Ψ : Nat → List Ev.D → Tp → Option (Ev.R × Tp)} {M : Nat} {τ : Tp}
/-! ### scale, subtract -/
def sCode (t p : Nat) : List S := [.ret (.call t [(.blt .tuple [(.comp (.call p [(.var 2), (.var 1)]) (.nm 2) 0 [(.var 0)] [])])])]
theorem scale_ev {t p : Nat} (ht : TrimOk (Φ t)) (hp : Φ p = timesF) {a : List Rat} {c : Rat} (ha : a.length ≤ 900) (sa : ∀ q ∈ a, Sm q) (sc : Sm c) :
    (evSs Φ Ψ M (start0 3 [P a, enc c]) τ (sCode t p)).bind retOf = some ⟨.S, P (trim (a.map (· * c)))⟩ := by
  have e0 : start0 3 [P a, enc c] = [.im (P a), .im (enc c), .un] := rfl
  rw [e0]
  have hc := ev_comp_lst (Φ := Φ) (Ψ := Ψ) (τ := τ) (elt := .call p [(.var 2), (.var 1)]) (ρ := [.im (P a), .im (enc c), .un]) (t := 2) (v := 0) (l := a) (G := fun q => enc (q * c)) rfl (by omega) (by
    intro q hq
    have r := times_rat (sa q hq) sc
    have cl : clean ⟨.S, enc (q * c)⟩ = true := rfl
    simp [ev, evs, hp, r, cl])
  rw [show a.map (fun q => enc (q * c)) = (a.map (· * c)).map enc by rw [List.map_map]; rfl] at hc
  exact ret_tup hc (ht (a.map (· * c)) (by rw [List.length_map]; omega)) (clean_P _)
theorem scale_φ {t p : Nat} {φ : List Ev.D → Option Ev.R} (h : φ = runF Φ 1000 3 2 (sCode t p)) (ht : TrimOk (Φ t)) (hp : Φ p = timesF) {a : List Rat} {c : Rat} (ha : a.length ≤ 900) (sa : ∀ q ∈ a, Sm q) (sc : Sm c) : φ [P a, enc c] = some ⟨.S, P (trim (a.map (· * c)))⟩ := by
  subst h
  unfold runF
  rw [if_pos (show [P a, enc c].length = 2 from rfl), evSsK_eq]
  exact scale_ev ht hp ha sa sc
def bCode (ad sc : Nat) : List S := [.ret (.call ad [(.var 0), (.call sc [(.var 1), (.tup [(.neg (.cst (.int 1))), (.cst (.int 1))])])])]
theorem enc_neg : enc (-1) = .tuple [.int (-1), .int 1] := rfl
theorem sm_neg : Sm (-1) := ⟨by decide, by decide⟩
theorem tl_len (l : List Rat) : (trim l).length ≤ l.length := by
  unfold trim
  rw [List.length_take]
  omega
theorem trim_mem {l : List Rat} {q : Rat} (h : q ∈ trim l) : q ∈ l := List.mem_of_mem_take h
theorem sub_φ {ad sc : Nat} {φ : List Ev.D → Option Ev.R} {a b : List Rat} (h : φ = runF Φ 1000 2 2 (bCode ad sc)) (h1 : Φ sc [P b, enc (-1)] = some ⟨.S, P (trim (b.map (· * (-1))))⟩) (h2 : Φ ad [P a, P (trim (b.map (· * (-1))))] = some ⟨.S, P (trim (addL a (trim (b.map (· * (-1))))))⟩) :
    φ [P a, P b] = some ⟨.S, P (trim (addL a (trim (b.map (· * (-1))))))⟩ := by
  subst h
  unfold runF
  rw [if_pos (show [P a, P b].length = 2 from rfl), evSsK_eq]
  rw [enc_neg] at h1
  have c1 := clean_P (trim (b.map (· * (-1))))
  have c2 := clean_P (trim (addL a (trim (b.map (· * (-1))))))
  have e0 : start0 2 [P a, P b] = [.im (P a), .im (P b)] := rfl
  have s1 : shortL [PyData.int (-1), PyData.int 1] = true := by decide
  rw [e0]
  simp only [bCode, evSs, evS, ev, evs, List.getElem?_cons_zero, List.getElem?_cons_succ, Option.bind_some, Option.map_some, intOf, List.mapM_cons, List.mapM_nil, stb, List.map_cons, List.map_nil, bind, pure, s1, if_true, h1, h2, c1, c2]
  rfl
end Rt

/-! ## Rt7 -/
set_option exponentiation.threshold 2000
namespace Rt
open PySem PySem.Spec PyProof.Rows L2 Ev
variable {Φ : Nat → List Ev.D → Option Ev.R} {Ψ : Nat → List Ev.D → Tp → Option (Ev.R × Tp)} {M : Nat} {τ : Tp}
/-! ### multiply -/
def stepL (F : List Rat) (p : Nat) (z : Rat) : List Rat := F.set p (F[p]?.getD 0 + z)
def inL (k : Nat) (x : Rat) : Nat → List Rat → List Rat → List Rat
  | _, [], F => F
  | j, b :: bs, F => inL k x (j + 1) bs (stepL F (k + j) (x * b))
def outL (b : List Rat) : Nat → List Rat → List Rat → List Rat
  | _, [], F => F
  | k, x :: as, F => outL b (k + 1) as (inL k x 0 b F)
def mulL (a b : List Rat) : List Rat := if a.isEmpty || b.isEmpty then [] else outL b 0 a (List.replicate (a.length + b.length - 1) 0)
theorem stepL_len (F : List Rat) (p : Nat) (z : Rat) : (stepL F p z).length = F.length := by unfold stepL; rw [List.length_set]
theorem inL_len (k : Nat) (x : Rat) : ∀ (bs : List Rat) (j : Nat) (F : List Rat), (inL k x j bs F).length = F.length
  | [], _, _ => rfl
  | b :: bs, j, F => by rw [inL, inL_len k x bs, stepL_len]
def mStep (pl ti : Nat) : List S := [.sti 2 (.bin .add (.var 3) (.var 5)) (.call pl [(.idx (.var 2) (.bin .add (.var 3) (.var 5))), (.call ti [(.var 4), (.var 6)])])]
theorem at_M {F : List Rat} {m : Nat} (h : m < F.length) : atD (F.map enc) (m : Int) = some (enc (F[m]?.getD 0)) := by
  rw [at_P h, List.getElem?_eq_getElem h]
  rfl
theorem step_ev {pl ti : Nat} (hp : Φ pl = plusF) (ht : Φ ti = timesF) {da db : Ev.D} {F : List Rat} {k j : Nat} {x b : Rat} (hk : k + j < F.length) (s1 : Sm (F[k + j]?.getD 0)) (s2 : Sm x) (s3 : Sm b) (s4 : Sm (x * b)) :
    evSs Φ Ψ M [.im da, .im db, .ow (F.map enc), .im (.int (k : Int)), .im (enc x), .im (.int (j : Int)), .im (enc b)] τ (mStep pl ti) =
      some (.nx [.im da, .im db, .ow ((stepL F (k + j) (x * b)).map enc), .im (.int (k : Int)), .im (enc x), .im (.int (j : Int)), .im (enc b)] τ) := by
  have e1 : binD .add (.int (k : Int)) (.int (j : Int)) = some ⟨.S, .int ((k + j : Nat) : Int)⟩ := by
    show some _ = some _
    rw [Int.natCast_add]
  have e2 := at_M hk
  have e3 := times_rat s2 s3
  have e4 := plus_rat s1 s4
  have c1 : clean ⟨.S, enc (x * b)⟩ = true := rfl
  have c2 : clean ⟨.S, enc (F[k + j]?.getD 0 + x * b)⟩ = true := rfl
  have e5 : ixN (F.map enc).length ((k + j : Nat) : Int) = some (k + j) := by
    unfold ixN
    rw [if_pos (by omega), if_pos (by rw [List.length_map]; omega)]
    rfl
  have e6 : (F.map enc).set (k + j) (enc (F[k + j]?.getD 0 + x * b)) = (stepL F (k + j) (x * b)).map enc := by
    unfold stepL
    rw [List.map_set]
  simp only [mStep, evSs, evS, ev, evs, List.getElem?_cons_zero, List.getElem?_cons_succ, Option.bind_some, Option.map_some, List.map_cons, List.map_nil, e1, idxD, e2, hp, ht, e3, e4, c1, c2, if_true, stb, intOf, e5, e6, List.set_cons_succ, List.set_cons_zero]
/-- good lists of numbers, by how many steps were made -/
structure Good (G : Nat → List Rat → Prop) (a b : List Rat) (lim : Nat) : Prop where
  sm : ∀ m F, m ≤ lim → G m F → ∀ q ∈ F, Sm q
  step : ∀ m F p x y, G m F → x ∈ a → y ∈ b → G (m + 1) (stepL F p (x * y))
  sa : ∀ x ∈ a, Sm x
  sb : ∀ y ∈ b, Sm y
  sab : ∀ x ∈ a, ∀ y ∈ b, Sm (x * y)
theorem Good.at {G : Nat → List Rat → Prop} {a b : List Rat} {lim : Nat} (g : Good G a b lim) {m : Nat} {F : List Rat} (hm : m ≤ lim) (h : G m F) (i : Nat) : Sm (F[i]?.getD 0) := by
  by_cases hl : i < F.length
  · rw [List.getElem?_eq_getElem hl]; exact g.sm m F hm h _ (List.getElem_mem hl)
  · rw [List.getElem?_eq_none (by omega)]; exact ⟨by decide, by decide⟩
theorem in_loop {pl ti : Nat} (hp : Φ pl = plusF) (ht : Φ ti = timesF) {G : Nat → List Rat → Prop} {a b : List Rat} {lim : Nat} (g : Good G a b lim) {da db : Ev.D} {k : Nat} {x : Rat} (hx : x ∈ a) : ∀ (bs : List Rat) (j m : Nat) (F : List Rat) (s5 s6 : Sl), (∀ y ∈ bs, y ∈ b) → k + j + bs.length ≤ F.length → m + bs.length ≤ lim → G m F →
    ∃ s5' s6', forL (fun ρ τ => evSs Φ Ψ M ρ τ (mStep pl ti)) (.tu [5, 6]) (enumD j (bs.map enc)) [.im da, .im db, .ow (F.map enc), .im (.int (k : Int)), .im (enc x), s5, s6] τ =
      some (.nx [.im da, .im db, .ow ((inL k x j bs F).map enc), .im (.int (k : Int)), .im (enc x), s5', s6'] τ) ∧ G (m + bs.length) (inL k x j bs F)
  | [], j, m, F, s5, s6, _, _, _, hG => ⟨s5, s6, rfl, hG⟩
  | y :: bs, j, m, F, s5, s6, hb, hl, hm, hG => by
    have hy := hb y List.mem_cons_self
    rw [List.length_cons] at hl hm
    have e := step_ev (Φ := Φ) (Ψ := Ψ) (M := M) (τ := τ) hp ht (da := da) (db := db) (F := F) (k := k) (j := j) (x := x) (b := y) (by omega) (g.at (by omega) hG _) (g.sa x hx) (g.sb y hy) (g.sab x hx y hy)
    obtain ⟨s5', s6', w1, w2⟩ := in_loop hp ht g (da := da) (db := db) (k := k) hx bs (j + 1) (m + 1) (stepL F (k + j) (x * y)) (.im (.int (j : Int))) (.im (enc y)) (fun z hz => hb z (List.mem_cons_of_mem _ hz)) (by rw [stepL_len]; omega) (by omega) (g.step m F (k + j) x y hG hx hy)
    refine ⟨s5', s6', ?_, by rw [List.length_cons, show m + (bs.length + 1) = m + 1 + bs.length by omega]; exact w2⟩
    simp only [List.map_cons, enumD, forL, tgD, setsD, Option.bind_some, List.set_cons_succ, List.set_cons_zero, e]
    exact w1
def mLoop (pl ti : Nat) : List S := [.for_ (.tu [5, 6]) 3 [(.var 1)] (mStep pl ti)]
theorem loop_ev {pl ti : Nat} {da : Ev.D} {b : List Rat} {F : List Ev.D} {s3 s4 s5 s6 : Sl} {o : Out} (h : forL (fun ρ τ => evSs Φ Ψ M ρ τ (mStep pl ti)) (.tu [5, 6]) (enumD 0 (b.map enc)) [.im da, .im (P b), .ow F, s3, s4, s5, s6] τ = some o) :
    evSs Φ Ψ M [.im da, .im (P b), .ow F, s3, s4, s5, s6] τ (mLoop pl ti) = (some o).bind fun o => match o with
      | .nx ρ1 τ1 => some (.nx ρ1 τ1)
      | o => some o := by
  have h1 : evs Φ Ψ [.im da, .im (P b), .ow F, s3, s4, s5, s6] τ [.var 1] = some ([⟨.S, P b⟩], τ) := by
    simp only [evs, ev, List.getElem?_cons_zero, List.getElem?_cons_succ, Option.bind_some, Option.map_some]
  have h2 : itD 3 [P b] = some (enumD 0 (b.map enc)) := rfl
  simp only [mLoop, evSs, evS, h1, Option.bind_some, List.map_cons, List.map_nil, h2]
  rw [show ([(⟨.S, P b⟩ : Ev.R)].any fun r => r.k == .B) = false from rfl]
  simp only [Bool.false_eq_true, if_false]
  rw [h]
  rfl
theorem out_loop {pl ti : Nat} (hp : Φ pl = plusF) (ht : Φ ti = timesF) {G : Nat → List Rat → Prop} {a b : List Rat} {lim : Nat} (g : Good G a b lim) {da : Ev.D} : ∀ (as : List Rat) (k m : Nat) (F : List Rat) (s3 s4 s5 s6 : Sl), (∀ x ∈ as, x ∈ a) → k + as.length + b.length ≤ F.length + 1 → 0 < b.length → m + as.length * b.length ≤ lim → G m F →
    ∃ s3' s4' s5' s6', forL (fun ρ τ => evSs Φ Ψ M ρ τ (mLoop pl ti)) (.tu [3, 4]) (enumD k (as.map enc)) [.im da, .im (P b), .ow (F.map enc), s3, s4, s5, s6] τ =
      some (.nx [.im da, .im (P b), .ow ((outL b k as F).map enc), s3', s4', s5', s6'] τ) ∧ G (m + as.length * b.length) (outL b k as F)
  | [], k, m, F, s3, s4, s5, s6, _, _, _, _, hG => ⟨s3, s4, s5, s6, rfl, by rw [List.length_nil, Nat.zero_mul]; exact hG⟩
  | x :: as, k, m, F, s3, s4, s5, s6, ha, hl, hb0, hm, hG => by
    rw [List.length_cons] at hl hm
    have hm2 : m + b.length + as.length * b.length ≤ lim := by rw [Nat.add_mul, Nat.one_mul] at hm; omega
    have hx := ha x List.mem_cons_self
    obtain ⟨t5, t6, v1, v2⟩ := in_loop (Φ := Φ) (Ψ := Ψ) (M := M) (τ := τ) hp ht g (da := da) (db := P b) (k := k) hx b 0 m F s5 s6 (fun _ h => h) (by omega) (by omega) hG
    have e := loop_ev (Φ := Φ) (Ψ := Ψ) (M := M) (τ := τ) v1
    obtain ⟨s3', s4', s5', s6', w1, w2⟩ := out_loop hp ht g (da := da) as (k + 1) (m + b.length) (inL k x 0 b F) (.im (.int (k : Int))) (.im (enc x)) t5 t6 (fun z hz => ha z (List.mem_cons_of_mem _ hz)) (by rw [inL_len]; omega) hb0 hm2 v2
    refine ⟨s3', s4', s5', s6', ?_, ?_⟩
    · simp only [List.map_cons, enumD, forL, tgD, setsD, Option.bind_some, List.set_cons_succ, List.set_cons_zero, e]
      exact w1
    · rw [List.length_cons, show m + (as.length + 1) * b.length = m + b.length + as.length * b.length by rw [Nat.add_mul, Nat.one_mul]; omega]
      exact w2
def mCode (pl ti tr : Nat) : List S := [.ite (.dis (.inv (.tru (.var 0))) (.inv (.tru (.var 1)))) [.ret (.tup [])] [],
    .set (.nm 2) (.bin .mul (.lst [(.cst (.tuple [.int 0, .int 1]))]) (.bin .sub (.bin .add (.blt .len [(.var 0)]) (.blt .len [(.var 1)])) (.cst (.int 1)))),
    .for_ (.tu [3, 4]) 3 [(.var 0)] (mLoop pl ti),
    .ret (.call tr [(.blt .tuple [(.var 2)])])]
theorem mul_empty {pl ti tr : Nat} {a b : List Rat} (h : a = [] ∨ b = []) : (evSs Φ Ψ M (start0 7 [P a, P b]) τ (mCode pl ti tr)).bind retOf = some ⟨.S, P []⟩ := by
  have e0 : start0 7 [P a, P b] = [.im (P a), .im (P b), .un, .un, .un, .un, .un] := rfl
  rw [e0]
  have hs : shortL [] = true := by decide
  rcases h with rfl | rfl
  · simp [mCode, evSs, evS, ev, evs, truD, hs, retOf]
  · cases a <;> simp [mCode, evSs, evS, ev, evs, truD, hs, retOf]
end Rt

/-! ## Rt8 -/
set_option exponentiation.threshold 2000
namespace Rt
open PySem PySem.Spec PyProof.Rows L2 Ev
variable {Φ : Nat → List Ev.D → Option Ev.R} {Ψ : Nat → List Ev.D → Tp → Option (Ev.R × Tp)} {M : Nat} {τ : Tp}
theorem ev_bin {op : Bo} {a b : E} {ρ : Rho} {τ1 τ2 : Tp} {r1 r2 r : Ev.R} (h1 : ev Φ Ψ ρ τ a = some (r1, τ1)) (h2 : ev Φ Ψ ρ τ1 b = some (r2, τ2)) (h3 : binD op r1.d r2.d = some r) : ev Φ Ψ ρ τ (.bin op a b) = some (r, τ2) := by
  rw [ev, h1, Option.bind_some, h2, Option.bind_some, h3, Option.map_some]
theorem ev_blt1 {b : Bl} {a : E} {ρ : Rho} {τ1 : Tp} {r1 r : Ev.R} (h1 : ev Φ Ψ ρ τ a = some (r1, τ1)) (h3 : bltD b [r1.d] = some r) : ev Φ Ψ ρ τ (.blt b [a]) = some (r, τ1) := by
  have e : evs Φ Ψ ρ τ [a] = some ([r1], τ1) := by rw [evs, h1, Option.bind_some, evs, Option.map_some]
  rw [ev, e, Option.bind_some]
  show (bltD b [r1.d]).map _ = _
  rw [h3, Option.map_some]
theorem ev_im {ρ : Rho} {i : Nat} {d : Ev.D} (h : ρ[i]? = some (.im d)) : ev Φ Ψ ρ τ (.var i) = some (⟨.S, d⟩, τ) := by rw [ev, h]
theorem ev_cst {ρ : Rho} {d : Ev.D} : ev Φ Ψ ρ τ (.cst d) = some (⟨.S, d⟩, τ) := by rw [ev]
theorem list_mul_ev {n : Nat} (h : n ≤ 1000) : binD .mul (.list [.tuple [.int 0, .int 1]]) (.int (n : Int)) = some ⟨.F, .list ((List.replicate n (0 : Rat)).map enc)⟩ := by
  have e : (decide (-(2 ^ 63) ≤ (n : Int)) && decide ((n : Int) < 2 ^ 63) && decide ([PyData.tuple [.int 0, .int 1]].length * (n : Int).toNat < 16777216)) = true := by
    have p63 : (2 : Int) ^ 63 = 9223372036854775808 := by
      rw [show (2 : Int) = ((2 : Nat) : Int) from rfl, ← Int.natCast_pow]
      rfl
    rw [p63]
    simp only [Bool.and_eq_true, decide_eq_true_eq, List.length_cons, List.length_nil, Int.toNat_natCast]
    omega
  simp only [binD, e, if_true]
  rw [Int.toNat_natCast, flat_enc]
theorem ret_tup' {ce : E} {ρ : Rho} {t : Nat} {ds : List Ev.D} {k : Kd} {d : Ev.D} (h : ev Φ Ψ ρ τ ce = some (⟨k, .list ds⟩, τ)) (ht : Φ t [.tuple ds] = some ⟨.S, d⟩) (hc : clean ⟨.S, d⟩ = true) : (evSs Φ Ψ M ρ τ [.ret (.call t [.blt .tuple [ce]])]).bind retOf = some ⟨.S, d⟩ := by
  simp only [evSs, evS, ev, evs, h, Option.bind_some, Option.map_some, List.map_cons, List.map_nil, bltD, ht, hc, if_true]
  rfl
theorem mul_ev {pl ti tr : Nat} (hp : Φ pl = plusF) (ht : Φ ti = timesF) (htr : TrimOk (Φ tr)) {G : Nat → List Rat → Prop} {a b : List Rat} (g : Good G a b (a.length * b.length)) (ha : a ≠ []) (hb : b ≠ []) (hl : a.length + b.length ≤ 900) (h0 : G 0 (List.replicate (a.length + b.length - 1) 0)) :
    (evSs Φ Ψ M (start0 7 [P a, P b]) τ (mCode pl ti tr)).bind retOf = some ⟨.S, P (trim (outL b 0 a (List.replicate (a.length + b.length - 1) 0)))⟩ := by
  have la : 0 < a.length := List.length_pos_iff.mpr ha
  have lb : 0 < b.length := List.length_pos_iff.mpr hb
  have e0 : start0 7 [P a, P b] = [.im (P a), .im (P b), .un, .un, .un, .un, .un] := rfl
  have ea : (a.map enc).isEmpty = false := by cases a <;> first | exact absurd rfl ha | rfl
  have eb : (b.map enc).isEmpty = false := by cases b <;> first | exact absurd rfl hb | rfl
  have lm := list_mul_ev (n := a.length + b.length - 1) (by omega)
  have d1 : bltD .len [P a] = some ⟨.S, .int (a.length : Int)⟩ := by simp [bltD]
  have d2 : bltD .len [P b] = some ⟨.S, .int (b.length : Int)⟩ := by simp [bltD]
  have d3 : binD .sub (.int ((a.length : Int) + (b.length : Int))) (.int 1) = some ⟨.S, .int ((a.length + b.length - 1 : Nat) : Int)⟩ := by
    show some _ = some _
    rw [show (a.length : Int) + (b.length : Int) - 1 = ((a.length + b.length - 1 : Nat) : Int) by omega]
  have d4 : binD .add (.int (a.length : Int)) (.int (b.length : Int)) = some ⟨.S, .int ((a.length : Int) + (b.length : Int))⟩ := rfl
  have s1 : shortL [PyData.tuple [.int 0, .int 1]] = true := by decide
  have t1 : ev Φ Ψ [.im (P a), .im (P b), .un, .un, .un, .un, .un] τ (.dis (.inv (.tru (.var 0))) (.inv (.tru (.var 1)))) = some (⟨.S, .bool false⟩, τ) := by
    simp only [ev, List.getElem?_cons_zero, List.getElem?_cons_succ, Option.bind_some, Option.map_some, P, truD, ea, eb, Bool.not_false, Bool.not_true]
  have t0 : ev Φ Ψ [.im (P a), .im (P b), .un, .un, .un, .un, .un] τ (.lst [(.cst (.tuple [.int 0, .int 1]))]) = some (⟨.F, .list [.tuple [.int 0, .int 1]]⟩, τ) := by
    have e : evs Φ Ψ [.im (P a), .im (P b), .un, .un, .un, .un, .un] τ [.cst (.tuple [.int 0, .int 1])] = some ([⟨.S, .tuple [.int 0, .int 1]⟩], τ) := by rw [evs, ev_cst, Option.bind_some, evs, Option.map_some]
    rw [ev, e, Option.bind_some]
    rfl
  have t2 : ev Φ Ψ [.im (P a), .im (P b), .un, .un, .un, .un, .un] τ (.bin .mul (.lst [(.cst (.tuple [.int 0, .int 1]))]) (.bin .sub (.bin .add (.blt .len [(.var 0)]) (.blt .len [(.var 1)])) (.cst (.int 1)))) = some (⟨.F, .list ((List.replicate (a.length + b.length - 1) (0 : Rat)).map enc)⟩, τ) :=
    ev_bin t0 (ev_bin (ev_bin (ev_blt1 (ev_im rfl) d1) (ev_blt1 (ev_im rfl) d2) d4) ev_cst d3) lm
  obtain ⟨s3', s4', s5', s6', w1, w2⟩ := out_loop (Φ := Φ) (Ψ := Ψ) (M := M) (τ := τ) hp ht g (da := P a) a 0 0 (List.replicate (a.length + b.length - 1) 0) .un .un .un .un (fun _ h => h) (by rw [List.length_replicate]; omega) lb (by omega) h0

  have hlen : (P b) = (P b) := rfl
  rw [e0]
  have q1 : evSs Φ Ψ M [.im (P a), .im (P b), .un, .un, .un, .un, .un] τ (mCode pl ti tr) = evSs Φ Ψ M [.im (P a), .im (P b), .un, .un, .un, .un, .un] τ ((mCode pl ti tr).drop 1) := by
    show evSs Φ Ψ M _ τ (.ite _ _ _ :: (mCode pl ti tr).drop 1) = _
    rw [evSs, evS, t1]; rfl
  have q2 : evSs Φ Ψ M [.im (P a), .im (P b), .un, .un, .un, .un, .un] τ ((mCode pl ti tr).drop 1) = evSs Φ Ψ M [.im (P a), .im (P b), .ow ((List.replicate (a.length + b.length - 1) (0 : Rat)).map enc), .un, .un, .un, .un] τ ((mCode pl ti tr).drop 2) := by
    show evSs Φ Ψ M _ τ (.set (.nm 2) _ :: (mCode pl ti tr).drop 2) = _
    rw [evSs, evS, t2]; rfl
  have q3 : evSs Φ Ψ M [.im (P a), .im (P b), .ow ((List.replicate (a.length + b.length - 1) (0 : Rat)).map enc), .un, .un, .un, .un] τ ((mCode pl ti tr).drop 2) = evSs Φ Ψ M [.im (P a), .im (P b), .ow ((outL b 0 a (List.replicate (a.length + b.length - 1) 0)).map enc), s3', s4', s5', s6'] τ ((mCode pl ti tr).drop 3) := by
    show evSs Φ Ψ M _ τ (.for_ (.tu [3, 4]) 3 [(.var 0)] (mLoop pl ti) :: (mCode pl ti tr).drop 3) = _
    have h1 : evs Φ Ψ [.im (P a), .im (P b), .ow ((List.replicate (a.length + b.length - 1) (0 : Rat)).map enc), .un, .un, .un, .un] τ [.var 0] = some ([⟨.S, P a⟩], τ) := by
      simp only [evs, ev, List.getElem?_cons_zero, Option.bind_some, Option.map_some]
    have h2 : itD 3 [P a] = some (enumD 0 (a.map enc)) := rfl
    rw [evSs, evS, h1, Option.bind_some]
    simp only [List.map_cons, List.map_nil, h2, Option.bind_some]
    rw [show (([⟨.S, P a⟩] : List Ev.R).any fun r => r.k == .B) = false from rfl]
    simp only [Bool.false_eq_true, if_false]
    rw [w1]
    rfl
  rw [q1, q2, q3]
  have lo : (outL b 0 a (List.replicate (a.length + b.length - 1) 0)).length < 999 := by
    have : ∀ (as : List Rat) (k : Nat) (F : List Rat), (outL b k as F).length = F.length := by
      intro as
      induction as with
      | nil => intro k F; rfl
      | cons x as ih => intro k F; rw [outL, ih, inL_len]
    rw [this, List.length_replicate]; omega
  refine ret_tup' (Nx.ev_varL rfl) (htr _ lo) (clean_P _)
end Rt

/-! ## Rt9 -/
set_option exponentiation.threshold 2000
/-! polynomials over fractions by their coefficient functions -/
namespace Rt
open PySem PySem.Spec PyProof.Rows L2 Ev
variable {Φ : Nat → List Ev.D → Option Ev.R} {Ψ : Nat → List Ev.D → Tp → Option (Ev.R × Tp)} {M : Nat} {τ : Tp}
abbrev Cf := Nat → Rat
/-- a small multiple of 1/120 -/
def Sc (L : Nat) (q : Rat) : Prop := ∃ z : Int, q = (z : Rat) * (1 / 120) ∧ z.natAbs ≤ L
theorem Sc.zero {L : Nat} : Sc L 0 := ⟨0, by simp, by simp⟩
theorem Sc.mono {L M : Nat} {q : Rat} (h : Sc L q) (hm : L ≤ M) : Sc M q := let ⟨z, a, b⟩ := h; ⟨z, a, by omega⟩
theorem Sc.add {L M : Nat} {p q : Rat} (h : Sc L p) (g : Sc M q) : Sc (L + M) (p + q) := by
  obtain ⟨z, rfl, hz⟩ := h
  obtain ⟨w, rfl, hw⟩ := g
  exact ⟨z + w, by rw [Rat.intCast_add, Rat.add_mul], by omega⟩
theorem Sc.mulI {L : Nat} {p : Rat} {k : Int} {m : Nat} (h : Sc L p) (hk : k.natAbs ≤ m) : Sc (L * m) (p * k) := by
  obtain ⟨z, rfl, hz⟩ := h
  refine ⟨z * k, by rw [Rat.intCast_mul, Rat.mul_assoc, Rat.mul_comm (1 / 120), ← Rat.mul_assoc], ?_⟩
  rw [Int.natAbs_mul]
  exact Nat.mul_le_mul hz hk
theorem Sc.sm {L : Nat} {q : Rat} (h : Sc L q) (hL : L ≤ 10 ^ 30) : Sm q := by
  obtain ⟨z, rfl, hz⟩ := h
  have e : (z : Rat) * (1 / 120) = mkRat z 120 := by
    rw [Rat.mkRat_eq_div]; rw [Rat.div_def, Rat.div_def, Rat.one_mul]; rfl
  rw [e]
  have hn := Rat.num_mkRat z 120
  have hd := Rat.den_mkRat z 120
  unfold Sm
  have b1 : (10 : Nat) ^ 30 ≤ 2 ^ 239 := by decide
  refine ⟨?_, ?_⟩
  · have : (mkRat z 120).num.natAbs ≤ z.natAbs := by
      rw [hn]
      first | exact Int.natAbs_ediv_le_natAbs _ _ | simp | skip
    omega
  · have : (mkRat z 120).den ≤ 120 := by
      rw [hd]
      first | exact Nat.div_le_self _ _ | (simp; done) | skip
    omega
structure Pl (l : List Rat) (f : Cf) (n L : Nat) : Prop where
  tr : l = [] ∨ l[l.length - 1]?.getD 0 ≠ 0
  is : ∀ i, l[i]?.getD 0 = f i
  bd : ∀ i, Sc L (f i)
  su : ∀ i, n ≤ i → f i = 0
theorem Pl.len {l : List Rat} {f : Cf} {n L : Nat} (h : Pl l f n L) : l.length ≤ n := by
  rcases h.tr with e | e
  · subst e; exact Nat.zero_le _
  · rw [h.is] at e
    by_cases g : n ≤ l.length - 1
    · exact absurd (h.su _ g) e
    · omega
theorem Pl.mem {l : List Rat} {f : Cf} {n L : Nat} (h : Pl l f n L) {q : Rat} (hq : q ∈ l) : Sc L q := by
  obtain ⟨i, hi, e⟩ := List.getElem_of_mem hq
  have := h.is i
  rw [List.getElem?_eq_getElem hi] at this
  have e2 : q = f i := by rw [← e]; exact this
  rw [e2]
  exact h.bd i
theorem Pl.mono {l : List Rat} {f : Cf} {n L n' L' : Nat} (h : Pl l f n L) (hn : n ≤ n') (hL : L ≤ L') : Pl l f n' L' := ⟨h.tr, h.is, fun i => (h.bd i).mono hL, fun i hi => h.su i (by omega)⟩
theorem Pl.to {l : List Rat} {f g : Cf} {n L : Nat} (h : Pl l f n L) (e : ∀ i, f i = g i) : Pl l g n L := (funext e : f = g) ▸ h
theorem trim_get (l : List Rat) (i : Nat) : (trim l)[i]?.getD 0 = l[i]?.getD 0 := by
  unfold trim
  by_cases h : i < tl l l.length
  · rw [List.getElem?_take_of_lt h]
  · rw [List.getElem?_take_eq_none (by omega)]
    by_cases g : i < l.length
    · exact (tl_zero l l.length i (by omega) g).symm
    · rw [List.getElem?_eq_none (by omega)]
theorem pl_trim {l : List Rat} {f : Cf} {n L : Nat} (h : ∀ i, l[i]?.getD 0 = f i) (hb : ∀ i, Sc L (f i)) (hs : ∀ i, n ≤ i → f i = 0) : Pl (trim l) f n L := by
  refine ⟨?_, fun i => by rw [trim_get, h], hb, hs⟩
  by_cases g : tl l l.length = 0
  · left; unfold trim; rw [g]; rfl
  · right
    have h1 := tl_last l l.length (Nat.le_refl _) (by omega)
    have h2 := tl_le l l.length
    have h3 : (trim l).length = tl l l.length := by unfold trim; rw [List.length_take]; omega
    rw [trim_get, h3]
    exact h1
theorem pl_nil {n L : Nat} : Pl [] (fun _ => 0) n L := ⟨.inl rfl, fun i => by simp, fun i => Sc.zero, fun i _ => rfl⟩
/-! ### what the defs keep to -/
def AddOk (φ : List Ev.D → Option Ev.R) : Prop := ∀ (a b : List Rat) (f g : Cf) (n m L K : Nat), Pl a f n L → Pl b g m K → n ≤ 100 → m ≤ 100 → L ≤ 10 ^ 20 → K ≤ 10 ^ 20 → ∃ c, φ [P a, P b] = some ⟨.S, P c⟩ ∧ Pl c (fun i => f i + g i) (max n m) (L + K)
def ScaOk (φ : List Ev.D → Option Ev.R) : Prop := ∀ (a : List Rat) (f : Cf) (n L : Nat) (z : Int), Pl a f n L → z.natAbs ≤ 10 → n ≤ 100 → L ≤ 10 ^ 20 → ∃ c, φ [P a, enc (z : Rat)] = some ⟨.S, P c⟩ ∧ Pl c (fun i => f i * (z : Rat)) n (L * 10)
def SubOk (φ : List Ev.D → Option Ev.R) : Prop := ∀ (a b : List Rat) (f g : Cf) (n m L K : Nat), Pl a f n L → Pl b g m K → n ≤ 100 → m ≤ 100 → L ≤ 10 ^ 19 → K ≤ 10 ^ 19 → ∃ c, φ [P a, P b] = some ⟨.S, P c⟩ ∧ Pl c (fun i => f i - g i) (max n m) (L + K * 10)
def sh (f : Cf) : Cf := fun i => f i + (match i with | 0 => 0 | i + 1 => f i)
def MulOk (φ : List Ev.D → Option Ev.R) : Prop := ∀ (a : List Rat) (f : Cf) (n L : Nat), Pl a f n L → n ≤ 100 → L ≤ 10 ^ 20 → ∃ c, φ [P a, P [1, 1]] = some ⟨.S, P c⟩ ∧ Pl c (sh f) (n + 1) (L + L)
theorem big {L : Nat} (h : L ≤ 10 ^ 20) : L ≤ 10 ^ 30 := Nat.le_trans h (by decide)
theorem addL_get (a b : List Rat) (i : Nat) : (addL a b)[i]?.getD 0 = a[i]?.getD 0 + b[i]?.getD 0 := by
  unfold addL
  rw [List.getElem?_map]
  by_cases h : i < max a.length b.length
  · rw [List.getElem?_range h]; rfl
  · rw [List.getElem?_eq_none (by rw [List.length_range]; omega), List.getElem?_eq_none (show a.length ≤ i by omega), List.getElem?_eq_none (show b.length ≤ i by omega)]
    exact (Rat.add_zero 0).symm
theorem add_ok {t p : Nat} {φ : List Ev.D → Option Ev.R} (h : φ = runF Φ 1000 6 2 (aCode t p)) (ht : TrimOk (Φ t)) (hp : Φ p = plusF) : AddOk φ := fun a b f g n m L K pa pb hn hm hL hK => by
  have la := pa.len
  have lb := pb.len
  refine ⟨trim (addL a b), add_φ h ht hp (by omega) (by omega) (fun q hq => (pa.mem hq).sm (big hL)) (fun q hq => (pb.mem hq).sm (big hK)), ?_⟩
  exact pl_trim (fun i => by rw [addL_get, pa.is, pb.is]) (fun i => (pa.bd i).add (pb.bd i)) (fun i hi => by rw [pa.su i (by omega), pb.su i (by omega)]; exact Rat.add_zero 0)
theorem sm_int {z : Int} (h : z.natAbs ≤ 10) : Sm (z : Rat) := by
  have e1 : ((z : Rat)).num = z := Rat.num_intCast z
  have e2 : ((z : Rat)).den = 1 := Rat.den_intCast z
  unfold Sm
  rw [e1, e2]
  have b1 : (10 : Nat) ≤ 2 ^ 239 := by decide
  omega
theorem map_get (a : List Rat) (c : Rat) (i : Nat) : (a.map (· * c))[i]?.getD 0 = a[i]?.getD 0 * c := by
  rw [List.getElem?_map]
  cases a[i]? with
  | none => simp
  | some q => rfl
theorem sca_ok {t p : Nat} {φ : List Ev.D → Option Ev.R} (h : φ = runF Φ 1000 3 2 (sCode t p)) (ht : TrimOk (Φ t)) (hp : Φ p = timesF) : ScaOk φ := fun a f n L z pa hz hn hL => by
  have la := pa.len
  refine ⟨trim (a.map (· * (z : Rat))), scale_φ h ht hp (by omega) (fun q hq => (pa.mem hq).sm (big hL)) (sm_int hz), ?_⟩
  exact pl_trim (fun i => by rw [map_get, pa.is]) (fun i => (pa.bd i).mulI hz) (fun i hi => by rw [pa.su i hi]; simp)
theorem sub_ok {ad sc : Nat} {φ : List Ev.D → Option Ev.R} (h : φ = runF Φ 1000 2 2 (bCode ad sc)) (h1 : ScaOk (Φ sc)) (h2 : AddOk (Φ ad)) : SubOk φ := fun a b f g n m L K pa pb hn hm hL hK => by
  obtain ⟨c, hc, pc⟩ := h1 b g m K (-1) pb (by decide) hm (Nat.le_trans hK (by decide))
  have hL2 : L ≤ 10 ^ 20 := Nat.le_trans hL (by decide)
  have hK2 : K * 10 ≤ 10 ^ 20 := by
    have := Nat.mul_le_mul_right 10 hK
    have e : (10 : Nat) ^ 19 * 10 = 10 ^ 20 := by decide
    omega
  obtain ⟨d, hd, pd⟩ := h2 a c f _ n m L (K * 10) pa pc hn hm hL2 hK2
  refine ⟨d, ?_, pd.to fun i => ?_⟩
  · subst h
    unfold runF
    rw [if_pos (show [P a, P b].length = 2 from rfl), evSsK_eq]
    have hc' : Φ sc [P b, .tuple [.int (-1), .int 1]] = some ⟨.S, P c⟩ := hc
    have c1 := clean_P c
    have c2 := clean_P d
    have e0 : start0 2 [P a, P b] = [.im (P a), .im (P b)] := rfl
    have s1 : shortL [PyData.int (-1), PyData.int 1] = true := by decide
    rw [e0]
    simp only [bCode, evSs, evS, ev, evs, List.getElem?_cons_zero, List.getElem?_cons_succ, Option.bind_some, Option.map_some, intOf, List.mapM_cons, List.mapM_nil, stb, List.map_cons, List.map_nil, bind, pure, s1, if_true, hc', hd, c1, c2]
    rfl
  · have : ((-1 : Int) : Rat) = -1 := rfl
    show f i + g i * ((-1 : Int) : Rat) = f i - g i
    rw [this, Rat.mul_neg, Rat.mul_one, Rat.sub_eq_add_neg]
theorem stepL_get {F : List Rat} {p : Nat} (hp : p < F.length) (z : Rat) (i : Nat) : (stepL F p z)[i]?.getD 0 = F[i]?.getD 0 + if i = p then z else 0 := by
  unfold stepL
  rw [List.getElem?_set]
  by_cases h : p = i
  · subst h
    rw [if_pos rfl, if_pos hp, if_pos rfl]; rfl
  · rw [if_neg h, if_neg (fun e => h e.symm), Rat.add_zero]
theorem outL_get : ∀ (as : List Rat) (k : Nat) (F : List Rat), k + as.length + 1 ≤ F.length → ∀ i, (outL [1, 1] k as F)[i]?.getD 0 = F[i]?.getD 0 + (if k ≤ i then as[i - k]?.getD 0 else 0) + (if k + 1 ≤ i then as[i - k - 1]?.getD 0 else 0)
  | [], k, F, _, i => by
    simp [outL]; grind
  | x :: as, k, F, h, i => by
    rw [List.length_cons] at h
    have e : outL [1, 1] k (x :: as) F = outL [1, 1] (k + 1) as (stepL (stepL F k (x * 1)) (k + 1) (x * 1)) := rfl
    rw [e, outL_get as (k + 1) _ (by rw [stepL_len, stepL_len]; omega) i, stepL_get (by rw [stepL_len]; omega), stepL_get (by omega), Rat.mul_one]
    by_cases h1 : i < k
    · rw [if_neg (by omega), if_neg (by omega), if_neg (by omega), if_neg (by omega), if_neg (by omega), if_neg (by omega)]
      grind
    · by_cases h2 : i = k
      · subst h2
        rw [if_pos rfl, if_neg (by omega), if_neg (by omega), if_neg (by omega), if_pos (by omega), if_neg (by omega), Nat.sub_self]
        show _ = _ + x + 0
        grind
      · by_cases h3 : i = k + 1
        · subst h3
          rw [if_neg (by omega), if_pos rfl, if_pos (by omega), if_neg (by omega), if_pos (by omega), if_pos (by omega), show k + 1 - k - 1 = 0 by omega, show k + 1 - k = 1 by omega, Nat.sub_self]
          show _ = _ + as[0]?.getD 0 + x
          grind
        · rw [if_neg (by omega), if_neg (by omega), if_pos (by omega), if_pos (by omega), if_pos (by omega), if_pos (by omega)]
          obtain ⟨j, rfl⟩ : ∃ j, i = k + 2 + j := ⟨i - k - 2, by omega⟩
          rw [show k + 2 + j - (k + 1) = j + 1 by omega, show k + 2 + j - k = j + 2 by omega, show j + 2 - 1 = j + 1 by omega, show j + 1 - 1 = j by omega]
          show _ = _ + as[j + 1]?.getD 0 + as[j]?.getD 0
          grind
theorem mul_ok {pl ti tr : Nat} {φ : List Ev.D → Option Ev.R} (h : φ = runF Φ 1000 7 2 (mCode pl ti tr)) (hp : Φ pl = plusF) (ht : Φ ti = timesF) (htr : TrimOk (Φ tr)) : MulOk φ := fun a f n L pa hn hL => by
  have la := pa.len
  have hφ : ∀ b : List Rat, φ [P a, P b] = (evSs Φ (Ψof []) 1000 (start0 7 [P a, P b]) τ0 (mCode pl ti tr)).bind retOf := by
    intro b
    subst h
    unfold runF
    rw [if_pos (show [P a, P b].length = 2 from rfl), evSsK_eq]
  by_cases ha : a = []
  · refine ⟨[], ?_, ?_⟩
    · rw [hφ]; exact mul_empty (.inl ha)
    · have e0 : ∀ i, f i = 0 := fun i => by rw [← pa.is, ha]; simp
      refine (pl_nil (n := n + 1) (L := L + L)).to fun i => ?_
      unfold sh
      cases i with
      | zero => simp only [e0]; exact (Rat.add_zero 0).symm
      | succ i => simp only [e0]; exact (Rat.add_zero 0).symm
  · have hs1 : Sm (1 : Rat) := ⟨by decide, by decide⟩
    have g : Good (fun m F => ∀ q ∈ F, Sc (L * m) q) a [1, 1] (a.length * 2) := by
      refine ⟨fun m F hm hF q hq => (hF q hq).sm ?_, fun m F p x y hF hx hy q hq => ?_, fun x hx => (pa.mem hx).sm (big hL), fun y hy => ?_, fun x hx y hy => ?_⟩
      · have h1 : L * m ≤ 10 ^ 20 * 200 := Nat.mul_le_mul hL (by omega)
        exact Nat.le_trans h1 (by decide)
      · have hy1 : y = 1 := by simpa using hy
        subst hy1
        rw [Rat.mul_one] at hq
        unfold stepL at hq
        rcases List.mem_or_eq_of_mem_set hq with e | e
        · exact (hF q e).mono (Nat.mul_le_mul_left _ (by omega))
        · rw [e, Nat.mul_succ]
          refine Sc.add ?_ (pa.mem hx)
          by_cases hl : p < F.length
          · rw [List.getElem?_eq_getElem hl]; exact hF _ (List.getElem_mem hl)
          · rw [List.getElem?_eq_none (by omega)]; exact Sc.zero
      · have hy1 : y = 1 := by simpa using hy
        subst hy1
        exact hs1
      · have hy1 : y = 1 := by simpa using hy
        subst hy1
        rw [Rat.mul_one]
        exact (pa.mem hx).sm (big hL)
    refine ⟨_, by rw [hφ]; exact mul_ev hp ht htr g ha (by simp) (by simp; omega) (fun q hq => by rw [List.eq_of_mem_replicate hq]; exact Sc.zero), ?_⟩
    have lp : 0 < a.length := List.length_pos_iff.mpr ha
    have key : ∀ i, (outL [1, 1] 0 a (List.replicate (a.length + [(1 : Rat), 1].length - 1) 0))[i]?.getD 0 = sh f i := by
      intro i
      rw [outL_get a 0 _ (by rw [List.length_replicate]; show 0 + a.length + 1 ≤ a.length + 2 - 1; omega) i]
      have z : (List.replicate (a.length + [(1 : Rat), 1].length - 1) (0 : Rat))[i]?.getD 0 = 0 := by
        by_cases hi : i < a.length + [(1 : Rat), 1].length - 1
        · rw [List.getElem?_replicate, if_pos hi]; rfl
        · rw [List.getElem?_replicate, if_neg hi]; rfl
      rw [z, if_pos (Nat.zero_le _), Nat.sub_zero, pa.is]
      unfold sh
      cases i with
      | zero => rw [if_neg (by omega)]; grind
      | succ i =>
        rw [if_pos (by omega), Nat.add_sub_cancel, pa.is]
        show 0 + f (i + 1) + f i = f (i + 1) + f i
        grind
    refine pl_trim key (fun i => ?_) (fun i hi => ?_)
    · unfold sh
      cases i with
      | zero => exact (pa.bd 0).add Sc.zero
      | succ i => exact (pa.bd (i + 1)).add (pa.bd i)
    · unfold sh
      cases i with
      | zero => omega
      | succ i =>
        show f (i + 1) + f i = 0
        rw [pa.su _ (by omega), pa.su _ (by omega)]; exact Rat.add_zero 0
end Rt

/-! ## Rt10 -/
set_option exponentiation.threshold 2000
/-! compose with (1, 1), rises, back from rises -/
namespace Rt
open PySem PySem.Spec PyProof.Rows L2 Ev Nx
variable {Φ : Nat → List Ev.D → Option Ev.R} {Ψ : Nat → List Ev.D → Tp → Option (Ev.R × Tp)} {M : Nat} {τ : Tp}
def cst (q : Rat) : Cf := fun i => if i = 0 then q else 0
def hl : List Rat → Cf → Cf
  | [], g => g
  | q :: r, g => hl r (fun i => sh g i + cst q i)
def zf : Cf := fun _ => 0
def horL : List Rat → Cf
  | [] => zf
  | q :: r => fun i => sh (horL r) i + cst q i
def Hx (f : Cf) : Nat → Cf
  | 0 => zf
  | n + 1 => fun i => sh (Hx (fun i => f (i + 1)) n) i + cst (f 0) i
theorem hl_app : ∀ (xs ys : List Rat) (g : Cf), hl (xs ++ ys) g = hl ys (hl xs g)
  | [], _, _ => rfl
  | q :: xs, ys, g => hl_app xs ys _
theorem hl_rev : ∀ a : List Rat, hl a.reverse zf = horL a
  | [] => rfl
  | q :: r => by
    rw [List.reverse_cons, hl_app, hl_rev r]; rfl
theorem sh_z : sh zf = zf := by
  funext i
  cases i <;> exact Rat.add_zero 0
theorem Hx_z : ∀ n, Hx zf n = zf
  | 0 => rfl
  | n + 1 => by
    funext i
    show sh (Hx zf n) i + cst 0 i = 0
    rw [Hx_z n, sh_z]
    unfold cst zf
    split <;> exact Rat.add_zero 0
theorem hor_Hx : ∀ (n : Nat) (a : List Rat) (f : Cf), (∀ i, a[i]?.getD 0 = f i) → a.length ≤ n → horL a = Hx f n
  | 0, a, f, h, hl => by
    have : a = [] := List.length_eq_zero_iff.mp (by omega)
    subst this; rfl
  | n + 1, [], f, h, _ => by
    have : f = zf := by funext i; rw [← h i]; rfl
    rw [this, Hx_z]; rfl
  | n + 1, q :: r, f, h, hl => by
    have h0 := h 0
    have e : q = f 0 := h0
    have ih := hor_Hx n r (fun i => f (i + 1)) (fun i => h (i + 1)) (by rw [List.length_cons] at hl; omega)
    unfold horL Hx
    rw [ih, e]
theorem sh_add (f g : Cf) : sh (fun i => f i + g i) = fun i => sh f i + sh g i := by
  funext i
  unfold sh
  cases i <;> grind
theorem sh_mul (f : Cf) (c : Rat) : sh (fun i => f i * c) = fun i => sh f i * c := by
  funext i
  unfold sh
  cases i <;> grind
theorem Hx_add : ∀ (n : Nat) (f g : Cf), Hx (fun i => f i + g i) n = fun i => Hx f n i + Hx g n i
  | 0, _, _ => by funext i; exact (Rat.add_zero 0).symm
  | n + 1, f, g => by
    have ih := Hx_add n (fun i => f (i + 1)) (fun i => g (i + 1))
    funext i
    show sh (Hx (fun i => f (i + 1) + g (i + 1)) n) i + cst (f 0 + g 0) i = _
    rw [ih, sh_add]
    show _ = (sh (Hx (fun i => f (i + 1)) n) i + cst (f 0) i) + (sh (Hx (fun i => g (i + 1)) n) i + cst (g 0) i)
    unfold cst
    split <;> grind
theorem Hx_mul : ∀ (n : Nat) (f : Cf) (c : Rat), Hx (fun i => f i * c) n = fun i => Hx f n i * c
  | 0, _, c => by funext i; exact (Rat.zero_mul c).symm
  | n + 1, f, c => by
    have ih := Hx_mul n (fun i => f (i + 1)) c
    funext i
    show sh (Hx (fun i => f (i + 1) * c) n) i + cst (f 0 * c) i = _
    rw [ih, sh_mul]
    show _ = (sh (Hx (fun i => f (i + 1)) n) i + cst (f 0) i) * c
    unfold cst
    split <;> grind
theorem Hx_su : ∀ (n : Nat) (f : Cf) (i : Nat), n < i + 1 → Hx f n i = 0
  | 0, _, _, _ => rfl
  | n + 1, f, i, h => by
    show sh (Hx (fun i => f (i + 1)) n) i + cst (f 0) i = 0
    obtain ⟨j, rfl⟩ : ∃ j, i = j + 1 := ⟨i - 1, by omega⟩
    unfold sh cst
    rw [Hx_su n _ (j + 1) (by omega)]
    show 0 + Hx (fun i => f (i + 1)) n j + (if j + 1 = 0 then _ else 0) = 0
    rw [Hx_su n _ j (by omega), if_neg (by omega), Rat.add_zero, Rat.add_zero]
/-! ### the polynomials of choices -/
def chL : Nat → List Rat
  | 0 => [1]
  | 1 => [0, 1]
  | 2 => [0, -1 / 2, 1 / 2]
  | 3 => [0, 1 / 3, -1 / 2, 1 / 6]
  | 4 => [0, -1 / 4, 11 / 24, -1 / 4, 1 / 24]
  | 5 => [0, 1 / 5, -5 / 12, 7 / 24, -1 / 12, 1 / 120]
  | _ => []
def ch (k : Nat) : Cf := fun i => (chL k)[i]?.getD 0
theorem ch_su {k i : Nat} (h : k < i) : ch k i = 0 := by
  unfold ch
  rw [List.getElem?_eq_none]; rfl
  match k with
  | 0 | 1 | 2 | 3 | 4 | 5 => simp [chL]; omega
  | k + 6 => simp [chL]
theorem ch_z : ∀ k, k < 6 → ch k 0 = if k = 0 then 1 else 0 := by decide +kernel
theorem ch_d : ∀ k, k < 6 → ch k k ≠ 0 := by decide +kernel
theorem ch_rise7 : ∀ k, k < 6 → ∀ i, i < 7 → Hx (ch k) 6 i = ch k i + (if k = 0 then 0 else ch (k - 1) i) := by decide +kernel
theorem ch_rise {k : Nat} (h : k < 6) (i : Nat) : Hx (ch k) 6 i = ch k i + (if k = 0 then 0 else ch (k - 1) i) := by
  by_cases hi : i < 7
  · exact ch_rise7 k h i hi
  · rw [Hx_su 6 _ i (by omega), ch_su (by omega)]
    split
    · exact (Rat.add_zero 0).symm
    · rw [ch_su (by omega)]; exact (Rat.add_zero 0).symm
theorem ch_sc7 : ∀ k, k < 6 → ∀ i, i < 6 → (ch k i * 120).den = 1 ∧ (ch k i * 120).num.natAbs ≤ 120 := by decide +kernel
theorem ch_sc {k : Nat} (h : k < 6) (i : Nat) : Sc 120 (ch k i) := by
  by_cases hi : i < 6
  · obtain ⟨h1, h2⟩ := ch_sc7 k h i hi
    refine ⟨(ch k i * 120).num, ?_, h2⟩
    have e : ((ch k i * 120).num : Rat) = ch k i * 120 := by
      exact Rat.ext (Rat.num_intCast _) ((Rat.den_intCast _).trans h1.symm)
    rw [e]
    grind
  · rw [ch_su (by omega)]; exact Sc.zero
def Wk : Nat → List Int → Cf
  | _, [] => zf
  | k, c :: cs => fun i => ch k i * (c : Rat) + Wk (k + 1) cs i
theorem Wk_Hx : ∀ (cs : List Int) (k : Nat), k + 1 + cs.length ≤ 6 → ∀ i, Hx (Wk (k + 1) cs) 6 i = Wk (k + 1) cs i + Wk k cs i
  | [], k, _, i => by
    show Hx zf 6 i = 0 + 0
    rw [Hx_z]; exact (Rat.add_zero 0).symm
  | c :: cs, k, h, i => by
    rw [List.length_cons] at h
    have ih := Wk_Hx cs (k + 1) (by omega) i
    show Hx (fun i => ch (k + 1) i * (c : Rat) + Wk (k + 2) cs i) 6 i = (ch (k + 1) i * (c : Rat) + Wk (k + 2) cs i) + (ch k i * (c : Rat) + Wk (k + 1) cs i)
    rw [Hx_add, Hx_mul]
    show Hx (ch (k + 1)) 6 i * (c : Rat) + Hx (Wk (k + 2) cs) 6 i = _
    rw [ih, ch_rise (by omega), if_neg (by omega), Nat.add_sub_cancel]
    grind
theorem Wk_rise (c : Int) (cs : List Int) (h : 1 + cs.length ≤ 6) (i : Nat) : Hx (Wk 0 (c :: cs)) 6 i - Wk 0 (c :: cs) i = Wk 0 cs i := by
  show Hx (fun i => ch 0 i * (c : Rat) + Wk 1 cs i) 6 i - (ch 0 i * (c : Rat) + Wk 1 cs i) = _
  rw [Hx_add, Hx_mul]
  show Hx (ch 0) 6 i * (c : Rat) + Hx (Wk 1 cs) 6 i - _ = _
  rw [ch_rise (by omega), if_pos rfl, Wk_Hx cs 0 (by omega)]
  grind
theorem Wk_zero : ∀ (cs : List Int) (k : Nat), k + 1 + cs.length ≤ 6 → Wk (k + 1) cs 0 = 0
  | [], _, _ => rfl
  | c :: cs, k, h => by
    rw [List.length_cons] at h
    show ch (k + 1) 0 * (c : Rat) + Wk (k + 2) cs 0 = 0
    rw [Wk_zero cs (k + 1) (by omega), ch_z (k + 1) (by omega), if_neg (by omega)]
    grind
theorem Wk_at0 (c : Int) (cs : List Int) (h : 1 + cs.length ≤ 6) : Wk 0 (c :: cs) 0 = (c : Rat) := by
  show ch 0 0 * (c : Rat) + Wk 1 cs 0 = _
  rw [Wk_zero cs 0 (by omega), ch_z 0 (by omega), if_pos rfl]
  grind
theorem Wk_su : ∀ (cs : List Int) (k i : Nat), k + cs.length ≤ 6 → k + cs.length ≤ i → Wk k cs i = 0
  | [], _, _, _, _ => rfl
  | c :: cs, k, i, h, hi => by
    rw [List.length_cons] at h hi
    show ch k i * (c : Rat) + Wk (k + 1) cs i = 0
    rw [Wk_su cs (k + 1) i (by omega) (by omega), ch_su (by omega)]
    grind
theorem Wk_last : ∀ (cs : List Int) (k : Nat), k + cs.length + 1 ≤ 6 → Wk k (cs ++ [1]) (k + cs.length) ≠ 0
  | [], k, h => by
    show ch k k * ((1 : Int) : Rat) + 0 ≠ 0
    have := ch_d k (by have h' : k + 0 + 1 ≤ 6 := h; omega)
    grind
  | c :: cs, k, h => by
    rw [List.length_cons] at h ⊢
    show ch k (k + (cs.length + 1)) * (c : Rat) + Wk (k + 1) (cs ++ [1]) (k + (cs.length + 1)) ≠ 0
    have := Wk_last cs (k + 1) (by omega)
    rw [ch_su (by omega), show k + (cs.length + 1) = k + 1 + cs.length by omega]
    grind
theorem Wk_sc : ∀ (cs : List Int) (k : Nat), k + cs.length ≤ 6 → (∀ c ∈ cs, c.natAbs ≤ 10) → ∀ i, Sc (1200 * cs.length) (Wk k cs i)
  | [], _, _, _, _ => Sc.zero
  | c :: cs, k, h, hc, i => by
    rw [List.length_cons] at h ⊢
    have h1 := (ch_sc (k := k) (by omega) i).mulI (hc c List.mem_cons_self)
    have h2 := Wk_sc cs (k + 1) (by omega) (fun d hd => hc d (List.mem_cons_of_mem _ hd)) i
    exact (h1.add h2).mono (by omega)
end Rt

/-! ## Rt11 -/
set_option exponentiation.threshold 2000
namespace Rt
open PySem PySem.Spec PyProof.Rows L2 Ev Nx
variable {Φ : Nat → List Ev.D → Option Ev.R} {Ψ : Nat → List Ev.D → Tp → Option (Ev.R × Tp)} {M : Nat} {τ : Tp} {ρ : Rho} {rest : List S}
theorem ss_set {e : E} {i : Nat} {d : Ev.D} (p : EvD Φ Ψ τ ρ e .S d) : evSs Φ Ψ M ρ τ (.set (.nm i) e :: rest) = evSs Φ Ψ M (ρ.set i (.im d)) τ rest := by
  unfold EvD at p
  rw [evSs, evS, p]; rfl
theorem ss_setL {e : E} {i : Nat} {l : List Ev.D} (p : EvD Φ Ψ τ ρ e .F (.list l)) : evSs Φ Ψ M ρ τ (.set (.nm i) e :: rest) = evSs Φ Ψ M (ρ.set i (.ow l)) τ rest := by
  unfold EvD at p
  rw [evSs, evS, p]; rfl
theorem ss_app {e : E} {i : Nat} {d : Ev.D} {l : List Ev.D} (hi : ρ[i]? = some (.ow l)) (p : EvD Φ Ψ τ ρ e .S d) (hs : l.length < 1000) : evSs Φ Ψ M ρ τ (.app i e :: rest) = evSs Φ Ψ M (ρ.set i (.ow (l ++ [d]))) τ rest := by
  unfold EvD at p
  have : shortL l = true := shortL_of (by omega)
  rw [evSs, evS, hi]
  simp only [p, Option.bind_some, stb, this, if_true]
theorem ss_mov {i j : Nat} {d : Ev.D} (hj : ρ[j]? = some (.im d)) : evSs Φ Ψ M ρ τ (.mov i j :: rest) = evSs Φ Ψ M (ρ.set i (.im d)) τ rest := by
  rw [evSs, evS, hj]; rfl
theorem ss_iteF {c : E} {a : List S} (p : EvD Φ Ψ τ ρ c .S (.bool false)) : evSs Φ Ψ M ρ τ (.ite c a [] :: rest) = evSs Φ Ψ M ρ τ rest := by
  unfold EvD at p
  rw [evSs, evS, p]; rfl
theorem ss_for {tg : Tg} {k : Nat} {its : List E} {b : List S} {rs : List Ev.R} {l : List Ev.D} {ρ' : Rho} (ha : EvA Φ Ψ τ ρ its rs) (nb : (rs.any fun r => r.k == .B) = false) (hi : itD k (rs.map (·.d)) = some l) (h : forL (fun ρ τ => evSs Φ Ψ M ρ τ b) tg l ρ τ = some (.nx ρ' τ)) : evSs Φ Ψ M ρ τ (.for_ tg k its b :: rest) = evSs Φ Ψ M ρ' τ rest := by
  unfold EvA at ha
  rw [evSs, evS, ha, Option.bind_some, hi, Option.bind_some, nb]
  simp only [Bool.false_eq_true, if_false]
  rw [h]; rfl
theorem ev_c1 {n : Nat} {es : List E} {rs : List Ev.R} {l : List Rat} (p : EvA Φ Ψ τ ρ es rs) (h : Φ n (rs.map (·.d)) = some ⟨.S, P l⟩) : EvD Φ Ψ τ ρ (.call n es) .S (P l) := ev_call p h (clean_P l)
theorem ev_tp {es : List E} {rs : List Ev.R} {ds : List Ev.D} (p : EvA Φ Ψ τ ρ es rs) (h : rs.mapM stb = some ds) (hs : ds.length < 1000) : EvD Φ Ψ τ ρ (.tup es) .S (.tuple ds) := ev_tup p h (shortL_of (by omega))
theorem encP11 : P [1, 1] = .tuple [.tuple [.int 1, .int 1], .tuple [.int 1, .int 1]] := rfl
/-! ### compose -/
def cpBody (ad mu tr : Nat) : List S := [.set (.nm 2) (.call ad [(.call mu [(.var 2), (.var 1)]), (.call tr [(.tup [(.var 3)])])])]
def cpCode (ad mu tr : Nat) : List S := [.set (.nm 2) (.tup []), .for_ (.nm 3) 0 [(.rev (.var 0))] (cpBody ad mu tr), .retv 2]
theorem cst_get (q : Rat) (i : Nat) : [q][i]?.getD 0 = cst q i := by
  cases i with
  | zero => rfl
  | succ i => rfl
theorem cp_loop {ad mu tr : Nat} (hA : AddOk (Φ ad)) (hM : MulOk (Φ mu)) (hT : TrimOk (Φ tr)) {L0 : Nat} (hL0 : L0 * 2 ^ 20 ≤ 10 ^ 20) {da : Ev.D} : ∀ (r w : List Rat) (g : Cf) (n K s : Nat) (s3 : Sl), (∀ q ∈ r, Sc L0 q) → Pl w g n K → n + r.length ≤ 60 → s + r.length ≤ 20 → K + L0 ≤ L0 * 2 ^ s →
    ∃ c s3' n' K', forL (fun ρ τ => evSs Φ Ψ M ρ τ (cpBody ad mu tr)) (.nm 3) (r.map enc) [.im da, .im (P [1, 1]), .im (P w), s3] τ = some (.nx [.im da, .im (P [1, 1]), .im (P c), s3'] τ) ∧ Pl c (hl r g) n' K'
  | [], w, g, n, K, s, s3, _, pw, _, _, _ => ⟨w, s3, n, K, rfl, pw⟩
  | q :: r, w, g, n, K, s, s3, hq, pw, hn, hs, hK => by
    rw [List.length_cons] at hn hs
    have hp : L0 * 2 ^ s ≤ L0 * 2 ^ 20 := Nat.mul_le_mul_left _ (Nat.pow_le_pow_right (by omega) (by omega))
    have hp1 : L0 * 2 ^ (s + 1) = 2 * (L0 * 2 ^ s) := by rw [Nat.pow_succ]; simp [Nat.mul_comm, Nat.mul_left_comm]
    have hps : L0 * 2 ^ (s + 1) ≤ L0 * 2 ^ 20 := Nat.mul_le_mul_left _ (Nat.pow_le_pow_right (by omega) (by omega))
    obtain ⟨c1, h1, p1⟩ := hM w g n K pw (by omega) (by omega)
    have h2 := hT [q] (by simp)
    have p2 : Pl (trim [q]) (cst q) 1 L0 := pl_trim (cst_get q) (fun i => by unfold cst; split; exact hq q List.mem_cons_self; exact Sc.zero) (fun i hi => by unfold cst; rw [if_neg (by omega)])
    obtain ⟨c2, h3, p3⟩ := hA c1 (trim [q]) _ _ (n + 1) 1 (K + K) L0 p1 p2 (by omega) (by omega) (by omega) (by omega)
    obtain ⟨c, s3', n', K', w1, w2⟩ := cp_loop hA hM hT hL0 (da := da) r c2 _ (n + 1) (K + K + L0) (s + 1) (.im (enc q)) (fun z hz => hq z (List.mem_cons_of_mem _ hz)) (p3.mono (by omega) (Nat.le_refl _)) (by omega) (by omega) (by omega)
    refine ⟨c, s3', n', K', ?_, w2⟩
    have e : evSs Φ Ψ M [.im da, .im (P [1, 1]), .im (P w), .im (enc q)] τ (cpBody ad mu tr) = some (.nx [.im da, .im (P [1, 1]), .im (P c2), .im (enc q)] τ) := by
      unfold cpBody
      rw [ss_set (ev_c1 (ea_cons (ev_c1 (ea_cons (ev_var rfl) (ea_cons (ev_var rfl) ea_nil)) h1) (ea_cons (ev_c1 (ea_cons (ev_tp (ds := [enc q]) (ea_cons (ev_var rfl) ea_nil) rfl (by simp)) ea_nil) h2) ea_nil)) h3), evSs]
      rfl
    simp only [List.map_cons, forL, tgD, Option.bind_some, List.set_cons_succ, List.set_cons_zero, e]
    exact w1
theorem comp_ok {ad mu tr : Nat} {φ : List Ev.D → Option Ev.R} (h : φ = runF Φ 1000 4 2 (cpCode ad mu tr)) (hA : AddOk (Φ ad)) (hM : MulOk (Φ mu)) (hT : TrimOk (Φ tr)) {a : List Rat} {f : Cf} {n L : Nat} (pa : Pl a f n L) (hn : n ≤ 15) (hL : L ≤ 10 ^ 10) : ∃ c n' K', φ [P a, P [1, 1]] = some ⟨.S, P c⟩ ∧ Pl c (Hx f n) n' K' := by
  have la := pa.len
  have hp0 : L + 1 ≤ (L + 1) * 2 ^ 0 := by simp
  obtain ⟨c, s3', n', K', w1, w2⟩ := cp_loop (Φ := Φ) (Ψ := Ψof []) (M := 1000) (τ := τ0) hA hM hT (L0 := L + 1) (by
    have : (L + 1) * 2 ^ 20 ≤ (10 ^ 10 + 1) * 2 ^ 20 := Nat.mul_le_mul_right _ (by omega)
    exact Nat.le_trans this (by decide)) (da := P a) a.reverse [] zf 0 0 0 .un (fun q hq => (pa.mem (List.mem_reverse.mp hq)).mono (by omega)) pl_nil (by rw [List.length_reverse]; omega) (by rw [List.length_reverse]; omega) (by omega)
  refine ⟨c, n', K', ?_, ?_⟩
  · subst h
    unfold runF
    rw [if_pos (show [P a, P [1, 1]].length = 2 from rfl), evSsK_eq]
    have e0 : start0 4 [P a, P [1, 1]] = [.im (P a), .im (P [1, 1]), .un, .un] := rfl
    rw [e0]
    unfold cpCode
    rw [ss_set (ev_tp (ds := []) ea_nil rfl (by simp))]
    have hr : (revD (P a)) = some ⟨.S, .tuple (a.reverse.map enc)⟩ := by
      show some (⟨.S, .tuple (a.map enc).reverse⟩ : Ev.R) = _
      rw [List.map_reverse]
    show (evSs Φ (Ψof []) 1000 [.im (P a), .im (P [1, 1]), .im (P []), .un] τ0 [.for_ (.nm 3) 0 [(.rev (.var 0))] (cpBody ad mu tr), .retv 2]).bind retOf = _
    rw [ss_for (k := 0) (ρ' := [.im (P a), .im (P [1, 1]), .im (P c), s3']) (l := a.reverse.map enc) (ea_cons (ev_rev (ev_var (i := 0) rfl) hr) ea_nil) rfl rfl w1]
    rw [evSs, evS]; rfl
  · rw [hl_rev, hor_Hx n a f pa.is la] at w2
    exact w2
/-! ### rise_of -/
def riCode (su co : Nat) : List S := [.ret (.call su [(.call co [(.var 0), (.tup [(.cst (.tuple [.int 1, .int 1])), (.cst (.tuple [.int 1, .int 1]))])]), (.var 0)])]
theorem Pl.re {l : List Rat} {f : Cf} {n L n' L' : Nat} (h : Pl l f n L) (hb : ∀ i, Sc L' (f i)) (hs : ∀ i, n' ≤ i → f i = 0) : Pl l f n' L' := ⟨h.tr, h.is, hb, hs⟩
theorem Hx_sc : ∀ (n : Nat) (f : Cf) (L : Nat), (∀ i, Sc L (f i)) → ∀ i, Sc (L * 2 ^ n) (Hx f n i)
  | 0, _, _, _, _ => Sc.zero
  | n + 1, f, L, h, i => by
    have ih := Hx_sc n (fun i => f (i + 1)) L (fun i => h (i + 1))
    have e : L * 2 ^ (n + 1) = L * 2 ^ n + L * 2 ^ n := by rw [Nat.pow_succ, ← Nat.mul_assoc, Nat.mul_two]
    show Sc _ (sh (Hx (fun i => f (i + 1)) n) i + cst (f 0) i)
    have hp : L ≤ L * 2 ^ n := Nat.le_mul_of_pos_right _ (Nat.two_pow_pos n)
    cases i with
    | zero =>
      show Sc _ ((Hx (fun i => f (i + 1)) n 0 + 0) + f 0)
      rw [Rat.add_zero, e]
      exact (ih 0).add ((h 0).mono hp)
    | succ i =>
      show Sc _ ((Hx (fun i => f (i + 1)) n (i + 1) + Hx (fun i => f (i + 1)) n i) + 0)
      rw [Rat.add_zero, e]
      exact (ih (i + 1)).add (ih i)
def RiseOk (φ : List Ev.D → Option Ev.R) : Prop := ∀ (a : List Rat) (c : Int) (cs : List Int), 1 + cs.length ≤ 6 → (∀ x ∈ c :: cs, x.natAbs ≤ 10) → Pl a (Wk 0 (c :: cs)) 6 7200 → ∃ b, φ [P a] = some ⟨.S, P b⟩ ∧ Pl b (Wk 0 cs) 6 7200
theorem rise_ok {su co ad mu tr : Nat} {φ : List Ev.D → Option Ev.R} {Φ' : Nat → List Ev.D → Option Ev.R} (h : φ = runF Φ 1000 1 1 (riCode su co)) (hS : SubOk (Φ su)) (hC : Φ co = runF Φ' 1000 4 2 (cpCode ad mu tr)) (hA : AddOk (Φ' ad)) (hM : MulOk (Φ' mu)) (hT : TrimOk (Φ' tr)) : RiseOk φ := fun a c cs hc hx pa => by
  obtain ⟨b, n', K', h1, p1⟩ := comp_ok (Φ := Φ') rfl hA hM hT pa (by omega) (by decide)
  have p1' : Pl b (Hx (Wk 0 (c :: cs)) 6) 7 (7200 * 2 ^ 6) := p1.re (Hx_sc 6 _ 7200 pa.bd) (fun i hi => Hx_su 6 _ i (by omega))
  obtain ⟨d, h2, p2⟩ := hS b a _ _ 7 6 (7200 * 2 ^ 6) 7200 p1' pa (by omega) (by omega) (by decide) (by decide)
  have p3 : Pl d (Wk 0 cs) (max 7 6) (7200 * 2 ^ 6 + 7200 * 10) := p2.to (Wk_rise c cs hc)
  refine ⟨d, ?_, p3.re (fun i => (Wk_sc cs 0 (by omega) (fun x hx' => hx x (List.mem_cons_of_mem _ hx')) i).mono (by omega)) (fun i hi => Wk_su cs 0 i (by omega) (by omega))⟩
  subst h
  unfold runF
  rw [if_pos (show [P a].length = 1 from rfl), evSsK_eq]
  have e0 : start0 1 [P a] = [.im (P a)] := rfl
  rw [e0]
  unfold riCode
  have p := ev_c1 (Ψ := Ψof []) (τ := τ0) (ρ := [.im (P a)]) (n := su) (ea_cons (ev_c1 (n := co) (ea_cons (ev_var (i := 0) rfl) (ea_cons (ev_tp (ds := [.tuple [.int 1, .int 1], .tuple [.int 1, .int 1]]) (ea_cons ev_cst (ea_cons ev_cst ea_nil)) rfl (by simp)) ea_nil)) (by rw [hC]; exact h1)) (ea_cons (ev_var (i := 0) rfl) ea_nil)) h2
  unfold EvD at p
  rw [evSs, evS, p]; rfl
end Rt

/-! ## Rt12 -/
set_option exponentiation.threshold 2000
namespace Rt
open PySem PySem.Spec PyProof.Rows L2 Ev Nx
variable {Φ : Nat → List Ev.D → Option Ev.R} {Ψ : Nat → List Ev.D → Tp → Option (Ev.R × Tp)} {M : Nat} {τ : Tp} {ρ : Rho} {rest : List S}
abbrev en1 (c : Int) : Ev.D := .tuple [.int c, .int 1]
theorem en1_eq (c : Int) : enc (c : Rat) = en1 c := enc_int c
abbrev rowD (cs : List Int) : Ev.D := .tuple (cs.map en1)
def CpOk (φ : List Ev.D → Option Ev.R) : Prop := ∀ k : Nat, k < 6 → φ [.int (k : Int)] = some ⟨.S, P (chL k)⟩
theorem ch_tr : ∀ k, k < 6 → (chL k = [] ∨ (chL k)[(chL k).length - 1]?.getD 0 ≠ 0) := by decide +kernel
theorem ch_len : ∀ k, k < 6 → (chL k).length ≤ 6 := by decide +kernel
theorem ch_pl {k : Nat} (h : k < 6) : Pl (chL k) (ch k) 6 120 := ⟨ch_tr k h, fun _ => rfl, ch_sc h, fun i hi => ch_su (by omega)⟩
def frBody (ad sc cp : Nat) : List S := [.set (.nm 1) (.call ad [(.var 1), (.call sc [(.call cp [(.var 2)]), (.var 3)])])]
def frCode (ad sc cp : Nat) : List S := [.ite (.cmp .gt (.blt .len [(.var 0)]) (.bin .add (.cst (.int 12)) (.cst (.int 1)))) [.nev] [],
    .set (.nm 1) (.tup []),
    .for_ (.tu [2, 3]) 3 [(.var 0)] (frBody ad sc cp),
    .retv 1]
theorem fr_loop {ad sc cp : Nat} (hA : AddOk (Φ ad)) (hS : ScaOk (Φ sc)) (hC : CpOk (Φ cp)) {da : Ev.D} : ∀ (cs : List Int) (k : Nat) (w : List Rat) (g : Cf) (K : Nat) (s2 s3 : Sl), k + cs.length ≤ 6 → (∀ c ∈ cs, c.natAbs ≤ 10) → Pl w g 6 K → K + 1200 * cs.length ≤ 10 ^ 10 →
    ∃ c s2' s3' K', forL (fun ρ τ => evSs Φ Ψ M ρ τ (frBody ad sc cp)) (.tu [2, 3]) (enumD k (cs.map en1)) [.im da, .im (P w), s2, s3] τ = some (.nx [.im da, .im (P c), s2', s3'] τ) ∧ Pl c (fun i => g i + Wk k cs i) 6 K'
  | [], k, w, g, K, s2, s3, _, _, pw, _ => ⟨w, s2, s3, K, rfl, pw.to fun i => (Rat.add_zero _).symm⟩
  | z :: cs, k, w, g, K, s2, s3, hk, hc, pw, hK => by
    rw [List.length_cons] at hk hK
    have h1 := hC k (by omega)
    obtain ⟨c1, h2, p2⟩ := hS (chL k) (ch k) 6 120 z (ch_pl (by omega)) (hc z List.mem_cons_self) (by omega) (by decide)
    have hK20 : K ≤ 10 ^ 20 := by
      have : (10 : Nat) ^ 10 ≤ 10 ^ 20 := by decide
      omega
    obtain ⟨c2, h3, p3⟩ := hA w c1 g _ 6 6 K (120 * 10) pw p2 (by omega) (by omega) hK20 (by decide)
    obtain ⟨c, s2', s3', K', w1, w2⟩ := fr_loop hA hS hC (da := da) cs (k + 1) c2 _ (K + 120 * 10) (.im (.int (k : Int))) (.im (en1 z)) (by omega) (fun x hx => hc x (List.mem_cons_of_mem _ hx)) p3 (by omega)
    refine ⟨c, s2', s3', K', ?_, w2.to fun i => ?_⟩
    · rw [en1_eq] at h2
      have e : evSs Φ Ψ M [.im da, .im (P w), .im (.int (k : Int)), .im (en1 z)] τ (frBody ad sc cp) = some (.nx [.im da, .im (P c2), .im (.int (k : Int)), .im (en1 z)] τ) := by
        unfold frBody
        rw [ss_set (ev_c1 (ea_cons (ev_var rfl) (ea_cons (ev_c1 (ea_cons (ev_c1 (ea_cons (ev_var rfl) ea_nil) h1) (ea_cons (ev_var rfl) ea_nil)) h2) ea_nil)) h3), evSs]
        rfl
      simp only [List.map_cons, enumD, forL, tgD, setsD, Option.bind_some, List.set_cons_succ, List.set_cons_zero, e]
      exact w1
    · show (g i + ch k i * (z : Rat)) + Wk (k + 1) cs i = g i + (ch k i * (z : Rat) + Wk (k + 1) cs i)
      rw [Rat.add_assoc]
theorem from_ok {ad sc cp : Nat} {φ : List Ev.D → Option Ev.R} (h : φ = runF Φ 1000 4 1 (frCode ad sc cp)) (hA : AddOk (Φ ad)) (hS : ScaOk (Φ sc)) (hC : CpOk (Φ cp)) {cs : List Int} (hl : cs.length ≤ 6) (hc : ∀ c ∈ cs, c.natAbs ≤ 10) : ∃ c, φ [rowD cs] = some ⟨.S, P c⟩ ∧ Pl c (Wk 0 cs) 6 7200 := by
  obtain ⟨c, s2', s3', K', w1, w2⟩ := fr_loop (Φ := Φ) (Ψ := Ψof []) (M := 1000) (τ := τ0) hA hS hC (da := rowD cs) cs 0 [] zf 0 .un .un (by omega) hc pl_nil (by
    have : 1200 * cs.length ≤ 1200 * 6 := Nat.mul_le_mul_left _ hl
    have : (1200 * 6 : Nat) ≤ 10 ^ 10 := by decide
    omega)
  refine ⟨c, ?_, ((w2.to fun i => Rat.zero_add _).re (fun i => (Wk_sc cs 0 (by omega) hc i).mono (by omega)) (fun i hi => Wk_su cs 0 i (by omega) (by omega)))⟩
  subst h
  unfold runF
  rw [if_pos (show [rowD cs].length = 1 from rfl), evSsK_eq]
  have e0 : start0 4 [rowD cs] = [.im (rowD cs), .un, .un, .un] := rfl
  rw [e0]
  unfold frCode
  have t1 : EvD Φ (Ψof []) τ0 [.im (rowD cs), .un, .un, .un] (.cmp .gt (.blt .len [(.var 0)]) (.bin .add (.cst (.int 12)) (.cst (.int 1)))) .S (.bool false) := by
    refine ev_to ?_ (ev_gt (ev_blt (ea_cons (ev_var rfl) ea_nil) bl_lenT) (ev_add ev_cst ev_cst))
    rw [ltZ_eq, lenZ_eq, addZ_eq, List.length_map, decide_eq_false (by omega)]
  rw [ss_iteF t1, ss_set (ev_tp (ds := []) ea_nil rfl (by simp))]
  show (evSs Φ (Ψof []) 1000 [.im (rowD cs), .im (P []), .un, .un] τ0 [.for_ (.tu [2, 3]) 3 [(.var 0)] (frBody ad sc cp), .retv 1]).bind retOf = _
  rw [ss_for (k := 3) (ρ' := [.im (rowD cs), .im (P c), s2', s3']) (l := enumD 0 (cs.map en1)) (ea_cons (ev_var (i := 0) rfl) ea_nil) rfl rfl w1]
  rw [evSs, evS]; rfl
/-! ### rises -/
def DgOk (φ : List Ev.D → Option Ev.R) : Prop := ∀ a : List Rat, φ [P a] = some ⟨.S, .int ((a.length : Int) - 1)⟩
def rsBody (ri : Nat) : List S := [.app 1 (.ite (.tru (.var 2)) (.idx (.var 2) (.cst (.int 0))) (.cst (.tuple [.int 0, .int 1]))), .set (.nm 2) (.call ri [(.var 2)])]
def rsCode (dg ri : Nat) : List S := [.ite (.cmp .gt (.call dg [(.var 0)]) (.cst (.int 12))) [.nev] [],
    .set (.nm 1) (.lst []),
    .mov 2 0,
    .for_ (.nm 3) 1 [(.blt .len [(.var 0)])] (rsBody ri),
    .ret (.blt .tuple [(.var 1)])]
theorem rs_loop {ri : Nat} (hR : RiseOk (Φ ri)) {da : Ev.D} : ∀ (cs : List Int) (i : Int) (w : List Rat) (xs : List Ev.D) (s3 : Sl), cs.length ≤ 6 → xs.length + cs.length ≤ 20 → (∀ c ∈ cs, c.natAbs ≤ 10) → Pl w (Wk 0 cs) 6 7200 →
    ∃ w' s3', forL (fun ρ τ => evSs Φ Ψ M ρ τ (rsBody ri)) (.nm 3) (rngD i cs.length) [.im da, .ow xs, .im (P w), s3] τ = some (.nx [.im da, .ow (xs ++ cs.map en1), .im (P w'), s3'] τ)
  | [], i, w, xs, s3, _, _, _, _ => ⟨w, s3, by rw [List.map_nil, List.append_nil]; rfl⟩
  | z :: cs, i, w, xs, s3, hl, hx, hc, pw => by
    rw [List.length_cons] at hl hx
    obtain ⟨b, h1, p1⟩ := hR w z cs (by omega) hc pw
    obtain ⟨w', s3', q⟩ := rs_loop hR (da := da) cs (i + 1) b (xs ++ [en1 z]) (.im (.int i)) (by omega) (by rw [List.length_append, List.length_singleton]; omega) (fun x hx => hc x (List.mem_cons_of_mem _ hx)) p1
    refine ⟨w', s3', ?_⟩
    have hv : EvD Φ Ψ τ [.im da, .ow xs, .im (P w), .im (.int i)] (.ite (.tru (.var 2)) (.idx (.var 2) (.cst (.int 0))) (.cst (.tuple [.int 0, .int 1]))) .S (en1 z) := by
      have h0 := pw.is 0
      rw [Wk_at0 z cs (by omega)] at h0
      cases w with
      | nil =>
        have hz : en1 z = .tuple [.int 0, .int 1] := by
          have h0' : (0 : Rat) = (z : Rat) := h0
          rw [← en1_eq, ← h0']; rfl
        rw [hz]
        exact ev_ite (t := false) (x := .none) (ev_tru (ev_var rfl) rfl) (fun h => by cases h) (fun _ => ev_cst) rfl
      | cons q r =>
        have h0' : q = (z : Rat) := h0
        have hz : en1 z = enc q := by rw [← en1_eq, h0']
        rw [hz]
        exact ev_ite (t := true) (y := .none) (ev_tru (ev_var rfl) rfl) (fun _ => ev_idx (ev_var rfl) ev_cst (ix_T (l := (q :: r).map enc) (i := 0) rfl)) (fun h => by cases h) rfl
    have e : evSs Φ Ψ M [.im da, .ow xs, .im (P w), .im (.int i)] τ (rsBody ri) = some (.nx [.im da, .ow (xs ++ [en1 z]), .im (P b), .im (.int i)] τ) := by
      unfold rsBody
      rw [ss_app (l := xs) rfl hv (by omega)]
      show evSs Φ Ψ M [.im da, .ow (xs ++ [en1 z]), .im (P w), .im (.int i)] τ [.set (.nm 2) (.call ri [(.var 2)])] = _
      rw [ss_set (ev_c1 (ea_cons (ev_var rfl) ea_nil) h1), evSs]; rfl
    simp only [List.length_cons, rngD, forL, tgD, Option.bind_some, List.set_cons_succ, List.set_cons_zero, e]
    rw [q, List.map_cons, List.append_assoc]; rfl
theorem rises_ok {dg ri : Nat} {φ : List Ev.D → Option Ev.R} (h : φ = runF Φ 1000 4 1 (rsCode dg ri)) (hD : DgOk (Φ dg)) (hR : RiseOk (Φ ri)) {a : List Rat} {ds : List Int} (hl : ds.length + 1 ≤ 6) (hc : ∀ c ∈ ds, c.natAbs ≤ 10) (pa : Pl a (Wk 0 (ds ++ [1])) 6 7200) : φ [P a] = some ⟨.S, rowD (ds ++ [1])⟩ := by
  have hc' : ∀ c ∈ ds ++ [1], c.natAbs ≤ 10 := fun c h => by
    rcases List.mem_append.mp h with h | h
    · exact hc c h
    · rw [List.mem_singleton.mp h]; decide
  have l1 : (ds ++ [1]).length = ds.length + 1 := by simp
  have la : a.length = (ds ++ [1]).length := by
    have h1 := (pa.re (n' := (ds ++ [1]).length) (L' := 7200) pa.bd (fun i hi => Wk_su _ 0 i (by omega) (by omega))).len
    have h2 := Wk_last ds 0 (by omega)
    rw [Nat.zero_add, ← pa.is] at h2
    by_cases g : ds.length < a.length
    · omega
    · rw [List.getElem?_eq_none (by omega)] at h2
      exact absurd rfl h2
  obtain ⟨w', s3', q⟩ := rs_loop (Φ := Φ) (Ψ := Ψof []) (M := 1000) (τ := τ0) hR (da := P a) (ds ++ [1]) 0 a [] .un (by omega) (by show 0 + _ ≤ 20; omega) hc' pa
  subst h
  unfold runF
  rw [if_pos (show [P a].length = 1 from rfl), evSsK_eq]
  have e0 : start0 4 [P a] = [.im (P a), .un, .un, .un] := rfl
  rw [e0]
  unfold rsCode
  have t1 : EvD Φ (Ψof []) τ0 [.im (P a), .un, .un, .un] (.cmp .gt (.call dg [(.var 0)]) (.cst (.int 12))) .S (.bool false) := by
    refine ev_to ?_ (ev_gt (ev_call (ea_cons (ev_var rfl) ea_nil) (hD a) rfl) ev_cst)
    rw [ltZ_eq, decide_eq_false (by omega)]
  rw [ss_iteF t1, ss_setL (l := []) (ev_lst (ds := []) ea_nil rfl rfl)]
  show (evSs Φ (Ψof []) 1000 [.im (P a), .ow [], .un, .un] τ0 [.mov 2 0, .for_ (.nm 3) 1 [(.blt .len [(.var 0)])] (rsBody ri), .ret (.blt .tuple [(.var 1)])]).bind retOf = _
  rw [ss_mov (d := P a) rfl]
  show (evSs Φ (Ψof []) 1000 [.im (P a), .ow [], .im (P a), .un] τ0 [.for_ (.nm 3) 1 [(.blt .len [(.var 0)])] (rsBody ri), .ret (.blt .tuple [(.var 1)])]).bind retOf = _
  have hln : lenZ (a.map enc) = ((ds ++ [1]).length : Int) := by rw [lenZ_eq, List.length_map, la]
  have hi : itD 1 [.int (lenZ (a.map enc))] = some (rngD 0 (ds ++ [1]).length) := by rw [hln]; exact rng_ev (by omega)
  have hi' : itD 1 (List.map (fun r : Ev.R => r.d) [(⟨.S, .int (lenZ (a.map enc))⟩ : Ev.R)]) = some (rngD 0 (ds ++ [1]).length) := by rw [List.map_cons, List.map_nil]; exact hi
  have hA : EvA Φ (Ψof []) τ0 [.im (P a), .ow [], .im (P a), .un] [(.blt .len [(.var 0)])] [⟨.S, .int (lenZ (a.map enc))⟩] := ea_cons (ev_blt (r := ⟨.S, .int (lenZ (a.map enc))⟩) (ea_cons (ev_var (i := 0) rfl) ea_nil) (bl_lenT (l := a.map enc))) ea_nil
  rw [ss_for (k := 1) (ρ' := [.im (P a), .ow ([] ++ (ds ++ [1]).map en1), .im (P w'), s3']) (l := rngD 0 (ds ++ [1]).length) hA rfl hi' q]
  have hp : EvD Φ (Ψof []) τ0 [.im (P a), .ow ([] ++ (ds ++ [1]).map en1), .im (P w'), s3'] (.blt .tuple [(.var 1)]) .S (rowD (ds ++ [1])) := ev_blt (ea_cons (ev_varL rfl) ea_nil) bl_tupL
  unfold EvD at hp
  rw [evSs, evS, hp]; rfl
/-! ### is_whole -/
def iwBody : List S := [.ite (.cmp .ne (.idx (.var 2) (.cst (.int 1))) (.cst (.int 1))) [.retv 1] []]
def iwCode (rs : Nat) : List S := [.for_ (.tu [1, 2]) 3 [(.call rs [(.var 0)])] iwBody, .ret (.cst (.none))]
theorem iw_loop {da : Ev.D} : ∀ (cs : List Int) (k : Nat) (s1 s2 : Sl), ∃ s1' s2', forL (fun ρ τ => evSs Φ Ψ M ρ τ iwBody) (.tu [1, 2]) (enumD k (cs.map en1)) [.im da, s1, s2] τ = some (.nx [.im da, s1', s2'] τ)
  | [], k, s1, s2 => ⟨s1, s2, rfl⟩
  | z :: cs, k, s1, s2 => by
    obtain ⟨s1', s2', q⟩ := iw_loop cs (k + 1) (.im (.int (k : Int))) (.im (en1 z))
    refine ⟨s1', s2', ?_⟩
    have t1 : EvD Φ Ψ τ [.im da, .im (.int (k : Int)), .im (en1 z)] (.cmp .ne (.idx (.var 2) (.cst (.int 1))) (.cst (.int 1))) .S (.bool false) :=
      ev_to rfl (ev_cmp (r := false) (ev_idx (d := .int 1) (ev_var rfl) ev_cst (ix_T (l := [.int z, .int 1]) (i := 1) rfl)) ev_cst rfl)
    have e : evSs Φ Ψ M [.im da, .im (.int (k : Int)), .im (en1 z)] τ iwBody = some (.nx [.im da, .im (.int (k : Int)), .im (en1 z)] τ) := by
      unfold iwBody
      rw [ss_iteF t1, evSs]
    simp only [List.map_cons, enumD, forL, tgD, setsD, Option.bind_some, List.set_cons_succ, List.set_cons_zero, e]
    exact q
theorem rowD_clean (cs : List Int) : clean ⟨.S, rowD cs⟩ = true := by
  show noListAll (cs.map en1) = true
  induction cs with
  | nil => rfl
  | cons c cs ih =>
    show (noList (en1 c) && noListAll (cs.map en1)) = true
    rw [ih]; rfl
theorem whole_ok {rs : Nat} {φ : List Ev.D → Option Ev.R} (h : φ = runF Φ 1000 3 1 (iwCode rs)) {a : List Rat} {cs : List Int} (hR : Φ rs [P a] = some ⟨.S, rowD cs⟩) : φ [P a] = some ⟨.S, .none⟩ := by
  obtain ⟨s1', s2', q⟩ := iw_loop (Φ := Φ) (Ψ := Ψof []) (M := 1000) (τ := τ0) (da := P a) cs 0 .un .un
  subst h
  unfold runF
  rw [if_pos (show [P a].length = 1 from rfl), evSsK_eq]
  have e0 : start0 3 [P a] = [.im (P a), .un, .un] := rfl
  rw [e0]
  unfold iwCode
  rw [ss_for (k := 3) (ρ' := [.im (P a), s1', s2']) (l := enumD 0 (cs.map en1)) (ea_cons (ev_call (r := ⟨.S, rowD cs⟩) (ea_cons (ev_var (i := 0) rfl) ea_nil) hR (rowD_clean cs)) ea_nil) rfl rfl q]
  rw [evSs, evS, ev]; rfl
end Rt

namespace K52
open PySem PySem.Spec PyProof.Rows L2 Ev
def topS (i : Nat) : Stmt := PySem.Challenge.pw_numberguild_k52_whole_counts_by_quotient.main.body.getD i (.Pass ⟨0, 0, 0, 0⟩)
def cons : List (Str × Ev.D) := [("BASES", .tuple [.int 2, .int 3, .int 5, .int 7, .int 11, .int 13, .int 17, .int 19, .int 23, .int 29, .int 31, .int 37]), ("MOST_TERMS", .int 60), ("MOST_counting", .int 200), ("MOST_primes", .int 100000000000000), ("MOST_sums", .int 12), ("ONE", .tuple [.int 1, .int 1]), ("ZERO", .tuple [.int 0, .int 1])]
def blts : List Str := ["any", "enumerate", "int", "len", "max", "min", "range", "set", "sorted", "sum", "tuple"]
/-! common -/
abbrev u_common_st : Stmt := topS 3
abbrev u_common_N : List Str := ["one", "other", "first", "second", "times", "k", "number"]
theorem u_common_sc : FnScope u_common_N ["one", "other"] (defScope u_common_st) := ⟨rfl, rfl, rfl, by decide +kernel, rfl, by decide +kernel, by decide +kernel⟩
def u_common_fs : List Str := []
def u_common_cc : Cc := ⟨u_common_N, defScope u_common_st, cons, u_common_fs, [], blts⟩
def u_common_code : List S :=
   [.set (.tu [2, 3]) (.tup [(.tup [(.var 0), (.cst (.int 1)), (.cst (.int 0))]), (.tup [(.var 1), (.cst (.int 0)), (.cst (.int 1))])]),
    .whl (.cmp .ne (.idx (.var 3) (.cst (.int 0))) (.cst (.int 0))) [.set (.nm 4) (.bin .fdiv (.idx (.var 2) (.cst (.int 0))) (.idx (.var 3) (.cst (.int 0)))),
    .set (.tu [2, 3]) (.tup [(.var 3), (.blt .tuple [(.comp (.bin .sub (.idx (.var 2) (.var 5)) (.bin .mul (.var 4) (.idx (.var 3) (.var 5)))) (.nm 5) 1 [(.cst (.int 3))] [])])])],
    .ret (.ite (.cmp .lt (.idx (.var 2) (.cst (.int 0))) (.cst (.int 0))) (.blt .tuple [(.comp (.bin .sub (.cst (.int 0)) (.var 6)) (.nm 6) 0 [(.var 2)] [])]) (.var 2))]
theorem u_common_comp : compSs 100 u_common_cc (defBody u_common_st) = some u_common_code := by kernel_rfl
noncomputable def u_common_φs : List (List Ev.D → Option Ev.R) := []
noncomputable def u_common_ms : MS := (sqK (sSet (.tu [(2), (3)]) (kTup (kCons (kTup (kCons (kVar 0) (kCons (fun _ τ => some (⟨.S, (.int 1)⟩, τ)) (kCons (fun _ τ => some (⟨.S, (.int 0)⟩, τ)) kNil)))) (kCons (kTup (kCons (kVar 1) (kCons (fun _ τ => some (⟨.S, (.int 0)⟩, τ)) (kCons (fun _ τ => some (⟨.S, (.int 1)⟩, τ)) kNil)))) kNil)))) (sqK (whK (kCmp .ne (kIdx (kVar 3) (fun _ τ => some (⟨.S, (.int 0)⟩, τ))) (fun _ τ => some (⟨.S, (.int 0)⟩, τ))) (sqK (sSet (.nm 4) (kBin .fdiv (kIdx (kVar 2) (fun _ τ => some (⟨.S, (.int 0)⟩, τ))) (kIdx (kVar 3) (fun _ τ => some (⟨.S, (.int 0)⟩, τ))))) (sqK (sSet (.tu [(2), (3)]) (kTup (kCons (kVar 3) (kCons (kBlt .tuple (kCons (kComp (kBin .sub (kIdx (kVar 2) (kVar 5)) (kBin .mul (kVar 4) (kIdx (kVar 3) (kVar 5)))) (.nm 5) 1 (kCons (fun _ τ => some (⟨.S, (.int 3)⟩, τ)) kNil) kNil) kNil)) kNil)))) (fun ρ τ => some (.nx ρ τ)))) 1000) (sqK (sRet (kIte (kCmp .lt (kIdx (kVar 2) (fun _ τ => some (⟨.S, (.int 0)⟩, τ))) (fun _ τ => some (⟨.S, (.int 0)⟩, τ))) (kBlt .tuple (kCons (kComp (kBin .sub (fun _ τ => some (⟨.S, (.int 0)⟩, τ)) (kVar 6)) (.nm 6) 0 (kCons (kVar 2) kNil) kNil) kNil)) (kVar 2))) (fun ρ τ => some (.nx ρ τ)))))
theorem u_common_ms_eq : u_common_ms = evSsK (Φof u_common_φs) (Ψof []) 1000 u_common_code := by kernel_rfl
noncomputable def u_common_φ : List Ev.D → Option Ev.R := runM 7 2 u_common_ms
/-! power -/
abbrev u_power_st : Stmt := topS 4
abbrev u_power_N : List Str := ["base", "times", "whole", "found"]
theorem u_power_sc : FnScope u_power_N ["base", "times", "whole"] (defScope u_power_st) := ⟨rfl, rfl, rfl, by decide +kernel, rfl, by decide +kernel, by decide +kernel⟩
def u_power_fs : List Str := "common" :: u_common_fs
def u_power_cc : Cc := ⟨u_power_N, defScope u_power_st, cons, u_power_fs, [], blts⟩
def u_power_code : List S :=
   [.ite (.cmp .lt (.var 1) (.cst (.int 0))) [.nev] [],
    .ite (.cmp .lt (.var 2) (.cst (.int 1))) [.nev] [],
    .set (.nm 3) (.bin .mod (.cst (.int 1)) (.var 2)),
    .set (.nm 0) (.bin .mod (.var 0) (.var 2)),
    .whl (.cmp .gt (.var 1) (.cst (.int 0))) [.ite (.cmp .eq (.bin .mod (.var 1) (.cst (.int 2))) (.cst (.int 1))) [.set (.nm 3) (.bin .mod (.bin .mul (.var 3) (.var 0)) (.var 2))] [],
    .set (.nm 0) (.bin .mod (.bin .mul (.var 0) (.var 0)) (.var 2)),
    .aug 1 .fdiv (.cst (.int 2))],
    .retv 3]
theorem u_power_comp : compSs 100 u_power_cc (defBody u_power_st) = some u_power_code := by kernel_rfl
noncomputable def u_power_φs : List (List Ev.D → Option Ev.R) := u_common_φ :: u_common_φs
noncomputable def u_power_ms : MS := (sqK (sIte (kCmp .lt (kVar 1) (fun _ τ => some (⟨.S, (.int 0)⟩, τ))) (sqK (fun _ _ => none) (fun ρ τ => some (.nx ρ τ))) (fun ρ τ => some (.nx ρ τ))) (sqK (sIte (kCmp .lt (kVar 2) (fun _ τ => some (⟨.S, (.int 1)⟩, τ))) (sqK (fun _ _ => none) (fun ρ τ => some (.nx ρ τ))) (fun ρ τ => some (.nx ρ τ))) (sqK (sSet (.nm 3) (kBin .mod (fun _ τ => some (⟨.S, (.int 1)⟩, τ)) (kVar 2))) (sqK (sSet (.nm 0) (kBin .mod (kVar 0) (kVar 2))) (sqK (whK (kCmp .gt (kVar 1) (fun _ τ => some (⟨.S, (.int 0)⟩, τ))) (sqK (sIte (kCmp .eq (kBin .mod (kVar 1) (fun _ τ => some (⟨.S, (.int 2)⟩, τ))) (fun _ τ => some (⟨.S, (.int 1)⟩, τ))) (sqK (sSet (.nm 3) (kBin .mod (kBin .mul (kVar 3) (kVar 0)) (kVar 2))) (fun ρ τ => some (.nx ρ τ))) (fun ρ τ => some (.nx ρ τ))) (sqK (sSet (.nm 0) (kBin .mod (kBin .mul (kVar 0) (kVar 0)) (kVar 2))) (sqK (sAug 1 .fdiv (fun _ τ => some (⟨.S, (.int 2)⟩, τ))) (fun ρ τ => some (.nx ρ τ))))) 1000) (sqK (sRetv 3) (fun ρ τ => some (.nx ρ τ))))))))
theorem u_power_ms_eq : u_power_ms = evSsK (Φof u_power_φs) (Ψof []) 1000 u_power_code := by kernel_rfl
noncomputable def u_power_φ : List Ev.D → Option Ev.R := runM 4 3 u_power_ms
/-! tower -/
abbrev u_tower_st : Stmt := topS 5
abbrev u_tower_N : List Str := ["base", "times", "found"]
theorem u_tower_sc : FnScope u_tower_N ["base", "times"] (defScope u_tower_st) := ⟨rfl, rfl, rfl, by decide +kernel, rfl, by decide +kernel, by decide +kernel⟩
def u_tower_fs : List Str := "power" :: u_power_fs
def u_tower_cc : Cc := ⟨u_tower_N, defScope u_tower_st, cons, u_tower_fs, [], blts⟩
def u_tower_code : List S :=
   [.set (.nm 2) (.cst (.int 1)),
    .whl (.cmp .gt (.var 1) (.cst (.int 0))) [.ite (.cmp .eq (.bin .mod (.var 1) (.cst (.int 2))) (.cst (.int 1))) [.aug 2 .mul (.var 0)] [],
    .aug 0 .mul (.var 0),
    .aug 1 .fdiv (.cst (.int 2))],
    .retv 2]
theorem u_tower_comp : compSs 100 u_tower_cc (defBody u_tower_st) = some u_tower_code := by kernel_rfl
noncomputable def u_tower_φs : List (List Ev.D → Option Ev.R) := u_power_φ :: u_power_φs
noncomputable def u_tower_ms : MS := (sqK (sSet (.nm 2) (fun _ τ => some (⟨.S, (.int 1)⟩, τ))) (sqK (whK (kCmp .gt (kVar 1) (fun _ τ => some (⟨.S, (.int 0)⟩, τ))) (sqK (sIte (kCmp .eq (kBin .mod (kVar 1) (fun _ τ => some (⟨.S, (.int 2)⟩, τ))) (fun _ τ => some (⟨.S, (.int 1)⟩, τ))) (sqK (sAug 2 .mul (kVar 0)) (fun ρ τ => some (.nx ρ τ))) (fun ρ τ => some (.nx ρ τ))) (sqK (sAug 0 .mul (kVar 0)) (sqK (sAug 1 .fdiv (fun _ τ => some (⟨.S, (.int 2)⟩, τ))) (fun ρ τ => some (.nx ρ τ))))) 1000) (sqK (sRetv 2) (fun ρ τ => some (.nx ρ τ)))))
theorem u_tower_ms_eq : u_tower_ms = evSsK (Φof u_tower_φs) (Ψof []) 1000 u_tower_code := by kernel_rfl
noncomputable def u_tower_φ : List Ev.D → Option Ev.R := runM 3 2 u_tower_ms
/-! check_number -/
abbrev u_check_number_0_st : Stmt := topS 9
abbrev u_check_number_0_N : List Str := ["number"]
theorem u_check_number_0_sc : FnScope u_check_number_0_N ["number"] (defScope u_check_number_0_st) := ⟨rfl, rfl, rfl, by decide +kernel, rfl, by decide +kernel, by decide +kernel⟩
def u_check_number_0_fs : List Str := "tower" :: u_tower_fs
def u_check_number_0_cc : Cc := ⟨u_check_number_0_N, defScope u_check_number_0_st, cons, u_check_number_0_fs, [], blts⟩
def u_check_number_0_code : List S :=
   [.ite (.inv (.chn .le .le (.cst (.int 1)) (.var 0) (.cst (.int 100000000000000)))) [.nev] []]
theorem u_check_number_0_comp : compSs 100 u_check_number_0_cc (defBody u_check_number_0_st) = some u_check_number_0_code := by kernel_rfl
noncomputable def u_check_number_0_φs : List (List Ev.D → Option Ev.R) := u_tower_φ :: u_tower_φs
noncomputable def u_check_number_0_ms : MS := (sqK (sIte (kInv (kChn .le .le (fun _ τ => some (⟨.S, (.int 1)⟩, τ)) (kVar 0) (fun _ τ => some (⟨.S, (.int 100000000000000)⟩, τ)))) (sqK (fun _ _ => none) (fun ρ τ => some (.nx ρ τ))) (fun ρ τ => some (.nx ρ τ))) (fun ρ τ => some (.nx ρ τ)))
theorem u_check_number_0_ms_eq : u_check_number_0_ms = evSsK (Φof u_check_number_0_φs) (Ψof []) 1000 u_check_number_0_code := by kernel_rfl
noncomputable def u_check_number_0_φ : List Ev.D → Option Ev.R := runM 1 1 u_check_number_0_ms
/-! has_witness -/
abbrev u_has_witness_st : Stmt := topS 11
abbrev u_has_witness_N : List Str := ["number", "base", "odd", "twos", "now", "_"]
theorem u_has_witness_sc : FnScope u_has_witness_N ["number", "base"] (defScope u_has_witness_st) := ⟨rfl, rfl, rfl, by decide +kernel, rfl, by decide +kernel, by decide +kernel⟩
def u_has_witness_fs : List Str := "check_number_primes" :: u_check_number_0_fs
def u_has_witness_cc : Cc := ⟨u_has_witness_N, defScope u_has_witness_st, cons, u_has_witness_fs, [], blts⟩
def u_has_witness_code : List S :=
   [.set (.nm 2) (.bin .sub (.var 0) (.cst (.int 1))),
    .set (.nm 3) (.cst (.int 0)),
    .whl (.cmp .eq (.bin .mod (.var 2) (.cst (.int 2))) (.cst (.int 0))) [.aug 2 .fdiv (.cst (.int 2)),
    .aug 3 .add (.cst (.int 1))],
    .set (.nm 4) (.call 2 [(.var 1), (.var 2), (.var 0)]),
    .ite (.cmp .isin (.var 4) (.tup [(.cst (.int 1)), (.bin .sub (.var 0) (.cst (.int 1)))])) [.ret (.cst (.bool false))] [],
    .for_ (.nm 5) 1 [(.bin .sub (.var 3) (.cst (.int 1)))] [.set (.nm 4) (.bin .mod (.bin .mul (.var 4) (.var 4)) (.var 0)),
    .ite (.cmp .eq (.var 4) (.bin .sub (.var 0) (.cst (.int 1)))) [.ret (.cst (.bool false))] []],
    .ret (.cst (.bool true))]
theorem u_has_witness_comp : compSs 100 u_has_witness_cc (defBody u_has_witness_st) = some u_has_witness_code := by kernel_rfl
noncomputable def u_has_witness_φs : List (List Ev.D → Option Ev.R) := u_check_number_0_φ :: u_check_number_0_φs
noncomputable def u_has_witness_ms : MS := (sqK (sSet (.nm 2) (kBin .sub (kVar 0) (fun _ τ => some (⟨.S, (.int 1)⟩, τ)))) (sqK (sSet (.nm 3) (fun _ τ => some (⟨.S, (.int 0)⟩, τ))) (sqK (whK (kCmp .eq (kBin .mod (kVar 2) (fun _ τ => some (⟨.S, (.int 2)⟩, τ))) (fun _ τ => some (⟨.S, (.int 0)⟩, τ))) (sqK (sAug 2 .fdiv (fun _ τ => some (⟨.S, (.int 2)⟩, τ))) (sqK (sAug 3 .add (fun _ τ => some (⟨.S, (.int 1)⟩, τ))) (fun ρ τ => some (.nx ρ τ)))) 1000) (sqK (sSet (.nm 4) (kCall (Φof u_has_witness_φs 2) (kCons (kVar 1) (kCons (kVar 2) (kCons (kVar 0) kNil))))) (sqK (sIte (kCmp .isin (kVar 4) (kTup (kCons (fun _ τ => some (⟨.S, (.int 1)⟩, τ)) (kCons (kBin .sub (kVar 0) (fun _ τ => some (⟨.S, (.int 1)⟩, τ))) kNil)))) (sqK (sRet (fun _ τ => some (⟨.S, (.bool false)⟩, τ))) (fun ρ τ => some (.nx ρ τ))) (fun ρ τ => some (.nx ρ τ))) (sqK (sFor (.nm 5) 1 (kCons (kBin .sub (kVar 3) (fun _ τ => some (⟨.S, (.int 1)⟩, τ))) kNil) (sqK (sSet (.nm 4) (kBin .mod (kBin .mul (kVar 4) (kVar 4)) (kVar 0))) (sqK (sIte (kCmp .eq (kVar 4) (kBin .sub (kVar 0) (fun _ τ => some (⟨.S, (.int 1)⟩, τ)))) (sqK (sRet (fun _ τ => some (⟨.S, (.bool false)⟩, τ))) (fun ρ τ => some (.nx ρ τ))) (fun ρ τ => some (.nx ρ τ))) (fun ρ τ => some (.nx ρ τ))))) (sqK (sRet (fun _ τ => some (⟨.S, (.bool true)⟩, τ))) (fun ρ τ => some (.nx ρ τ)))))))))
theorem u_has_witness_ms_eq : u_has_witness_ms = evSsK (Φof u_has_witness_φs) (Ψof []) 1000 u_has_witness_code := by kernel_rfl
noncomputable def u_has_witness_φ : List Ev.D → Option Ev.R := runM 6 2 u_has_witness_ms
/-! prime -/
abbrev u_prime_st : Stmt := topS 12
abbrev u_prime_N : List Str := ["number", "base"]
theorem u_prime_sc : FnScope u_prime_N ["number"] (defScope u_prime_st) := ⟨rfl, rfl, rfl, by decide +kernel, rfl, by decide +kernel, by decide +kernel⟩
def u_prime_fs : List Str := "has_witness" :: u_has_witness_fs
def u_prime_cc : Cc := ⟨u_prime_N, defScope u_prime_st, cons, u_prime_fs, [], blts⟩
def u_prime_code : List S :=
   [.ite (.cmp .lt (.var 0) (.cst (.int 2))) [.ret (.cst (.bool false))] [],
    .for_ (.nm 1) 0 [(.cst (.tuple [.int 2, .int 3, .int 5, .int 7, .int 11, .int 13, .int 17, .int 19, .int 23, .int 29, .int 31, .int 37]))] [.ite (.cmp .eq (.bin .mod (.var 0) (.var 1)) (.cst (.int 0))) [.ret (.cmp .eq (.var 0) (.var 1))] []],
    .ret (.inv (.blt .any [(.comp (.call 0 [(.var 0), (.var 1)]) (.nm 1) 0 [(.cst (.tuple [.int 2, .int 3, .int 5, .int 7, .int 11, .int 13, .int 17, .int 19, .int 23, .int 29, .int 31, .int 37]))] [])]))]
theorem u_prime_comp : compSs 100 u_prime_cc (defBody u_prime_st) = some u_prime_code := by kernel_rfl
noncomputable def u_prime_φs : List (List Ev.D → Option Ev.R) := u_has_witness_φ :: u_has_witness_φs
noncomputable def u_prime_ms : MS := (sqK (sIte (kCmp .lt (kVar 0) (fun _ τ => some (⟨.S, (.int 2)⟩, τ))) (sqK (sRet (fun _ τ => some (⟨.S, (.bool false)⟩, τ))) (fun ρ τ => some (.nx ρ τ))) (fun ρ τ => some (.nx ρ τ))) (sqK (sFor (.nm 1) 0 (kCons (fun _ τ => some (⟨.S, (.tuple [(.int 2), (.int 3), (.int 5), (.int 7), (.int 11), (.int 13), (.int 17), (.int 19), (.int 23), (.int 29), (.int 31), (.int 37)])⟩, τ)) kNil) (sqK (sIte (kCmp .eq (kBin .mod (kVar 0) (kVar 1)) (fun _ τ => some (⟨.S, (.int 0)⟩, τ))) (sqK (sRet (kCmp .eq (kVar 0) (kVar 1))) (fun ρ τ => some (.nx ρ τ))) (fun ρ τ => some (.nx ρ τ))) (fun ρ τ => some (.nx ρ τ)))) (sqK (sRet (kInv (kBlt .any (kCons (kComp (kCall (Φof u_prime_φs 0) (kCons (kVar 0) (kCons (kVar 1) kNil))) (.nm 1) 0 (kCons (fun _ τ => some (⟨.S, (.tuple [(.int 2), (.int 3), (.int 5), (.int 7), (.int 11), (.int 13), (.int 17), (.int 19), (.int 23), (.int 29), (.int 31), (.int 37)])⟩, τ)) kNil) kNil) kNil)))) (fun ρ τ => some (.nx ρ τ)))))
theorem u_prime_ms_eq : u_prime_ms = evSsK (Φof u_prime_φs) (Ψof []) 1000 u_prime_code := by kernel_rfl
noncomputable def u_prime_φ : List Ev.D → Option Ev.R := runM 2 1 u_prime_ms
/-! small_divisor -/
abbrev u_small_divisor_st : Stmt := topS 13
abbrev u_small_divisor_N : List Str := ["number", "divisor"]
theorem u_small_divisor_sc : FnScope u_small_divisor_N ["number"] (defScope u_small_divisor_st) := ⟨rfl, rfl, rfl, by decide +kernel, rfl, by decide +kernel, by decide +kernel⟩
def u_small_divisor_fs : List Str := "prime" :: u_prime_fs
def u_small_divisor_cc : Cc := ⟨u_small_divisor_N, defScope u_small_divisor_st, cons, u_small_divisor_fs, [], blts⟩
def u_small_divisor_code : List S :=
   [.for_ (.nm 1) 2 [(.cst (.int 2)), (.cst (.int 1001))] [.ite (.cmp .gt (.bin .mul (.var 1) (.var 1)) (.var 0)) [.ret (.cst (.none))] [],
    .ite (.cmp .eq (.bin .mod (.var 0) (.var 1)) (.cst (.int 0))) [.retv 1] []],
    .ret (.cst (.none))]
theorem u_small_divisor_comp : compSs 100 u_small_divisor_cc (defBody u_small_divisor_st) = some u_small_divisor_code := by kernel_rfl
noncomputable def u_small_divisor_φs : List (List Ev.D → Option Ev.R) := u_prime_φ :: u_prime_φs
noncomputable def u_small_divisor_ms : MS := (sqK (sFor (.nm 1) 2 (kCons (fun _ τ => some (⟨.S, (.int 2)⟩, τ)) (kCons (fun _ τ => some (⟨.S, (.int 1001)⟩, τ)) kNil)) (sqK (sIte (kCmp .gt (kBin .mul (kVar 1) (kVar 1)) (kVar 0)) (sqK (sRet (fun _ τ => some (⟨.S, (.none)⟩, τ))) (fun ρ τ => some (.nx ρ τ))) (fun ρ τ => some (.nx ρ τ))) (sqK (sIte (kCmp .eq (kBin .mod (kVar 0) (kVar 1)) (fun _ τ => some (⟨.S, (.int 0)⟩, τ))) (sqK (sRetv 1) (fun ρ τ => some (.nx ρ τ))) (fun ρ τ => some (.nx ρ τ))) (fun ρ τ => some (.nx ρ τ))))) (sqK (sRet (fun _ τ => some (⟨.S, (.none)⟩, τ))) (fun ρ τ => some (.nx ρ τ))))
theorem u_small_divisor_ms_eq : u_small_divisor_ms = evSsK (Φof u_small_divisor_φs) (Ψof []) 1000 u_small_divisor_code := by kernel_rfl
noncomputable def u_small_divisor_φ : List Ev.D → Option Ev.R := runM 2 1 u_small_divisor_ms
/-! divisor_of -/
abbrev u_divisor_of_st : Stmt := topS 14
abbrev u_divisor_of_N : List Str := ["number", "found", "shift", "slow", "fast", "divisor"]
theorem u_divisor_of_sc : FnScope u_divisor_of_N ["number"] (defScope u_divisor_of_st) := ⟨rfl, rfl, rfl, by decide +kernel, rfl, by decide +kernel, by decide +kernel⟩
def u_divisor_of_fs : List Str := "small_divisor" :: u_small_divisor_fs
def u_divisor_of_cc : Cc := ⟨u_divisor_of_N, defScope u_divisor_of_st, cons, u_divisor_of_fs, [], blts⟩
def u_divisor_of_code : List S :=
   [.set (.nm 1) (.call 0 [(.var 0)]),
    .set (.nm 2) (.cst (.int 1)),
    .whl (.isN (.var 1)) [.set (.tu [3, 4]) (.tup [(.cst (.int 2)), (.cst (.int 2))]),
    .set (.nm 5) (.cst (.int 1)),
    .whl (.cmp .eq (.var 5) (.cst (.int 1))) [.set (.nm 3) (.bin .mod (.bin .add (.bin .mul (.var 3) (.var 3)) (.var 2)) (.var 0)),
    .set (.nm 4) (.bin .mod (.bin .add (.bin .mul (.var 4) (.var 4)) (.var 2)) (.var 0)),
    .set (.nm 4) (.bin .mod (.bin .add (.bin .mul (.var 4) (.var 4)) (.var 2)) (.var 0)),
    .set (.nm 5) (.idx (.call 6 [(.bin .sub (.var 3) (.var 4)), (.var 0)]) (.cst (.int 0)))],
    .set (.nm 1) (.ite (.cmp .lt (.var 5) (.var 0)) (.var 5) (.cst (.none))),
    .aug 2 .add (.cst (.int 1))],
    .retv 1]
theorem u_divisor_of_comp : compSs 100 u_divisor_of_cc (defBody u_divisor_of_st) = some u_divisor_of_code := by kernel_rfl
noncomputable def u_divisor_of_φs : List (List Ev.D → Option Ev.R) := u_small_divisor_φ :: u_small_divisor_φs
noncomputable def u_divisor_of_ms : MS := (sqK (sSet (.nm 1) (kCall (Φof u_divisor_of_φs 0) (kCons (kVar 0) kNil))) (sqK (sSet (.nm 2) (fun _ τ => some (⟨.S, (.int 1)⟩, τ))) (sqK (whK (kIsN (kVar 1)) (sqK (sSet (.tu [(3), (4)]) (kTup (kCons (fun _ τ => some (⟨.S, (.int 2)⟩, τ)) (kCons (fun _ τ => some (⟨.S, (.int 2)⟩, τ)) kNil)))) (sqK (sSet (.nm 5) (fun _ τ => some (⟨.S, (.int 1)⟩, τ))) (sqK (whK (kCmp .eq (kVar 5) (fun _ τ => some (⟨.S, (.int 1)⟩, τ))) (sqK (sSet (.nm 3) (kBin .mod (kBin .add (kBin .mul (kVar 3) (kVar 3)) (kVar 2)) (kVar 0))) (sqK (sSet (.nm 4) (kBin .mod (kBin .add (kBin .mul (kVar 4) (kVar 4)) (kVar 2)) (kVar 0))) (sqK (sSet (.nm 4) (kBin .mod (kBin .add (kBin .mul (kVar 4) (kVar 4)) (kVar 2)) (kVar 0))) (sqK (sSet (.nm 5) (kIdx (kCall (Φof u_divisor_of_φs 6) (kCons (kBin .sub (kVar 3) (kVar 4)) (kCons (kVar 0) kNil))) (fun _ τ => some (⟨.S, (.int 0)⟩, τ)))) (fun ρ τ => some (.nx ρ τ)))))) 1000) (sqK (sSet (.nm 1) (kIte (kCmp .lt (kVar 5) (kVar 0)) (kVar 5) (fun _ τ => some (⟨.S, (.none)⟩, τ)))) (sqK (sAug 2 .add (fun _ τ => some (⟨.S, (.int 1)⟩, τ))) (fun ρ τ => some (.nx ρ τ))))))) 1000) (sqK (sRetv 1) (fun ρ τ => some (.nx ρ τ))))))
theorem u_divisor_of_ms_eq : u_divisor_of_ms = evSsK (Φof u_divisor_of_φs) (Ψof []) 1000 u_divisor_of_code := by kernel_rfl
noncomputable def u_divisor_of_φ : List Ev.D → Option Ev.R := runM 6 1 u_divisor_of_ms
/-! prime_parts -/
abbrev u_prime_parts_st : Stmt := topS 15
abbrev u_prime_parts_N : List Str := ["number", "waiting", "found", "now", "divisor"]
theorem u_prime_parts_sc : FnScope u_prime_parts_N ["number"] (defScope u_prime_parts_st) := ⟨rfl, rfl, rfl, by decide +kernel, rfl, by decide +kernel, by decide +kernel⟩
def u_prime_parts_fs : List Str := "divisor_of" :: u_divisor_of_fs
def u_prime_parts_cc : Cc := ⟨u_prime_parts_N, defScope u_prime_parts_st, cons, u_prime_parts_fs, [], blts⟩
def u_prime_parts_code : List S :=
   [.set (.nm 1) (.ite (.cmp .gt (.var 0) (.cst (.int 1))) (.lst [(.var 0)]) (.lst [])),
    .set (.nm 2) (.lst []),
    .whl (.tru (.var 1)) [.popt (.nm 3) 1,
    .ite (.tru (.call 2 [(.var 3)])) [.app 2 (.var 3)] [.set (.nm 4) (.call 0 [(.var 3)]),
    .ext 1 (.lst [(.var 4), (.bin .fdiv (.var 3) (.var 4))])]],
    .ret (.blt .sorted [(.var 2)])]
theorem u_prime_parts_comp : compSs 100 u_prime_parts_cc (defBody u_prime_parts_st) = some u_prime_parts_code := by kernel_rfl
noncomputable def u_prime_parts_φs : List (List Ev.D → Option Ev.R) := u_divisor_of_φ :: u_divisor_of_φs
noncomputable def u_prime_parts_ms : MS := (sqK (sSet (.nm 1) (kIte (kCmp .gt (kVar 0) (fun _ τ => some (⟨.S, (.int 1)⟩, τ))) (kLst (kCons (kVar 0) kNil)) (kLst kNil))) (sqK (sSet (.nm 2) (kLst kNil)) (sqK (whK (kTru (kVar 1)) (sqK (sPopt (.nm 3) 1) (sqK (sIte (kTru (kCall (Φof u_prime_parts_φs 2) (kCons (kVar 3) kNil))) (sqK (sApp 2 (kVar 3)) (fun ρ τ => some (.nx ρ τ))) (sqK (sSet (.nm 4) (kCall (Φof u_prime_parts_φs 0) (kCons (kVar 3) kNil))) (sqK (sExt 1 (kLst (kCons (kVar 4) (kCons (kBin .fdiv (kVar 3) (kVar 4)) kNil)))) (fun ρ τ => some (.nx ρ τ))))) (fun ρ τ => some (.nx ρ τ)))) 1000) (sqK (sRet (kBlt .sorted (kCons (kVar 2) kNil))) (fun ρ τ => some (.nx ρ τ))))))
theorem u_prime_parts_ms_eq : u_prime_parts_ms = evSsK (Φof u_prime_parts_φs) (Ψof []) 1000 u_prime_parts_code := by kernel_rfl
noncomputable def u_prime_parts_φ : List Ev.D → Option Ev.R := runM 5 1 u_prime_parts_ms
/-! powers_in -/
abbrev u_powers_in_st : Stmt := topS 16
abbrev u_powers_in_N : List Str := ["number", "rows", "divisor"]
theorem u_powers_in_sc : FnScope u_powers_in_N ["number"] (defScope u_powers_in_st) := ⟨rfl, rfl, rfl, by decide +kernel, rfl, by decide +kernel, by decide +kernel⟩
def u_powers_in_fs : List Str := "prime_parts" :: u_prime_parts_fs
def u_powers_in_cc : Cc := ⟨u_powers_in_N, defScope u_powers_in_st, cons, u_powers_in_fs, [], blts⟩
def u_powers_in_code : List S :=
   [.set (.nm 1) (.lst []),
    .for_ (.nm 2) 0 [(.call 0 [(.var 0)])] [.ite (.con (.tru (.var 1)) (.cmp .eq (.idx (.idx (.var 1) (.neg (.cst (.int 1)))) (.cst (.int 0))) (.var 2))) [.sti 1 (.neg (.cst (.int 1))) (.tup [(.var 2), (.bin .add (.idx (.idx (.var 1) (.neg (.cst (.int 1)))) (.cst (.int 1))) (.cst (.int 1)))])] [.app 1 (.tup [(.var 2), (.cst (.int 1))])]],
    .ret (.blt .tuple [(.var 1)])]
theorem u_powers_in_comp : compSs 100 u_powers_in_cc (defBody u_powers_in_st) = some u_powers_in_code := by kernel_rfl
noncomputable def u_powers_in_φs : List (List Ev.D → Option Ev.R) := u_prime_parts_φ :: u_prime_parts_φs
noncomputable def u_powers_in_ms : MS := (sqK (sSet (.nm 1) (kLst kNil)) (sqK (sFor (.nm 2) 0 (kCons (kCall (Φof u_powers_in_φs 0) (kCons (kVar 0) kNil)) kNil) (sqK (sIte (kCon (kTru (kVar 1)) (kCmp .eq (kIdx (kIdx (kVar 1) (kNeg (fun _ τ => some (⟨.S, (.int 1)⟩, τ)))) (fun _ τ => some (⟨.S, (.int 0)⟩, τ))) (kVar 2))) (sqK (sSti 1 (kNeg (fun _ τ => some (⟨.S, (.int 1)⟩, τ))) (kTup (kCons (kVar 2) (kCons (kBin .add (kIdx (kIdx (kVar 1) (kNeg (fun _ τ => some (⟨.S, (.int 1)⟩, τ)))) (fun _ τ => some (⟨.S, (.int 1)⟩, τ))) (fun _ τ => some (⟨.S, (.int 1)⟩, τ))) kNil)))) (fun ρ τ => some (.nx ρ τ))) (sqK (sApp 1 (kTup (kCons (kVar 2) (kCons (fun _ τ => some (⟨.S, (.int 1)⟩, τ)) kNil)))) (fun ρ τ => some (.nx ρ τ)))) (fun ρ τ => some (.nx ρ τ)))) (sqK (sRet (kBlt .tuple (kCons (kVar 1) kNil))) (fun ρ τ => some (.nx ρ τ)))))
theorem u_powers_in_ms_eq : u_powers_in_ms = evSsK (Φof u_powers_in_φs) (Ψof []) 1000 u_powers_in_code := by kernel_rfl
noncomputable def u_powers_in_φ : List Ev.D → Option Ev.R := runM 3 1 u_powers_in_ms
/-! divisors -/
abbrev u_divisors_st : Stmt := topS 17
abbrev u_divisors_N : List Str := ["number", "found", "one", "times", "longer", "k", "row"]
theorem u_divisors_sc : FnScope u_divisors_N ["number"] (defScope u_divisors_st) := ⟨rfl, rfl, rfl, by decide +kernel, rfl, by decide +kernel, by decide +kernel⟩
def u_divisors_fs : List Str := "powers_in" :: u_powers_in_fs
def u_divisors_cc : Cc := ⟨u_divisors_N, defScope u_divisors_st, cons, u_divisors_fs, [], blts⟩
def u_divisors_code : List S :=
   [.exp (.call 6 [(.var 0)]),
    .set (.nm 1) (.lst [(.cst (.int 1))]),
    .for_ (.tu [2, 3]) 0 [(.call 0 [(.var 0)])] [.set (.nm 4) (.lst []),
    .for_ (.nm 5) 1 [(.bin .add (.var 3) (.cst (.int 1)))] [.ext 4 (.comp (.bin .mul (.var 6) (.call 7 [(.var 2), (.var 5)])) (.nm 6) 0 [(.var 1)] [])],
    .mov 1 4],
    .ret (.blt .tuple [(.blt .sorted [(.var 1)])])]
theorem u_divisors_comp : compSs 100 u_divisors_cc (defBody u_divisors_st) = some u_divisors_code := by kernel_rfl
noncomputable def u_divisors_φs : List (List Ev.D → Option Ev.R) := u_powers_in_φ :: u_powers_in_φs
noncomputable def u_divisors_ms : MS := (sqK (sExp (kCall (Φof u_divisors_φs 6) (kCons (kVar 0) kNil))) (sqK (sSet (.nm 1) (kLst (kCons (fun _ τ => some (⟨.S, (.int 1)⟩, τ)) kNil))) (sqK (sFor (.tu [(2), (3)]) 0 (kCons (kCall (Φof u_divisors_φs 0) (kCons (kVar 0) kNil)) kNil) (sqK (sSet (.nm 4) (kLst kNil)) (sqK (sFor (.nm 5) 1 (kCons (kBin .add (kVar 3) (fun _ τ => some (⟨.S, (.int 1)⟩, τ))) kNil) (sqK (sExt 4 (kComp (kBin .mul (kVar 6) (kCall (Φof u_divisors_φs 7) (kCons (kVar 2) (kCons (kVar 5) kNil)))) (.nm 6) 0 (kCons (kVar 1) kNil) kNil)) (fun ρ τ => some (.nx ρ τ)))) (sqK (sMov 1 4) (fun ρ τ => some (.nx ρ τ)))))) (sqK (sRet (kBlt .tuple (kCons (kBlt .sorted (kCons (kVar 1) kNil)) kNil))) (fun ρ τ => some (.nx ρ τ))))))
theorem u_divisors_ms_eq : u_divisors_ms = evSsK (Φof u_divisors_φs) (Ψof []) 1000 u_divisors_code := by kernel_rfl
noncomputable def u_divisors_φ : List Ev.D → Option Ev.R := runM 7 1 u_divisors_ms
/-! units -/
abbrev u_units_st : Stmt := topS 18
abbrev u_units_N : List Str := ["number", "found", "one", "_"]
theorem u_units_sc : FnScope u_units_N ["number"] (defScope u_units_st) := ⟨rfl, rfl, rfl, by decide +kernel, rfl, by decide +kernel, by decide +kernel⟩
def u_units_fs : List Str := "divisors" :: u_divisors_fs
def u_units_cc : Cc := ⟨u_units_N, defScope u_units_st, cons, u_units_fs, [], blts⟩
def u_units_code : List S :=
   [.exp (.call 7 [(.var 0)]),
    .mov 1 0,
    .for_ (.tu [2, 3]) 0 [(.call 1 [(.var 0)])] [.set (.nm 1) (.bin .mul (.bin .fdiv (.var 1) (.var 2)) (.bin .sub (.var 2) (.cst (.int 1))))],
    .retv 1]
theorem u_units_comp : compSs 100 u_units_cc (defBody u_units_st) = some u_units_code := by kernel_rfl
noncomputable def u_units_φs : List (List Ev.D → Option Ev.R) := u_divisors_φ :: u_divisors_φs
noncomputable def u_units_ms : MS := (sqK (sExp (kCall (Φof u_units_φs 7) (kCons (kVar 0) kNil))) (sqK (sMov 1 0) (sqK (sFor (.tu [(2), (3)]) 0 (kCons (kCall (Φof u_units_φs 1) (kCons (kVar 0) kNil)) kNil) (sqK (sSet (.nm 1) (kBin .mul (kBin .fdiv (kVar 1) (kVar 2)) (kBin .sub (kVar 2) (fun _ τ => some (⟨.S, (.int 1)⟩, τ))))) (fun ρ τ => some (.nx ρ τ)))) (sqK (sRetv 1) (fun ρ τ => some (.nx ρ τ))))))
theorem u_units_ms_eq : u_units_ms = evSsK (Φof u_units_φs) (Ψof []) 1000 u_units_code := by kernel_rfl
noncomputable def u_units_φ : List Ev.D → Option Ev.R := runM 4 1 u_units_ms
/-! check_number -/
abbrev u_check_number_1_st : Stmt := topS 21
abbrev u_check_number_1_N : List Str := ["number"]
theorem u_check_number_1_sc : FnScope u_check_number_1_N ["number"] (defScope u_check_number_1_st) := ⟨rfl, rfl, rfl, by decide +kernel, rfl, by decide +kernel, by decide +kernel⟩
def u_check_number_1_fs : List Str := "units" :: u_units_fs
def u_check_number_1_cc : Cc := ⟨u_check_number_1_N, defScope u_check_number_1_st, cons, u_check_number_1_fs, [], blts⟩
def u_check_number_1_code : List S :=
   [.ite (.inv (.chn .le .le (.cst (.int 0)) (.var 0) (.cst (.int 200)))) [.nev] []]
theorem u_check_number_1_comp : compSs 100 u_check_number_1_cc (defBody u_check_number_1_st) = some u_check_number_1_code := by kernel_rfl
noncomputable def u_check_number_1_φs : List (List Ev.D → Option Ev.R) := u_units_φ :: u_units_φs
noncomputable def u_check_number_1_ms : MS := (sqK (sIte (kInv (kChn .le .le (fun _ τ => some (⟨.S, (.int 0)⟩, τ)) (kVar 0) (fun _ τ => some (⟨.S, (.int 200)⟩, τ)))) (sqK (fun _ _ => none) (fun ρ τ => some (.nx ρ τ))) (fun ρ τ => some (.nx ρ τ))) (fun ρ τ => some (.nx ρ τ)))
theorem u_check_number_1_ms_eq : u_check_number_1_ms = evSsK (Φof u_check_number_1_φs) (Ψof []) 1000 u_check_number_1_code := by kernel_rfl
noncomputable def u_check_number_1_φ : List Ev.D → Option Ev.R := runM 1 1 u_check_number_1_ms
/-! factorial -/
abbrev u_factorial_st : Stmt := topS 23
abbrev u_factorial_N : List Str := ["number", "found", "factor"]
theorem u_factorial_sc : FnScope u_factorial_N ["number"] (defScope u_factorial_st) := ⟨rfl, rfl, rfl, by decide +kernel, rfl, by decide +kernel, by decide +kernel⟩
def u_factorial_fs : List Str := "check_number_counting" :: "check_number" :: u_check_number_1_fs
def u_factorial_cc : Cc := ⟨u_factorial_N, defScope u_factorial_st, cons, u_factorial_fs, [], blts⟩
def u_factorial_code : List S :=
   [.exp (.call 0 [(.var 0)]),
    .set (.nm 1) (.cst (.int 1)),
    .for_ (.nm 2) 2 [(.cst (.int 2)), (.bin .add (.var 0) (.cst (.int 1)))] [.aug 1 .mul (.var 2)],
    .retv 1]
theorem u_factorial_comp : compSs 100 u_factorial_cc (defBody u_factorial_st) = some u_factorial_code := by kernel_rfl
noncomputable def u_factorial_φs : List (List Ev.D → Option Ev.R) := u_check_number_1_φ :: u_check_number_1_φ :: u_check_number_1_φs
noncomputable def u_factorial_ms : MS := (sqK (sExp (kCall (Φof u_factorial_φs 0) (kCons (kVar 0) kNil))) (sqK (sSet (.nm 1) (fun _ τ => some (⟨.S, (.int 1)⟩, τ))) (sqK (sFor (.nm 2) 2 (kCons (fun _ τ => some (⟨.S, (.int 2)⟩, τ)) (kCons (kBin .add (kVar 0) (fun _ τ => some (⟨.S, (.int 1)⟩, τ))) kNil)) (sqK (sAug 1 .mul (kVar 2)) (fun ρ τ => some (.nx ρ τ)))) (sqK (sRetv 1) (fun ρ τ => some (.nx ρ τ))))))
theorem u_factorial_ms_eq : u_factorial_ms = evSsK (Φof u_factorial_φs) (Ψof []) 1000 u_factorial_code := by kernel_rfl
noncomputable def u_factorial_φ : List Ev.D → Option Ev.R := runM 3 1 u_factorial_ms
/-! choose -/
abbrev u_choose_st : Stmt := topS 24
abbrev u_choose_N : List Str := ["many", "some", "found", "k"]
theorem u_choose_sc : FnScope u_choose_N ["many", "some"] (defScope u_choose_st) := ⟨rfl, rfl, rfl, by decide +kernel, rfl, by decide +kernel, by decide +kernel⟩
def u_choose_fs : List Str := "factorial" :: u_factorial_fs
def u_choose_cc : Cc := ⟨u_choose_N, defScope u_choose_st, cons, u_choose_fs, [], blts⟩
def u_choose_code : List S :=
   [.exp (.call 1 [(.var 0)]),
    .ite (.inv (.chn .le .le (.cst (.int 0)) (.var 1) (.var 0))) [.ret (.cst (.int 0))] [],
    .set (.nm 2) (.cst (.int 1)),
    .for_ (.nm 3) 1 [(.var 1)] [.set (.nm 2) (.bin .fdiv (.bin .mul (.var 2) (.bin .sub (.var 0) (.var 3))) (.bin .add (.var 3) (.cst (.int 1))))],
    .retv 2]
theorem u_choose_comp : compSs 100 u_choose_cc (defBody u_choose_st) = some u_choose_code := by kernel_rfl
noncomputable def u_choose_φs : List (List Ev.D → Option Ev.R) := u_factorial_φ :: u_factorial_φs
noncomputable def u_choose_ms : MS := (sqK (sExp (kCall (Φof u_choose_φs 1) (kCons (kVar 0) kNil))) (sqK (sIte (kInv (kChn .le .le (fun _ τ => some (⟨.S, (.int 0)⟩, τ)) (kVar 1) (kVar 0))) (sqK (sRet (fun _ τ => some (⟨.S, (.int 0)⟩, τ))) (fun ρ τ => some (.nx ρ τ))) (fun ρ τ => some (.nx ρ τ))) (sqK (sSet (.nm 2) (fun _ τ => some (⟨.S, (.int 1)⟩, τ))) (sqK (sFor (.nm 3) 1 (kCons (kVar 1) kNil) (sqK (sSet (.nm 2) (kBin .fdiv (kBin .mul (kVar 2) (kBin .sub (kVar 0) (kVar 3))) (kBin .add (kVar 3) (fun _ τ => some (⟨.S, (.int 1)⟩, τ))))) (fun ρ τ => some (.nx ρ τ)))) (sqK (sRetv 2) (fun ρ τ => some (.nx ρ τ)))))))
theorem u_choose_ms_eq : u_choose_ms = evSsK (Φof u_choose_φs) (Ψof []) 1000 u_choose_code := by kernel_rfl
noncomputable def u_choose_φ : List Ev.D → Option Ev.R := runM 4 2 u_choose_ms
/-! partitions -/
abbrev u_partitions_st : Stmt := topS 25
abbrev u_partitions_N : List Str := ["number", "found", "waiting", "row", "left", "most", "part"]
theorem u_partitions_sc : FnScope u_partitions_N ["number"] (defScope u_partitions_st) := ⟨rfl, rfl, rfl, by decide +kernel, rfl, by decide +kernel, by decide +kernel⟩
def u_partitions_fs : List Str := "choose" :: u_choose_fs
def u_partitions_cc : Cc := ⟨u_partitions_N, defScope u_partitions_st, cons, u_partitions_fs, [], blts⟩
def u_partitions_code : List S :=
   [.ite (.inv (.chn .le .le (.cst (.int 0)) (.var 0) (.cst (.int 30)))) [.nev] [],
    .set (.nm 1) (.lst []),
    .set (.nm 2) (.lst [(.tup [(.tup []), (.var 0)])]),
    .whl (.tru (.var 2)) [.popt (.tu [3, 4]) 2,
    .ite (.cmp .eq (.var 4) (.cst (.int 0))) [.app 1 (.var 3)] [],
    .set (.nm 5) (.ite (.tru (.var 3)) (.blt .min [(.var 4), (.idx (.var 3) (.neg (.cst (.int 1))))]) (.var 4)),
    .ext 2 (.comp (.tup [(.bin .add (.var 3) (.tup [(.var 6)])), (.bin .sub (.var 4) (.var 6))]) (.nm 6) 2 [(.cst (.int 1)), (.bin .add (.var 5) (.cst (.int 1)))] [])],
    .ret (.blt .tuple [(.var 1)])]
theorem u_partitions_comp : compSs 100 u_partitions_cc (defBody u_partitions_st) = some u_partitions_code := by kernel_rfl
noncomputable def u_partitions_φs : List (List Ev.D → Option Ev.R) := u_choose_φ :: u_choose_φs
noncomputable def u_partitions_ms : MS := (sqK (sIte (kInv (kChn .le .le (fun _ τ => some (⟨.S, (.int 0)⟩, τ)) (kVar 0) (fun _ τ => some (⟨.S, (.int 30)⟩, τ)))) (sqK (fun _ _ => none) (fun ρ τ => some (.nx ρ τ))) (fun ρ τ => some (.nx ρ τ))) (sqK (sSet (.nm 1) (kLst kNil)) (sqK (sSet (.nm 2) (kLst (kCons (kTup (kCons (kTup kNil) (kCons (kVar 0) kNil))) kNil))) (sqK (whK (kTru (kVar 2)) (sqK (sPopt (.tu [(3), (4)]) 2) (sqK (sIte (kCmp .eq (kVar 4) (fun _ τ => some (⟨.S, (.int 0)⟩, τ))) (sqK (sApp 1 (kVar 3)) (fun ρ τ => some (.nx ρ τ))) (fun ρ τ => some (.nx ρ τ))) (sqK (sSet (.nm 5) (kIte (kTru (kVar 3)) (kBlt .min (kCons (kVar 4) (kCons (kIdx (kVar 3) (kNeg (fun _ τ => some (⟨.S, (.int 1)⟩, τ)))) kNil))) (kVar 4))) (sqK (sExt 2 (kComp (kTup (kCons (kBin .add (kVar 3) (kTup (kCons (kVar 6) kNil))) (kCons (kBin .sub (kVar 4) (kVar 6)) kNil))) (.nm 6) 2 (kCons (fun _ τ => some (⟨.S, (.int 1)⟩, τ)) (kCons (kBin .add (kVar 5) (fun _ τ => some (⟨.S, (.int 1)⟩, τ))) kNil)) kNil)) (fun ρ τ => some (.nx ρ τ)))))) 1000) (sqK (sRet (kBlt .tuple (kCons (kVar 1) kNil))) (fun ρ τ => some (.nx ρ τ)))))))
theorem u_partitions_ms_eq : u_partitions_ms = evSsK (Φof u_partitions_φs) (Ψof []) 1000 u_partitions_code := by kernel_rfl
noncomputable def u_partitions_φ : List Ev.D → Option Ev.R := runM 7 1 u_partitions_ms
/-! count_partitions -/
abbrev u_count_partitions_st : Stmt := topS 26
abbrev u_count_partitions_N : List Str := ["number", "found", "now", "whole", "k", "sign"]
theorem u_count_partitions_sc : FnScope u_count_partitions_N ["number"] (defScope u_count_partitions_st) := ⟨rfl, rfl, rfl, by decide +kernel, rfl, by decide +kernel, by decide +kernel⟩
def u_count_partitions_fs : List Str := "partitions" :: u_partitions_fs
def u_count_partitions_cc : Cc := ⟨u_count_partitions_N, defScope u_count_partitions_st, cons, u_count_partitions_fs, [], blts⟩
def u_count_partitions_code : List S :=
   [.exp (.call 3 [(.var 0)]),
    .set (.nm 1) (.lst [(.cst (.int 1))]),
    .for_ (.nm 2) 2 [(.cst (.int 1)), (.bin .add (.var 0) (.cst (.int 1)))] [.set (.tu [3, 4]) (.tup [(.cst (.int 0)), (.cst (.int 1))]),
    .whl (.cmp .le (.bin .fdiv (.bin .mul (.var 4) (.bin .sub (.bin .mul (.cst (.int 3)) (.var 4)) (.cst (.int 1)))) (.cst (.int 2))) (.var 2)) [.set (.nm 5) (.ite (.cmp .eq (.bin .mod (.var 4) (.cst (.int 2))) (.cst (.int 1))) (.cst (.int 1)) (.neg (.cst (.int 1)))),
    .aug 3 .add (.bin .mul (.var 5) (.idx (.var 1) (.bin .sub (.var 2) (.bin .fdiv (.bin .mul (.var 4) (.bin .sub (.bin .mul (.cst (.int 3)) (.var 4)) (.cst (.int 1)))) (.cst (.int 2)))))),
    .ite (.cmp .le (.bin .fdiv (.bin .mul (.var 4) (.bin .add (.bin .mul (.cst (.int 3)) (.var 4)) (.cst (.int 1)))) (.cst (.int 2))) (.var 2)) [.aug 3 .add (.bin .mul (.var 5) (.idx (.var 1) (.bin .sub (.var 2) (.bin .fdiv (.bin .mul (.var 4) (.bin .add (.bin .mul (.cst (.int 3)) (.var 4)) (.cst (.int 1)))) (.cst (.int 2))))))] [],
    .aug 4 .add (.cst (.int 1))],
    .app 1 (.var 3)],
    .ret (.idx (.var 1) (.var 0))]
theorem u_count_partitions_comp : compSs 100 u_count_partitions_cc (defBody u_count_partitions_st) = some u_count_partitions_code := by kernel_rfl
noncomputable def u_count_partitions_φs : List (List Ev.D → Option Ev.R) := u_partitions_φ :: u_partitions_φs
noncomputable def u_count_partitions_ms : MS := (sqK (sExp (kCall (Φof u_count_partitions_φs 3) (kCons (kVar 0) kNil))) (sqK (sSet (.nm 1) (kLst (kCons (fun _ τ => some (⟨.S, (.int 1)⟩, τ)) kNil))) (sqK (sFor (.nm 2) 2 (kCons (fun _ τ => some (⟨.S, (.int 1)⟩, τ)) (kCons (kBin .add (kVar 0) (fun _ τ => some (⟨.S, (.int 1)⟩, τ))) kNil)) (sqK (sSet (.tu [(3), (4)]) (kTup (kCons (fun _ τ => some (⟨.S, (.int 0)⟩, τ)) (kCons (fun _ τ => some (⟨.S, (.int 1)⟩, τ)) kNil)))) (sqK (whK (kCmp .le (kBin .fdiv (kBin .mul (kVar 4) (kBin .sub (kBin .mul (fun _ τ => some (⟨.S, (.int 3)⟩, τ)) (kVar 4)) (fun _ τ => some (⟨.S, (.int 1)⟩, τ)))) (fun _ τ => some (⟨.S, (.int 2)⟩, τ))) (kVar 2)) (sqK (sSet (.nm 5) (kIte (kCmp .eq (kBin .mod (kVar 4) (fun _ τ => some (⟨.S, (.int 2)⟩, τ))) (fun _ τ => some (⟨.S, (.int 1)⟩, τ))) (fun _ τ => some (⟨.S, (.int 1)⟩, τ)) (kNeg (fun _ τ => some (⟨.S, (.int 1)⟩, τ))))) (sqK (sAug 3 .add (kBin .mul (kVar 5) (kIdx (kVar 1) (kBin .sub (kVar 2) (kBin .fdiv (kBin .mul (kVar 4) (kBin .sub (kBin .mul (fun _ τ => some (⟨.S, (.int 3)⟩, τ)) (kVar 4)) (fun _ τ => some (⟨.S, (.int 1)⟩, τ)))) (fun _ τ => some (⟨.S, (.int 2)⟩, τ))))))) (sqK (sIte (kCmp .le (kBin .fdiv (kBin .mul (kVar 4) (kBin .add (kBin .mul (fun _ τ => some (⟨.S, (.int 3)⟩, τ)) (kVar 4)) (fun _ τ => some (⟨.S, (.int 1)⟩, τ)))) (fun _ τ => some (⟨.S, (.int 2)⟩, τ))) (kVar 2)) (sqK (sAug 3 .add (kBin .mul (kVar 5) (kIdx (kVar 1) (kBin .sub (kVar 2) (kBin .fdiv (kBin .mul (kVar 4) (kBin .add (kBin .mul (fun _ τ => some (⟨.S, (.int 3)⟩, τ)) (kVar 4)) (fun _ τ => some (⟨.S, (.int 1)⟩, τ)))) (fun _ τ => some (⟨.S, (.int 2)⟩, τ))))))) (fun ρ τ => some (.nx ρ τ))) (fun ρ τ => some (.nx ρ τ))) (sqK (sAug 4 .add (fun _ τ => some (⟨.S, (.int 1)⟩, τ))) (fun ρ τ => some (.nx ρ τ)))))) 1000) (sqK (sApp 1 (kVar 3)) (fun ρ τ => some (.nx ρ τ)))))) (sqK (sRet (kIdx (kVar 1) (kVar 0))) (fun ρ τ => some (.nx ρ τ))))))
theorem u_count_partitions_ms_eq : u_count_partitions_ms = evSsK (Φof u_count_partitions_φs) (Ψof []) 1000 u_count_partitions_code := by kernel_rfl
noncomputable def u_count_partitions_φ : List Ev.D → Option Ev.R := runM 6 1 u_count_partitions_ms
/-! groupings -/
abbrev u_groupings_st : Stmt := topS 27
abbrev u_groupings_N : List Str := ["many", "some", "row", "_", "k"]
theorem u_groupings_sc : FnScope u_groupings_N ["many", "some"] (defScope u_groupings_st) := ⟨rfl, rfl, rfl, by decide +kernel, rfl, by decide +kernel, by decide +kernel⟩
def u_groupings_fs : List Str := "count_partitions" :: u_count_partitions_fs
def u_groupings_cc : Cc := ⟨u_groupings_N, defScope u_groupings_st, cons, u_groupings_fs, [], blts⟩
def u_groupings_code : List S :=
   [.exp (.call 4 [(.var 0)]),
    .set (.nm 2) (.lst [(.cst (.int 1))]),
    .for_ (.nm 3) 1 [(.var 0)] [.set (.nm 2) (.comp (.bin .add (.ite (.cmp .gt (.var 4) (.cst (.int 0))) (.idx (.var 2) (.bin .sub (.var 4) (.cst (.int 1)))) (.cst (.int 0))) (.ite (.cmp .lt (.var 4) (.blt .len [(.var 2)])) (.bin .mul (.idx (.var 2) (.var 4)) (.var 4)) (.cst (.int 0)))) (.nm 4) 1 [(.bin .add (.blt .len [(.var 2)]) (.cst (.int 1)))] [])],
    .ret (.ite (.chn .le .le (.cst (.int 0)) (.var 1) (.var 0)) (.idx (.var 2) (.var 1)) (.cst (.int 0)))]
theorem u_groupings_comp : compSs 100 u_groupings_cc (defBody u_groupings_st) = some u_groupings_code := by kernel_rfl
noncomputable def u_groupings_φs : List (List Ev.D → Option Ev.R) := u_count_partitions_φ :: u_count_partitions_φs
noncomputable def u_groupings_ms : MS := (sqK (sExp (kCall (Φof u_groupings_φs 4) (kCons (kVar 0) kNil))) (sqK (sSet (.nm 2) (kLst (kCons (fun _ τ => some (⟨.S, (.int 1)⟩, τ)) kNil))) (sqK (sFor (.nm 3) 1 (kCons (kVar 0) kNil) (sqK (sSet (.nm 2) (kComp (kBin .add (kIte (kCmp .gt (kVar 4) (fun _ τ => some (⟨.S, (.int 0)⟩, τ))) (kIdx (kVar 2) (kBin .sub (kVar 4) (fun _ τ => some (⟨.S, (.int 1)⟩, τ)))) (fun _ τ => some (⟨.S, (.int 0)⟩, τ))) (kIte (kCmp .lt (kVar 4) (kBlt .len (kCons (kVar 2) kNil))) (kBin .mul (kIdx (kVar 2) (kVar 4)) (kVar 4)) (fun _ τ => some (⟨.S, (.int 0)⟩, τ)))) (.nm 4) 1 (kCons (kBin .add (kBlt .len (kCons (kVar 2) kNil)) (fun _ τ => some (⟨.S, (.int 1)⟩, τ))) kNil) kNil)) (fun ρ τ => some (.nx ρ τ)))) (sqK (sRet (kIte (kChn .le .le (fun _ τ => some (⟨.S, (.int 0)⟩, τ)) (kVar 1) (kVar 0)) (kIdx (kVar 2) (kVar 1)) (fun _ τ => some (⟨.S, (.int 0)⟩, τ)))) (fun ρ τ => some (.nx ρ τ))))))
theorem u_groupings_ms_eq : u_groupings_ms = evSsK (Φof u_groupings_φs) (Ψof []) 1000 u_groupings_code := by kernel_rfl
noncomputable def u_groupings_φ : List Ev.D → Option Ev.R := runM 5 2 u_groupings_ms
/-! rings -/
abbrev u_rings_st : Stmt := topS 28
abbrev u_rings_N : List Str := ["many", "some", "row", "now", "k"]
theorem u_rings_sc : FnScope u_rings_N ["many", "some"] (defScope u_rings_st) := ⟨rfl, rfl, rfl, by decide +kernel, rfl, by decide +kernel, by decide +kernel⟩
def u_rings_fs : List Str := "groupings" :: u_groupings_fs
def u_rings_cc : Cc := ⟨u_rings_N, defScope u_rings_st, cons, u_rings_fs, [], blts⟩
def u_rings_code : List S :=
   [.exp (.call 5 [(.var 0)]),
    .set (.nm 2) (.lst [(.cst (.int 1))]),
    .for_ (.nm 3) 1 [(.var 0)] [.set (.nm 2) (.comp (.bin .add (.ite (.cmp .gt (.var 4) (.cst (.int 0))) (.idx (.var 2) (.bin .sub (.var 4) (.cst (.int 1)))) (.cst (.int 0))) (.ite (.cmp .lt (.var 4) (.blt .len [(.var 2)])) (.bin .mul (.idx (.var 2) (.var 4)) (.var 3)) (.cst (.int 0)))) (.nm 4) 1 [(.bin .add (.blt .len [(.var 2)]) (.cst (.int 1)))] [])],
    .ret (.ite (.chn .le .le (.cst (.int 0)) (.var 1) (.var 0)) (.idx (.var 2) (.var 1)) (.cst (.int 0)))]
theorem u_rings_comp : compSs 100 u_rings_cc (defBody u_rings_st) = some u_rings_code := by kernel_rfl
noncomputable def u_rings_φs : List (List Ev.D → Option Ev.R) := u_groupings_φ :: u_groupings_φs
noncomputable def u_rings_ms : MS := (sqK (sExp (kCall (Φof u_rings_φs 5) (kCons (kVar 0) kNil))) (sqK (sSet (.nm 2) (kLst (kCons (fun _ τ => some (⟨.S, (.int 1)⟩, τ)) kNil))) (sqK (sFor (.nm 3) 1 (kCons (kVar 0) kNil) (sqK (sSet (.nm 2) (kComp (kBin .add (kIte (kCmp .gt (kVar 4) (fun _ τ => some (⟨.S, (.int 0)⟩, τ))) (kIdx (kVar 2) (kBin .sub (kVar 4) (fun _ τ => some (⟨.S, (.int 1)⟩, τ)))) (fun _ τ => some (⟨.S, (.int 0)⟩, τ))) (kIte (kCmp .lt (kVar 4) (kBlt .len (kCons (kVar 2) kNil))) (kBin .mul (kIdx (kVar 2) (kVar 4)) (kVar 3)) (fun _ τ => some (⟨.S, (.int 0)⟩, τ)))) (.nm 4) 1 (kCons (kBin .add (kBlt .len (kCons (kVar 2) kNil)) (fun _ τ => some (⟨.S, (.int 1)⟩, τ))) kNil) kNil)) (fun ρ τ => some (.nx ρ τ)))) (sqK (sRet (kIte (kChn .le .le (fun _ τ => some (⟨.S, (.int 0)⟩, τ)) (kVar 1) (kVar 0)) (kIdx (kVar 2) (kVar 1)) (fun _ τ => some (⟨.S, (.int 0)⟩, τ)))) (fun ρ τ => some (.nx ρ τ))))))
theorem u_rings_ms_eq : u_rings_ms = evSsK (Φof u_rings_φs) (Ψof []) 1000 u_rings_code := by kernel_rfl
noncomputable def u_rings_φ : List Ev.D → Option Ev.R := runM 5 2 u_rings_ms
/-! moved -/
abbrev u_moved_st : Stmt := topS 29
abbrev u_moved_N : List Str := ["number", "found", "k"]
theorem u_moved_sc : FnScope u_moved_N ["number"] (defScope u_moved_st) := ⟨rfl, rfl, rfl, by decide +kernel, rfl, by decide +kernel, by decide +kernel⟩
def u_moved_fs : List Str := "rings" :: u_rings_fs
def u_moved_cc : Cc := ⟨u_moved_N, defScope u_moved_st, cons, u_moved_fs, [], blts⟩
def u_moved_code : List S :=
   [.exp (.call 6 [(.var 0)]),
    .set (.nm 1) (.cst (.int 1)),
    .for_ (.nm 2) 2 [(.cst (.int 1)), (.bin .add (.var 0) (.cst (.int 1)))] [.set (.nm 1) (.bin .add (.bin .mul (.var 1) (.var 2)) (.ite (.cmp .eq (.bin .mod (.var 2) (.cst (.int 2))) (.cst (.int 0))) (.cst (.int 1)) (.neg (.cst (.int 1)))))],
    .retv 1]
theorem u_moved_comp : compSs 100 u_moved_cc (defBody u_moved_st) = some u_moved_code := by kernel_rfl
noncomputable def u_moved_φs : List (List Ev.D → Option Ev.R) := u_rings_φ :: u_rings_φs
noncomputable def u_moved_ms : MS := (sqK (sExp (kCall (Φof u_moved_φs 6) (kCons (kVar 0) kNil))) (sqK (sSet (.nm 1) (fun _ τ => some (⟨.S, (.int 1)⟩, τ))) (sqK (sFor (.nm 2) 2 (kCons (fun _ τ => some (⟨.S, (.int 1)⟩, τ)) (kCons (kBin .add (kVar 0) (fun _ τ => some (⟨.S, (.int 1)⟩, τ))) kNil)) (sqK (sSet (.nm 1) (kBin .add (kBin .mul (kVar 1) (kVar 2)) (kIte (kCmp .eq (kBin .mod (kVar 2) (fun _ τ => some (⟨.S, (.int 2)⟩, τ))) (fun _ τ => some (⟨.S, (.int 0)⟩, τ))) (fun _ τ => some (⟨.S, (.int 1)⟩, τ)) (kNeg (fun _ τ => some (⟨.S, (.int 1)⟩, τ)))))) (fun ρ τ => some (.nx ρ τ)))) (sqK (sRetv 1) (fun ρ τ => some (.nx ρ τ))))))
theorem u_moved_ms_eq : u_moved_ms = evSsK (Φof u_moved_φs) (Ψof []) 1000 u_moved_code := by kernel_rfl
noncomputable def u_moved_φ : List Ev.D → Option Ev.R := runM 3 1 u_moved_ms
/-! brackets -/
abbrev u_brackets_st : Stmt := topS 30
abbrev u_brackets_N : List Str := ["number"]
theorem u_brackets_sc : FnScope u_brackets_N ["number"] (defScope u_brackets_st) := ⟨rfl, rfl, rfl, by decide +kernel, rfl, by decide +kernel, by decide +kernel⟩
def u_brackets_fs : List Str := "moved" :: u_moved_fs
def u_brackets_cc : Cc := ⟨u_brackets_N, defScope u_brackets_st, cons, u_brackets_fs, [], blts⟩
def u_brackets_code : List S :=
   [.exp (.call 7 [(.ite (.cmp .gt (.var 0) (.cst (.int 0))) (.bin .mul (.cst (.int 2)) (.var 0)) (.var 0))]),
    .ret (.bin .fdiv (.call 5 [(.bin .mul (.cst (.int 2)) (.var 0)), (.var 0)]) (.bin .add (.var 0) (.cst (.int 1))))]
theorem u_brackets_comp : compSs 100 u_brackets_cc (defBody u_brackets_st) = some u_brackets_code := by kernel_rfl
noncomputable def u_brackets_φs : List (List Ev.D → Option Ev.R) := u_moved_φ :: u_moved_φs
noncomputable def u_brackets_ms : MS := (sqK (sExp (kCall (Φof u_brackets_φs 7) (kCons (kIte (kCmp .gt (kVar 0) (fun _ τ => some (⟨.S, (.int 0)⟩, τ))) (kBin .mul (fun _ τ => some (⟨.S, (.int 2)⟩, τ)) (kVar 0)) (kVar 0)) kNil))) (sqK (sRet (kBin .fdiv (kCall (Φof u_brackets_φs 5) (kCons (kBin .mul (fun _ τ => some (⟨.S, (.int 2)⟩, τ)) (kVar 0)) (kCons (kVar 0) kNil))) (kBin .add (kVar 0) (fun _ τ => some (⟨.S, (.int 1)⟩, τ))))) (fun ρ τ => some (.nx ρ τ))))
theorem u_brackets_ms_eq : u_brackets_ms = evSsK (Φof u_brackets_φs) (Ψof []) 1000 u_brackets_code := by kernel_rfl
noncomputable def u_brackets_φ : List Ev.D → Option Ev.R := runM 1 1 u_brackets_ms
/-! necklaces -/
abbrev u_necklaces_st : Stmt := topS 31
abbrev u_necklaces_N : List Str := ["many", "colours", "whole", "turn", "one", "other"]
theorem u_necklaces_sc : FnScope u_necklaces_N ["many", "colours"] (defScope u_necklaces_st) := ⟨rfl, rfl, rfl, by decide +kernel, rfl, by decide +kernel, by decide +kernel⟩
def u_necklaces_fs : List Str := "brackets" :: u_brackets_fs
def u_necklaces_cc : Cc := ⟨u_necklaces_N, defScope u_necklaces_st, cons, u_necklaces_fs, [], blts⟩
def u_necklaces_code : List S :=
   [.ite (.dis (.inv (.chn .le .le (.cst (.int 1)) (.var 0) (.cst (.int 200)))) (.cmp .lt (.var 1) (.cst (.int 0)))) [.nev] [],
    .set (.nm 2) (.cst (.int 0)),
    .for_ (.nm 3) 1 [(.var 0)] [.par2 4 5 (.var 0) (.var 3),
    .whl (.cmp .ne (.var 5) (.cst (.int 0))) [.par2 4 5 (.var 5) (.bin .mod (.var 4) (.var 5))],
    .aug 2 .add (.call 19 [(.var 1), (.var 4)])],
    .ret (.bin .fdiv (.var 2) (.var 0))]
theorem u_necklaces_comp : compSs 100 u_necklaces_cc (defBody u_necklaces_st) = some u_necklaces_code := by kernel_rfl
noncomputable def u_necklaces_φs : List (List Ev.D → Option Ev.R) := u_brackets_φ :: u_brackets_φs
noncomputable def u_necklaces_ms : MS := (sqK (sIte (kDis (kInv (kChn .le .le (fun _ τ => some (⟨.S, (.int 1)⟩, τ)) (kVar 0) (fun _ τ => some (⟨.S, (.int 200)⟩, τ)))) (kCmp .lt (kVar 1) (fun _ τ => some (⟨.S, (.int 0)⟩, τ)))) (sqK (fun _ _ => none) (fun ρ τ => some (.nx ρ τ))) (fun ρ τ => some (.nx ρ τ))) (sqK (sSet (.nm 2) (fun _ τ => some (⟨.S, (.int 0)⟩, τ))) (sqK (sFor (.nm 3) 1 (kCons (kVar 0) kNil) (sqK (sPar2 4 5 (kVar 0) (kVar 3)) (sqK (whK (kCmp .ne (kVar 5) (fun _ τ => some (⟨.S, (.int 0)⟩, τ))) (sqK (sPar2 4 5 (kVar 5) (kBin .mod (kVar 4) (kVar 5))) (fun ρ τ => some (.nx ρ τ))) 1000) (sqK (sAug 2 .add (kCall (Φof u_necklaces_φs 19) (kCons (kVar 1) (kCons (kVar 4) kNil)))) (fun ρ τ => some (.nx ρ τ)))))) (sqK (sRet (kBin .fdiv (kVar 2) (kVar 0))) (fun ρ τ => some (.nx ρ τ))))))
theorem u_necklaces_ms_eq : u_necklaces_ms = evSsK (Φof u_necklaces_φs) (Ψof []) 1000 u_necklaces_code := by kernel_rfl
noncomputable def u_necklaces_φ : List Ev.D → Option Ev.R := runM 6 2 u_necklaces_ms
/-! fraction -/
abbrev u_fraction_st : Stmt := topS 35
abbrev u_fraction_N : List Str := ["top", "bottom", "divisor"]
theorem u_fraction_sc : FnScope u_fraction_N ["top", "bottom"] (defScope u_fraction_st) := ⟨rfl, rfl, rfl, by decide +kernel, rfl, by decide +kernel, by decide +kernel⟩
def u_fraction_fs : List Str := "necklaces" :: u_necklaces_fs
def u_fraction_cc : Cc := ⟨u_fraction_N, defScope u_fraction_st, cons, u_fraction_fs, [], blts⟩
def u_fraction_code : List S :=
   [.ite (.cmp .eq (.var 1) (.cst (.int 0))) [.nev] [],
    .set (.nm 2) (.idx (.call 22 [(.var 0), (.var 1)]) (.cst (.int 0))),
    .ite (.cmp .lt (.var 1) (.cst (.int 0))) [.set (.nm 2) (.bin .sub (.cst (.int 0)) (.var 2))] [],
    .ret (.tup [(.bin .fdiv (.var 0) (.var 2)), (.bin .fdiv (.var 1) (.var 2))])]
theorem u_fraction_comp : compSs 100 u_fraction_cc (defBody u_fraction_st) = some u_fraction_code := by kernel_rfl
noncomputable def u_fraction_φs : List (List Ev.D → Option Ev.R) := u_necklaces_φ :: u_necklaces_φs
noncomputable def u_fraction_φ : List Ev.D → Option Ev.R := Rt.fracF
/-! plus -/
abbrev u_plus_st : Stmt := topS 36
abbrev u_plus_N : List Str := ["one", "other"]
theorem u_plus_sc : FnScope u_plus_N ["one", "other"] (defScope u_plus_st) := ⟨rfl, rfl, rfl, by decide +kernel, rfl, by decide +kernel, by decide +kernel⟩
def u_plus_fs : List Str := "fraction" :: u_fraction_fs
def u_plus_cc : Cc := ⟨u_plus_N, defScope u_plus_st, cons, u_plus_fs, [], blts⟩
def u_plus_code : List S :=
   [.ret (.call 0 [(.bin .add (.bin .mul (.idx (.var 0) (.cst (.int 0))) (.idx (.var 1) (.cst (.int 1)))) (.bin .mul (.idx (.var 1) (.cst (.int 0))) (.idx (.var 0) (.cst (.int 1))))), (.bin .mul (.idx (.var 0) (.cst (.int 1))) (.idx (.var 1) (.cst (.int 1))))])]
theorem u_plus_comp : compSs 100 u_plus_cc (defBody u_plus_st) = some u_plus_code := by kernel_rfl
noncomputable def u_plus_φs : List (List Ev.D → Option Ev.R) := u_fraction_φ :: u_fraction_φs
noncomputable def u_plus_φ : List Ev.D → Option Ev.R := Rt.plusF
/-! minus -/
abbrev u_minus_st : Stmt := topS 37
abbrev u_minus_N : List Str := ["one", "other"]
theorem u_minus_sc : FnScope u_minus_N ["one", "other"] (defScope u_minus_st) := ⟨rfl, rfl, rfl, by decide +kernel, rfl, by decide +kernel, by decide +kernel⟩
def u_minus_fs : List Str := "plus" :: u_plus_fs
def u_minus_cc : Cc := ⟨u_minus_N, defScope u_minus_st, cons, u_minus_fs, [], blts⟩
def u_minus_code : List S :=
   [.ret (.call 1 [(.bin .sub (.bin .mul (.idx (.var 0) (.cst (.int 0))) (.idx (.var 1) (.cst (.int 1)))) (.bin .mul (.idx (.var 1) (.cst (.int 0))) (.idx (.var 0) (.cst (.int 1))))), (.bin .mul (.idx (.var 0) (.cst (.int 1))) (.idx (.var 1) (.cst (.int 1))))])]
theorem u_minus_comp : compSs 100 u_minus_cc (defBody u_minus_st) = some u_minus_code := by kernel_rfl
noncomputable def u_minus_φs : List (List Ev.D → Option Ev.R) := u_plus_φ :: u_plus_φs
noncomputable def u_minus_φ : List Ev.D → Option Ev.R := Rt.minusF
/-! times -/
abbrev u_times_st : Stmt := topS 38
abbrev u_times_N : List Str := ["one", "other"]
theorem u_times_sc : FnScope u_times_N ["one", "other"] (defScope u_times_st) := ⟨rfl, rfl, rfl, by decide +kernel, rfl, by decide +kernel, by decide +kernel⟩
def u_times_fs : List Str := "minus" :: u_minus_fs
def u_times_cc : Cc := ⟨u_times_N, defScope u_times_st, cons, u_times_fs, [], blts⟩
def u_times_code : List S :=
   [.ret (.call 2 [(.bin .mul (.idx (.var 0) (.cst (.int 0))) (.idx (.var 1) (.cst (.int 0)))), (.bin .mul (.idx (.var 0) (.cst (.int 1))) (.idx (.var 1) (.cst (.int 1))))])]
theorem u_times_comp : compSs 100 u_times_cc (defBody u_times_st) = some u_times_code := by kernel_rfl
noncomputable def u_times_φs : List (List Ev.D → Option Ev.R) := u_minus_φ :: u_minus_φs
noncomputable def u_times_φ : List Ev.D → Option Ev.R := Rt.timesF
/-! over -/
abbrev u_over_st : Stmt := topS 39
abbrev u_over_N : List Str := ["one", "other"]
theorem u_over_sc : FnScope u_over_N ["one", "other"] (defScope u_over_st) := ⟨rfl, rfl, rfl, by decide +kernel, rfl, by decide +kernel, by decide +kernel⟩
def u_over_fs : List Str := "times" :: u_times_fs
def u_over_cc : Cc := ⟨u_over_N, defScope u_over_st, cons, u_over_fs, [], blts⟩
def u_over_code : List S :=
   [.ret (.call 3 [(.bin .mul (.idx (.var 0) (.cst (.int 0))) (.idx (.var 1) (.cst (.int 1)))), (.bin .mul (.idx (.var 0) (.cst (.int 1))) (.idx (.var 1) (.cst (.int 0))))])]
theorem u_over_comp : compSs 100 u_over_cc (defBody u_over_st) = some u_over_code := by kernel_rfl
noncomputable def u_over_φs : List (List Ev.D → Option Ev.R) := u_times_φ :: u_times_φs
noncomputable def u_over_φ : List Ev.D → Option Ev.R := Rt.overF
/-! trimmed -/
abbrev u_trimmed_st : Stmt := topS 41
abbrev u_trimmed_N : List Str := ["row", "many"]
theorem u_trimmed_sc : FnScope u_trimmed_N ["row"] (defScope u_trimmed_st) := ⟨rfl, rfl, rfl, by decide +kernel, rfl, by decide +kernel, by decide +kernel⟩
def u_trimmed_fs : List Str := "over" :: u_over_fs
def u_trimmed_cc : Cc := ⟨u_trimmed_N, defScope u_trimmed_st, cons, u_trimmed_fs, [], blts⟩
def u_trimmed_code : List S :=
   [.set (.nm 1) (.blt .len [(.var 0)]),
    .whl (.con (.cmp .gt (.var 1) (.cst (.int 0))) (.cmp .eq (.idx (.var 0) (.bin .sub (.var 1) (.cst (.int 1)))) (.cst (.tuple [.int 0, .int 1])))) [.aug 1 .sub (.cst (.int 1))],
    .ret (.blt .tuple [(.slcH (.var 0) (.var 1))])]
theorem u_trimmed_comp : compSs 100 u_trimmed_cc (defBody u_trimmed_st) = some u_trimmed_code := by kernel_rfl
noncomputable def u_trimmed_φs : List (List Ev.D → Option Ev.R) := u_over_φ :: u_over_φs
noncomputable def u_trimmed_ms : MS := (sqK (sSet (.nm 1) (kBlt .len (kCons (kVar 0) kNil))) (sqK (whK (kCon (kCmp .gt (kVar 1) (fun _ τ => some (⟨.S, (.int 0)⟩, τ))) (kCmp .eq (kIdx (kVar 0) (kBin .sub (kVar 1) (fun _ τ => some (⟨.S, (.int 1)⟩, τ)))) (fun _ τ => some (⟨.S, (.tuple [(.int 0), (.int 1)])⟩, τ)))) (sqK (sAug 1 .sub (fun _ τ => some (⟨.S, (.int 1)⟩, τ))) (fun ρ τ => some (.nx ρ τ))) 1000) (sqK (sRet (kBlt .tuple (kCons (kSlcH (kVar 0) (kVar 1)) kNil))) (fun ρ τ => some (.nx ρ τ)))))
theorem u_trimmed_ms_eq : u_trimmed_ms = evSsK (Φof u_trimmed_φs) (Ψof []) 1000 u_trimmed_code := by kernel_rfl
noncomputable def u_trimmed_φ : List Ev.D → Option Ev.R := runM 2 1 u_trimmed_ms
/-! whole -/
abbrev u_whole_st : Stmt := topS 42
abbrev u_whole_N : List Str := ["row", "number"]
theorem u_whole_sc : FnScope u_whole_N ["row"] (defScope u_whole_st) := ⟨rfl, rfl, rfl, by decide +kernel, rfl, by decide +kernel, by decide +kernel⟩
def u_whole_fs : List Str := "trimmed" :: u_trimmed_fs
def u_whole_cc : Cc := ⟨u_whole_N, defScope u_whole_st, cons, u_whole_fs, [], blts⟩
def u_whole_code : List S :=
   [.ret (.call 0 [(.blt .tuple [(.comp (.tup [(.var 1), (.cst (.int 1))]) (.nm 1) 0 [(.var 0)] [])])])]
theorem u_whole_comp : compSs 100 u_whole_cc (defBody u_whole_st) = some u_whole_code := by kernel_rfl
noncomputable def u_whole_φs : List (List Ev.D → Option Ev.R) := u_trimmed_φ :: u_trimmed_φs
noncomputable def u_whole_ms : MS := (sqK (sRet (kCall (Φof u_whole_φs 0) (kCons (kBlt .tuple (kCons (kComp (kTup (kCons (kVar 1) (kCons (fun _ τ => some (⟨.S, (.int 1)⟩, τ)) kNil))) (.nm 1) 0 (kCons (kVar 0) kNil) kNil) kNil)) kNil))) (fun ρ τ => some (.nx ρ τ)))
theorem u_whole_ms_eq : u_whole_ms = evSsK (Φof u_whole_φs) (Ψof []) 1000 u_whole_code := by kernel_rfl
noncomputable def u_whole_φ : List Ev.D → Option Ev.R := runM 2 1 u_whole_ms
/-! degree -/
abbrev u_degree_st : Stmt := topS 43
abbrev u_degree_N : List Str := ["one"]
theorem u_degree_sc : FnScope u_degree_N ["one"] (defScope u_degree_st) := ⟨rfl, rfl, rfl, by decide +kernel, rfl, by decide +kernel, by decide +kernel⟩
def u_degree_fs : List Str := "whole" :: u_whole_fs
def u_degree_cc : Cc := ⟨u_degree_N, defScope u_degree_st, cons, u_degree_fs, [], blts⟩
def u_degree_code : List S :=
   [.ret (.bin .sub (.blt .len [(.var 0)]) (.cst (.int 1)))]
theorem u_degree_comp : compSs 100 u_degree_cc (defBody u_degree_st) = some u_degree_code := by kernel_rfl
noncomputable def u_degree_φs : List (List Ev.D → Option Ev.R) := u_whole_φ :: u_whole_φs
noncomputable def u_degree_ms : MS := (sqK (sRet (kBin .sub (kBlt .len (kCons (kVar 0) kNil)) (fun _ τ => some (⟨.S, (.int 1)⟩, τ)))) (fun ρ τ => some (.nx ρ τ)))
theorem u_degree_ms_eq : u_degree_ms = evSsK (Φof u_degree_φs) (Ψof []) 1000 u_degree_code := by kernel_rfl
noncomputable def u_degree_φ : List Ev.D → Option Ev.R := runM 1 1 u_degree_ms
/-! add -/
abbrev u_add_st : Stmt := topS 44
abbrev u_add_N : List Str := ["one", "other", "many", "left", "right", "k"]
theorem u_add_sc : FnScope u_add_N ["one", "other"] (defScope u_add_st) := ⟨rfl, rfl, rfl, by decide +kernel, rfl, by decide +kernel, by decide +kernel⟩
def u_add_fs : List Str := "degree" :: u_degree_fs
def u_add_cc : Cc := ⟨u_add_N, defScope u_add_st, cons, u_add_fs, [], blts⟩
def u_add_code : List S :=
   [.set (.nm 2) (.blt .max [(.blt .len [(.var 0)]), (.blt .len [(.var 1)])]),
    .set (.nm 3) (.bin .add (.var 0) (.bin .mul (.tup [(.cst (.tuple [.int 0, .int 1]))]) (.bin .sub (.var 2) (.blt .len [(.var 0)])))),
    .set (.nm 4) (.bin .add (.var 1) (.bin .mul (.tup [(.cst (.tuple [.int 0, .int 1]))]) (.bin .sub (.var 2) (.blt .len [(.var 1)])))),
    .ret (.call 2 [(.blt .tuple [(.comp (.call 6 [(.idx (.var 3) (.var 5)), (.idx (.var 4) (.var 5))]) (.nm 5) 1 [(.var 2)] [])])])]
theorem u_add_comp : compSs 100 u_add_cc (defBody u_add_st) = some u_add_code := by kernel_rfl
noncomputable def u_add_φs : List (List Ev.D → Option Ev.R) := u_degree_φ :: u_degree_φs
noncomputable def u_add_ms : MS := (sqK (sSet (.nm 2) (kBlt .max (kCons (kBlt .len (kCons (kVar 0) kNil)) (kCons (kBlt .len (kCons (kVar 1) kNil)) kNil)))) (sqK (sSet (.nm 3) (kBin .add (kVar 0) (kBin .mul (kTup (kCons (fun _ τ => some (⟨.S, (.tuple [(.int 0), (.int 1)])⟩, τ)) kNil)) (kBin .sub (kVar 2) (kBlt .len (kCons (kVar 0) kNil)))))) (sqK (sSet (.nm 4) (kBin .add (kVar 1) (kBin .mul (kTup (kCons (fun _ τ => some (⟨.S, (.tuple [(.int 0), (.int 1)])⟩, τ)) kNil)) (kBin .sub (kVar 2) (kBlt .len (kCons (kVar 1) kNil)))))) (sqK (sRet (kCall (Φof u_add_φs 2) (kCons (kBlt .tuple (kCons (kComp (kCall (Φof u_add_φs 6) (kCons (kIdx (kVar 3) (kVar 5)) (kCons (kIdx (kVar 4) (kVar 5)) kNil))) (.nm 5) 1 (kCons (kVar 2) kNil) kNil) kNil)) kNil))) (fun ρ τ => some (.nx ρ τ))))))
theorem u_add_ms_eq : u_add_ms = evSsK (Φof u_add_φs) (Ψof []) 1000 u_add_code := by kernel_rfl
noncomputable def u_add_φ : List Ev.D → Option Ev.R := runM 6 2 u_add_ms
/-! scale -/
abbrev u_scale_st : Stmt := topS 45
abbrev u_scale_N : List Str := ["one", "factor", "number"]
theorem u_scale_sc : FnScope u_scale_N ["one", "factor"] (defScope u_scale_st) := ⟨rfl, rfl, rfl, by decide +kernel, rfl, by decide +kernel, by decide +kernel⟩
def u_scale_fs : List Str := "add" :: u_add_fs
def u_scale_cc : Cc := ⟨u_scale_N, defScope u_scale_st, cons, u_scale_fs, [], blts⟩
def u_scale_code : List S :=
   [.ret (.call 3 [(.blt .tuple [(.comp (.call 5 [(.var 2), (.var 1)]) (.nm 2) 0 [(.var 0)] [])])])]
theorem u_scale_comp : compSs 100 u_scale_cc (defBody u_scale_st) = some u_scale_code := by kernel_rfl
noncomputable def u_scale_φs : List (List Ev.D → Option Ev.R) := u_add_φ :: u_add_φs
noncomputable def u_scale_ms : MS := (sqK (sRet (kCall (Φof u_scale_φs 3) (kCons (kBlt .tuple (kCons (kComp (kCall (Φof u_scale_φs 5) (kCons (kVar 2) (kCons (kVar 1) kNil))) (.nm 2) 0 (kCons (kVar 0) kNil) kNil) kNil)) kNil))) (fun ρ τ => some (.nx ρ τ)))
theorem u_scale_ms_eq : u_scale_ms = evSsK (Φof u_scale_φs) (Ψof []) 1000 u_scale_code := by kernel_rfl
noncomputable def u_scale_φ : List Ev.D → Option Ev.R := runM 3 2 u_scale_ms
/-! subtract -/
abbrev u_subtract_st : Stmt := topS 46
abbrev u_subtract_N : List Str := ["one", "other"]
theorem u_subtract_sc : FnScope u_subtract_N ["one", "other"] (defScope u_subtract_st) := ⟨rfl, rfl, rfl, by decide +kernel, rfl, by decide +kernel, by decide +kernel⟩
def u_subtract_fs : List Str := "scale" :: u_scale_fs
def u_subtract_cc : Cc := ⟨u_subtract_N, defScope u_subtract_st, cons, u_subtract_fs, [], blts⟩
def u_subtract_code : List S :=
   [.ret (.call 1 [(.var 0), (.call 0 [(.var 1), (.tup [(.neg (.cst (.int 1))), (.cst (.int 1))])])])]
theorem u_subtract_comp : compSs 100 u_subtract_cc (defBody u_subtract_st) = some u_subtract_code := by kernel_rfl
noncomputable def u_subtract_φs : List (List Ev.D → Option Ev.R) := u_scale_φ :: u_scale_φs
noncomputable def u_subtract_ms : MS := (sqK (sRet (kCall (Φof u_subtract_φs 1) (kCons (kVar 0) (kCons (kCall (Φof u_subtract_φs 0) (kCons (kVar 1) (kCons (kTup (kCons (kNeg (fun _ τ => some (⟨.S, (.int 1)⟩, τ))) (kCons (fun _ τ => some (⟨.S, (.int 1)⟩, τ)) kNil))) kNil))) kNil)))) (fun ρ τ => some (.nx ρ τ)))
theorem u_subtract_ms_eq : u_subtract_ms = evSsK (Φof u_subtract_φs) (Ψof []) 1000 u_subtract_code := by kernel_rfl
noncomputable def u_subtract_φ : List Ev.D → Option Ev.R := runM 2 2 u_subtract_ms
/-! multiply -/
abbrev u_multiply_st : Stmt := topS 47
abbrev u_multiply_N : List Str := ["one", "other", "found", "k", "first", "j", "second"]
theorem u_multiply_sc : FnScope u_multiply_N ["one", "other"] (defScope u_multiply_st) := ⟨rfl, rfl, rfl, by decide +kernel, rfl, by decide +kernel, by decide +kernel⟩
def u_multiply_fs : List Str := "subtract" :: u_subtract_fs
def u_multiply_cc : Cc := ⟨u_multiply_N, defScope u_multiply_st, cons, u_multiply_fs, [], blts⟩
def u_multiply_code : List S :=
   [.ite (.dis (.inv (.tru (.var 0))) (.inv (.tru (.var 1)))) [.ret (.tup [])] [],
    .set (.nm 2) (.bin .mul (.lst [(.cst (.tuple [.int 0, .int 1]))]) (.bin .sub (.bin .add (.blt .len [(.var 0)]) (.blt .len [(.var 1)])) (.cst (.int 1)))),
    .for_ (.tu [3, 4]) 3 [(.var 0)] [.for_ (.tu [5, 6]) 3 [(.var 1)] [.sti 2 (.bin .add (.var 3) (.var 5)) (.call 9 [(.idx (.var 2) (.bin .add (.var 3) (.var 5))), (.call 7 [(.var 4), (.var 6)])])]],
    .ret (.call 5 [(.blt .tuple [(.var 2)])])]
theorem u_multiply_comp : compSs 100 u_multiply_cc (defBody u_multiply_st) = some u_multiply_code := by kernel_rfl
noncomputable def u_multiply_φs : List (List Ev.D → Option Ev.R) := u_subtract_φ :: u_subtract_φs
noncomputable def u_multiply_ms : MS := (sqK (sIte (kDis (kInv (kTru (kVar 0))) (kInv (kTru (kVar 1)))) (sqK (sRet (kTup kNil)) (fun ρ τ => some (.nx ρ τ))) (fun ρ τ => some (.nx ρ τ))) (sqK (sSet (.nm 2) (kBin .mul (kLst (kCons (fun _ τ => some (⟨.S, (.tuple [(.int 0), (.int 1)])⟩, τ)) kNil)) (kBin .sub (kBin .add (kBlt .len (kCons (kVar 0) kNil)) (kBlt .len (kCons (kVar 1) kNil))) (fun _ τ => some (⟨.S, (.int 1)⟩, τ))))) (sqK (sFor (.tu [(3), (4)]) 3 (kCons (kVar 0) kNil) (sqK (sFor (.tu [(5), (6)]) 3 (kCons (kVar 1) kNil) (sqK (sSti 2 (kBin .add (kVar 3) (kVar 5)) (kCall (Φof u_multiply_φs 9) (kCons (kIdx (kVar 2) (kBin .add (kVar 3) (kVar 5))) (kCons (kCall (Φof u_multiply_φs 7) (kCons (kVar 4) (kCons (kVar 6) kNil))) kNil)))) (fun ρ τ => some (.nx ρ τ)))) (fun ρ τ => some (.nx ρ τ)))) (sqK (sRet (kCall (Φof u_multiply_φs 5) (kCons (kBlt .tuple (kCons (kVar 2) kNil)) kNil))) (fun ρ τ => some (.nx ρ τ))))))
theorem u_multiply_ms_eq : u_multiply_ms = evSsK (Φof u_multiply_φs) (Ψof []) 1000 u_multiply_code := by kernel_rfl
noncomputable def u_multiply_φ : List Ev.D → Option Ev.R := runM 7 2 u_multiply_ms
/-! compose -/
abbrev u_compose_st : Stmt := topS 48
abbrev u_compose_N : List Str := ["one", "other", "found", "number"]
theorem u_compose_sc : FnScope u_compose_N ["one", "other"] (defScope u_compose_st) := ⟨rfl, rfl, rfl, by decide +kernel, rfl, by decide +kernel, by decide +kernel⟩
def u_compose_fs : List Str := "multiply" :: u_multiply_fs
def u_compose_cc : Cc := ⟨u_compose_N, defScope u_compose_st, cons, u_compose_fs, [], blts⟩
def u_compose_code : List S :=
   [.set (.nm 2) (.tup []),
    .for_ (.nm 3) 0 [(.rev (.var 0))] [.set (.nm 2) (.call 3 [(.call 0 [(.var 2), (.var 1)]), (.call 6 [(.tup [(.var 3)])])])],
    .retv 2]
theorem u_compose_comp : compSs 100 u_compose_cc (defBody u_compose_st) = some u_compose_code := by kernel_rfl
noncomputable def u_compose_φs : List (List Ev.D → Option Ev.R) := u_multiply_φ :: u_multiply_φs
noncomputable def u_compose_ms : MS := (sqK (sSet (.nm 2) (kTup kNil)) (sqK (sFor (.nm 3) 0 (kCons (kRev (kVar 0)) kNil) (sqK (sSet (.nm 2) (kCall (Φof u_compose_φs 3) (kCons (kCall (Φof u_compose_φs 0) (kCons (kVar 2) (kCons (kVar 1) kNil))) (kCons (kCall (Φof u_compose_φs 6) (kCons (kTup (kCons (kVar 3) kNil)) kNil)) kNil)))) (fun ρ τ => some (.nx ρ τ)))) (sqK (sRetv 2) (fun ρ τ => some (.nx ρ τ)))))
theorem u_compose_ms_eq : u_compose_ms = evSsK (Φof u_compose_φs) (Ψof []) 1000 u_compose_code := by kernel_rfl
noncomputable def u_compose_φ : List Ev.D → Option Ev.R := runM 4 2 u_compose_ms
/-! factors_of -/
abbrev u_factors_of_st : Stmt := topS 51
abbrev u_factors_of_N : List Str := ["top", "under", "many", "found", "k", "number", "j"]
theorem u_factors_of_sc : FnScope u_factors_of_N ["top", "under", "many"] (defScope u_factors_of_st) := ⟨rfl, rfl, rfl, by decide +kernel, rfl, by decide +kernel, by decide +kernel⟩
def u_factors_of_fs : List Str := "compose" :: u_compose_fs
def u_factors_of_cc : Cc := ⟨u_factors_of_N, defScope u_factors_of_st, cons, u_factors_of_fs, [], blts⟩
def u_factors_of_code : List S :=
   [.ite (.dis (.inv (.tru (.var 1))) (.cmp .eq (.idx (.var 1) (.cst (.int 0))) (.cst (.tuple [.int 0, .int 1])))) [.nev] [],
    .ite (.inv (.chn .le .le (.cst (.int 0)) (.var 2) (.cst (.int 60)))) [.nev] [],
    .set (.nm 3) (.lst []),
    .for_ (.nm 4) 1 [(.var 2)] [.set (.nm 5) (.ite (.cmp .lt (.var 4) (.blt .len [(.var 0)])) (.idx (.var 0) (.var 4)) (.cst (.tuple [.int 0, .int 1]))),
    .for_ (.nm 6) 2 [(.cst (.int 1)), (.bin .add (.blt .min [(.var 4), (.call 5 [(.var 1)])]) (.cst (.int 1)))] [.set (.nm 5) (.call 10 [(.var 5), (.call 9 [(.idx (.var 1) (.var 6)), (.idx (.var 3) (.bin .sub (.var 4) (.var 6)))])])],
    .app 3 (.call 8 [(.var 5), (.idx (.var 1) (.cst (.int 0)))])],
    .ret (.blt .tuple [(.var 3)])]
theorem u_factors_of_comp : compSs 100 u_factors_of_cc (defBody u_factors_of_st) = some u_factors_of_code := by kernel_rfl
noncomputable def u_factors_of_φs : List (List Ev.D → Option Ev.R) := u_compose_φ :: u_compose_φs
noncomputable def u_factors_of_ms : MS := (sqK (sIte (kDis (kInv (kTru (kVar 1))) (kCmp .eq (kIdx (kVar 1) (fun _ τ => some (⟨.S, (.int 0)⟩, τ))) (fun _ τ => some (⟨.S, (.tuple [(.int 0), (.int 1)])⟩, τ)))) (sqK (fun _ _ => none) (fun ρ τ => some (.nx ρ τ))) (fun ρ τ => some (.nx ρ τ))) (sqK (sIte (kInv (kChn .le .le (fun _ τ => some (⟨.S, (.int 0)⟩, τ)) (kVar 2) (fun _ τ => some (⟨.S, (.int 60)⟩, τ)))) (sqK (fun _ _ => none) (fun ρ τ => some (.nx ρ τ))) (fun ρ τ => some (.nx ρ τ))) (sqK (sSet (.nm 3) (kLst kNil)) (sqK (sFor (.nm 4) 1 (kCons (kVar 2) kNil) (sqK (sSet (.nm 5) (kIte (kCmp .lt (kVar 4) (kBlt .len (kCons (kVar 0) kNil))) (kIdx (kVar 0) (kVar 4)) (fun _ τ => some (⟨.S, (.tuple [(.int 0), (.int 1)])⟩, τ)))) (sqK (sFor (.nm 6) 2 (kCons (fun _ τ => some (⟨.S, (.int 1)⟩, τ)) (kCons (kBin .add (kBlt .min (kCons (kVar 4) (kCons (kCall (Φof u_factors_of_φs 5) (kCons (kVar 1) kNil)) kNil))) (fun _ τ => some (⟨.S, (.int 1)⟩, τ))) kNil)) (sqK (sSet (.nm 5) (kCall (Φof u_factors_of_φs 10) (kCons (kVar 5) (kCons (kCall (Φof u_factors_of_φs 9) (kCons (kIdx (kVar 1) (kVar 6)) (kCons (kIdx (kVar 3) (kBin .sub (kVar 4) (kVar 6))) kNil))) kNil)))) (fun ρ τ => some (.nx ρ τ)))) (sqK (sApp 3 (kCall (Φof u_factors_of_φs 8) (kCons (kVar 5) (kCons (kIdx (kVar 1) (fun _ τ => some (⟨.S, (.int 0)⟩, τ))) kNil)))) (fun ρ τ => some (.nx ρ τ)))))) (sqK (sRet (kBlt .tuple (kCons (kVar 3) kNil))) (fun ρ τ => some (.nx ρ τ)))))))
theorem u_factors_of_ms_eq : u_factors_of_ms = evSsK (Φof u_factors_of_φs) (Ψof []) 1000 u_factors_of_code := by kernel_rfl
noncomputable def u_factors_of_φ : List Ev.D → Option Ev.R := runM 7 3 u_factors_of_ms
/-! check_degree -/
abbrev u_check_degree_st : Stmt := topS 54
abbrev u_check_degree_N : List Str := ["number"]
theorem u_check_degree_sc : FnScope u_check_degree_N ["number"] (defScope u_check_degree_st) := ⟨rfl, rfl, rfl, by decide +kernel, rfl, by decide +kernel, by decide +kernel⟩
def u_check_degree_fs : List Str := "factors_of" :: u_factors_of_fs
def u_check_degree_cc : Cc := ⟨u_check_degree_N, defScope u_check_degree_st, cons, u_check_degree_fs, [], blts⟩
def u_check_degree_code : List S :=
   [.ite (.inv (.chn .le .le (.cst (.int 0)) (.var 0) (.cst (.int 12)))) [.nev] []]
theorem u_check_degree_comp : compSs 100 u_check_degree_cc (defBody u_check_degree_st) = some u_check_degree_code := by kernel_rfl
noncomputable def u_check_degree_φs : List (List Ev.D → Option Ev.R) := u_factors_of_φ :: u_factors_of_φs
noncomputable def u_check_degree_ms : MS := (sqK (sIte (kInv (kChn .le .le (fun _ τ => some (⟨.S, (.int 0)⟩, τ)) (kVar 0) (fun _ τ => some (⟨.S, (.int 12)⟩, τ)))) (sqK (fun _ _ => none) (fun ρ τ => some (.nx ρ τ))) (fun ρ τ => some (.nx ρ τ))) (fun ρ τ => some (.nx ρ τ)))
theorem u_check_degree_ms_eq : u_check_degree_ms = evSsK (Φof u_check_degree_φs) (Ψof []) 1000 u_check_degree_code := by kernel_rfl
noncomputable def u_check_degree_φ : List Ev.D → Option Ev.R := runM 1 1 u_check_degree_ms
/-! choose_poly -/
abbrev u_choose_poly_st : Stmt := topS 55
abbrev u_choose_poly_N : List Str := ["number", "found", "k"]
theorem u_choose_poly_sc : FnScope u_choose_poly_N ["number"] (defScope u_choose_poly_st) := ⟨rfl, rfl, rfl, by decide +kernel, rfl, by decide +kernel, by decide +kernel⟩
def u_choose_poly_fs : List Str := "check_degree" :: u_check_degree_fs
def u_choose_poly_cc : Cc := ⟨u_choose_poly_N, defScope u_choose_poly_st, cons, u_choose_poly_fs, [], blts⟩
def u_choose_poly_code : List S :=
   [.exp (.call 0 [(.var 0)]),
    .set (.nm 1) (.tup [(.cst (.tuple [.int 1, .int 1]))]),
    .for_ (.nm 2) 1 [(.var 0)] [.set (.nm 1) (.call 3 [(.var 1), (.tup [(.call 14 [(.bin .sub (.cst (.int 0)) (.var 2)), (.bin .add (.var 2) (.cst (.int 1)))]), (.call 14 [(.cst (.int 1)), (.bin .add (.var 2) (.cst (.int 1)))])])])],
    .retv 1]
theorem u_choose_poly_comp : compSs 100 u_choose_poly_cc (defBody u_choose_poly_st) = some u_choose_poly_code := by kernel_rfl
noncomputable def u_choose_poly_φs : List (List Ev.D → Option Ev.R) := u_check_degree_φ :: u_check_degree_φs
noncomputable def u_choose_poly_ms : MS := (sqK (sExp (kCall (Φof u_choose_poly_φs 0) (kCons (kVar 0) kNil))) (sqK (sSet (.nm 1) (kTup (kCons (fun _ τ => some (⟨.S, (.tuple [(.int 1), (.int 1)])⟩, τ)) kNil))) (sqK (sFor (.nm 2) 1 (kCons (kVar 0) kNil) (sqK (sSet (.nm 1) (kCall (Φof u_choose_poly_φs 3) (kCons (kVar 1) (kCons (kTup (kCons (kCall (Φof u_choose_poly_φs 14) (kCons (kBin .sub (fun _ τ => some (⟨.S, (.int 0)⟩, τ)) (kVar 2)) (kCons (kBin .add (kVar 2) (fun _ τ => some (⟨.S, (.int 1)⟩, τ))) kNil))) (kCons (kCall (Φof u_choose_poly_φs 14) (kCons (fun _ τ => some (⟨.S, (.int 1)⟩, τ)) (kCons (kBin .add (kVar 2) (fun _ τ => some (⟨.S, (.int 1)⟩, τ))) kNil))) kNil))) kNil)))) (fun ρ τ => some (.nx ρ τ)))) (sqK (sRetv 1) (fun ρ τ => some (.nx ρ τ))))))
theorem u_choose_poly_ms_eq : u_choose_poly_ms = evSsK (Φof u_choose_poly_φs) (Ψof []) 1000 u_choose_poly_code := by kernel_rfl
noncomputable def u_choose_poly_φ : List Ev.D → Option Ev.R := runM 3 1 u_choose_poly_ms
/-! rise_of -/
abbrev u_rise_of_st : Stmt := topS 56
abbrev u_rise_of_N : List Str := ["one"]
theorem u_rise_of_sc : FnScope u_rise_of_N ["one"] (defScope u_rise_of_st) := ⟨rfl, rfl, rfl, by decide +kernel, rfl, by decide +kernel, by decide +kernel⟩
def u_rise_of_fs : List Str := "choose_poly" :: u_choose_poly_fs
def u_rise_of_cc : Cc := ⟨u_rise_of_N, defScope u_rise_of_st, cons, u_rise_of_fs, [], blts⟩
def u_rise_of_code : List S :=
   [.ret (.call 5 [(.call 3 [(.var 0), (.tup [(.cst (.tuple [.int 1, .int 1])), (.cst (.tuple [.int 1, .int 1]))])]), (.var 0)])]
theorem u_rise_of_comp : compSs 100 u_rise_of_cc (defBody u_rise_of_st) = some u_rise_of_code := by kernel_rfl
noncomputable def u_rise_of_φs : List (List Ev.D → Option Ev.R) := u_choose_poly_φ :: u_choose_poly_φs
noncomputable def u_rise_of_ms : MS := (sqK (sRet (kCall (Φof u_rise_of_φs 5) (kCons (kCall (Φof u_rise_of_φs 3) (kCons (kVar 0) (kCons (kTup (kCons (fun _ τ => some (⟨.S, (.tuple [(.int 1), (.int 1)])⟩, τ)) (kCons (fun _ τ => some (⟨.S, (.tuple [(.int 1), (.int 1)])⟩, τ)) kNil))) kNil))) (kCons (kVar 0) kNil)))) (fun ρ τ => some (.nx ρ τ)))
theorem u_rise_of_ms_eq : u_rise_of_ms = evSsK (Φof u_rise_of_φs) (Ψof []) 1000 u_rise_of_code := by kernel_rfl
noncomputable def u_rise_of_φ : List Ev.D → Option Ev.R := runM 1 1 u_rise_of_ms
/-! rises -/
abbrev u_rises_st : Stmt := topS 57
abbrev u_rises_N : List Str := ["one", "found", "now", "_"]
theorem u_rises_sc : FnScope u_rises_N ["one"] (defScope u_rises_st) := ⟨rfl, rfl, rfl, by decide +kernel, rfl, by decide +kernel, by decide +kernel⟩
def u_rises_fs : List Str := "rise_of" :: u_rise_of_fs
def u_rises_cc : Cc := ⟨u_rises_N, defScope u_rises_st, cons, u_rises_fs, [], blts⟩
def u_rises_code : List S :=
   [.ite (.cmp .gt (.call 9 [(.var 0)]) (.cst (.int 12))) [.nev] [],
    .set (.nm 1) (.lst []),
    .mov 2 0,
    .for_ (.nm 3) 1 [(.blt .len [(.var 0)])] [.app 1 (.ite (.tru (.var 2)) (.idx (.var 2) (.cst (.int 0))) (.cst (.tuple [.int 0, .int 1]))),
    .set (.nm 2) (.call 0 [(.var 2)])],
    .ret (.blt .tuple [(.var 1)])]
theorem u_rises_comp : compSs 100 u_rises_cc (defBody u_rises_st) = some u_rises_code := by kernel_rfl
noncomputable def u_rises_φs : List (List Ev.D → Option Ev.R) := u_rise_of_φ :: u_rise_of_φs
noncomputable def u_rises_ms : MS := (sqK (sIte (kCmp .gt (kCall (Φof u_rises_φs 9) (kCons (kVar 0) kNil)) (fun _ τ => some (⟨.S, (.int 12)⟩, τ))) (sqK (fun _ _ => none) (fun ρ τ => some (.nx ρ τ))) (fun ρ τ => some (.nx ρ τ))) (sqK (sSet (.nm 1) (kLst kNil)) (sqK (sMov 2 0) (sqK (sFor (.nm 3) 1 (kCons (kBlt .len (kCons (kVar 0) kNil)) kNil) (sqK (sApp 1 (kIte (kTru (kVar 2)) (kIdx (kVar 2) (fun _ τ => some (⟨.S, (.int 0)⟩, τ))) (fun _ τ => some (⟨.S, (.tuple [(.int 0), (.int 1)])⟩, τ)))) (sqK (sSet (.nm 2) (kCall (Φof u_rises_φs 0) (kCons (kVar 2) kNil))) (fun ρ τ => some (.nx ρ τ))))) (sqK (sRet (kBlt .tuple (kCons (kVar 1) kNil))) (fun ρ τ => some (.nx ρ τ)))))))
theorem u_rises_ms_eq : u_rises_ms = evSsK (Φof u_rises_φs) (Ψof []) 1000 u_rises_code := by kernel_rfl
noncomputable def u_rises_φ : List Ev.D → Option Ev.R := runM 4 1 u_rises_ms
/-! from_rises -/
abbrev u_from_rises_st : Stmt := topS 58
abbrev u_from_rises_N : List Str := ["row", "found", "k", "number"]
theorem u_from_rises_sc : FnScope u_from_rises_N ["row"] (defScope u_from_rises_st) := ⟨rfl, rfl, rfl, by decide +kernel, rfl, by decide +kernel, by decide +kernel⟩
def u_from_rises_fs : List Str := "rises" :: u_rises_fs
def u_from_rises_cc : Cc := ⟨u_from_rises_N, defScope u_from_rises_st, cons, u_from_rises_fs, [], blts⟩
def u_from_rises_code : List S :=
   [.ite (.cmp .gt (.blt .len [(.var 0)]) (.bin .add (.cst (.int 12)) (.cst (.int 1)))) [.nev] [],
    .set (.nm 1) (.tup []),
    .for_ (.tu [2, 3]) 3 [(.var 0)] [.set (.nm 1) (.call 9 [(.var 1), (.call 8 [(.call 2 [(.var 2)]), (.var 3)])])],
    .retv 1]
theorem u_from_rises_comp : compSs 100 u_from_rises_cc (defBody u_from_rises_st) = some u_from_rises_code := by kernel_rfl
noncomputable def u_from_rises_φs : List (List Ev.D → Option Ev.R) := u_rises_φ :: u_rises_φs
noncomputable def u_from_rises_ms : MS := (sqK (sIte (kCmp .gt (kBlt .len (kCons (kVar 0) kNil)) (kBin .add (fun _ τ => some (⟨.S, (.int 12)⟩, τ)) (fun _ τ => some (⟨.S, (.int 1)⟩, τ)))) (sqK (fun _ _ => none) (fun ρ τ => some (.nx ρ τ))) (fun ρ τ => some (.nx ρ τ))) (sqK (sSet (.nm 1) (kTup kNil)) (sqK (sFor (.tu [(2), (3)]) 3 (kCons (kVar 0) kNil) (sqK (sSet (.nm 1) (kCall (Φof u_from_rises_φs 9) (kCons (kVar 1) (kCons (kCall (Φof u_from_rises_φs 8) (kCons (kCall (Φof u_from_rises_φs 2) (kCons (kVar 2) kNil)) (kCons (kVar 3) kNil))) kNil)))) (fun ρ τ => some (.nx ρ τ)))) (sqK (sRetv 1) (fun ρ τ => some (.nx ρ τ))))))
theorem u_from_rises_ms_eq : u_from_rises_ms = evSsK (Φof u_from_rises_φs) (Ψof []) 1000 u_from_rises_code := by kernel_rfl
noncomputable def u_from_rises_φ : List Ev.D → Option Ev.R := runM 4 1 u_from_rises_ms
/-! is_whole -/
abbrev u_is_whole_st : Stmt := topS 59
abbrev u_is_whole_N : List Str := ["one", "place", "number"]
theorem u_is_whole_sc : FnScope u_is_whole_N ["one"] (defScope u_is_whole_st) := ⟨rfl, rfl, rfl, by decide +kernel, rfl, by decide +kernel, by decide +kernel⟩
def u_is_whole_fs : List Str := "from_rises" :: u_from_rises_fs
def u_is_whole_cc : Cc := ⟨u_is_whole_N, defScope u_is_whole_st, cons, u_is_whole_fs, [], blts⟩
def u_is_whole_code : List S :=
   [.for_ (.tu [1, 2]) 3 [(.call 1 [(.var 0)])] [.ite (.cmp .ne (.idx (.var 2) (.cst (.int 1))) (.cst (.int 1))) [.retv 1] []],
    .ret (.cst (.none))]
theorem u_is_whole_comp : compSs 100 u_is_whole_cc (defBody u_is_whole_st) = some u_is_whole_code := by kernel_rfl
noncomputable def u_is_whole_φs : List (List Ev.D → Option Ev.R) := u_from_rises_φ :: u_from_rises_φs
noncomputable def u_is_whole_ms : MS := (sqK (sFor (.tu [(1), (2)]) 3 (kCons (kCall (Φof u_is_whole_φs 1) (kCons (kVar 0) kNil)) kNil) (sqK (sIte (kCmp .ne (kIdx (kVar 2) (fun _ τ => some (⟨.S, (.int 1)⟩, τ))) (fun _ τ => some (⟨.S, (.int 1)⟩, τ))) (sqK (sRetv 1) (fun ρ τ => some (.nx ρ τ))) (fun ρ τ => some (.nx ρ τ))) (fun ρ τ => some (.nx ρ τ)))) (sqK (sRet (fun _ τ => some (⟨.S, (.none)⟩, τ))) (fun ρ τ => some (.nx ρ τ))))
theorem u_is_whole_ms_eq : u_is_whole_ms = evSsK (Φof u_is_whole_φs) (Ψof []) 1000 u_is_whole_code := by kernel_rfl
noncomputable def u_is_whole_φ : List Ev.D → Option Ev.R := runM 3 1 u_is_whole_ms
/-! _law_raise -/
abbrev u__law_raise_st : Stmt := topS 63
abbrev u__law_raise_N : List Str := ["base", "times_v", "found", "k"]
theorem u__law_raise_sc : FnScope u__law_raise_N ["base", "times_v"] (defScope u__law_raise_st) := ⟨rfl, rfl, rfl, by decide +kernel, rfl, by decide +kernel, by decide +kernel⟩
def u__law_raise_fs : List Str := "is_whole" :: u_is_whole_fs
def u__law_raise_cc : Cc := ⟨u__law_raise_N, defScope u__law_raise_st, cons, u__law_raise_fs, [], blts⟩
def u__law_raise_code : List S :=
   [.set (.nm 2) (.cst (.int 1)),
    .for_ (.nm 3) 1 [(.var 1)] [.set (.nm 2) (.bin .mul (.var 2) (.var 0))],
    .retv 2]
theorem u__law_raise_comp : compSs 100 u__law_raise_cc (defBody u__law_raise_st) = some u__law_raise_code := by kernel_rfl
noncomputable def u__law_raise_φs : List (List Ev.D → Option Ev.R) := u_is_whole_φ :: u_is_whole_φs
noncomputable def u__law_raise_ms : MS := (sqK (sSet (.nm 2) (fun _ τ => some (⟨.S, (.int 1)⟩, τ))) (sqK (sFor (.nm 3) 1 (kCons (kVar 1) kNil) (sqK (sSet (.nm 2) (kBin .mul (kVar 2) (kVar 0))) (fun ρ τ => some (.nx ρ τ)))) (sqK (sRetv 2) (fun ρ τ => some (.nx ρ τ)))))
theorem u__law_raise_ms_eq : u__law_raise_ms = evSsK (Φof u__law_raise_φs) (Ψof []) 1000 u__law_raise_code := by kernel_rfl
noncomputable def u__law_raise_φ : List Ev.D → Option Ev.R := runM 4 2 u__law_raise_ms
/-! law -/
abbrev u_law_st : Stmt := topS 64
abbrev u_law_N : List Str := ["script", "d", "n", "k", "under", "j", "row", "odd", "unlike", "x", "falling", "rising", "colours", "many", "poly", "numbers", "number", "part"]
theorem u_law_sc : FnScope u_law_N ["script"] (defScope u_law_st) := ⟨rfl, rfl, rfl, by decide +kernel, rfl, by decide +kernel, by decide +kernel⟩
def u_law_fs : List Str := "_law_raise" :: u__law_raise_fs
def u_law_cc : Cc := ⟨u_law_N, defScope u_law_st, cons, u_law_fs, ["_law_take"], blts⟩
def u_law_code : List S :=
   [.set (.nm 2) (.callT 0 1 [(.cst (.int 12))]),
    .set (.nm 3) (.callT 0 1 [(.cst (.int 6))]),
    .set (.nm 4) (.tup [(.tup [(.cst (.int 1)), (.cst (.int 1))])]),
    .for_ (.nm 5) 1 [(.bin .add (.var 3) (.cst (.int 1)))] [.set (.nm 4) (.call 9 [(.var 4), (.call 14 [(.tup [(.cst (.int 1)), (.neg (.cst (.int 1)))])])])],
    .ite (.cmp .ne (.idx (.call 7 [(.tup [(.tup [(.cst (.int 1)), (.cst (.int 1))])]), (.var 4), (.bin .add (.var 2) (.cst (.int 1)))]) (.var 2)) (.tup [(.call 28 [(.bin .add (.var 2) (.var 3)), (.var 3)]), (.cst (.int 1))])) [.ret (.cst (.bool false))] [],
    .ite (.dis (.cmp .ne (.blt .sum [(.comp (.bin .mul (.call 28 [(.var 2), (.var 5)]) (.call 28 [(.var 3), (.bin .sub (.cst (.int 3)) (.var 5))])) (.nm 5) 1 [(.cst (.int 4))] [])]) (.call 28 [(.bin .add (.var 2) (.var 3)), (.cst (.int 3))])) (.cmp .ne (.blt .sum [(.comp (.call 28 [(.var 2), (.var 5)]) (.nm 5) 1 [(.bin .add (.var 2) (.cst (.int 1)))] [])]) (.call 0 [(.cst (.int 2)), (.var 2)]))) [.ret (.cst (.bool false))] [],
    .set (.nm 4) (.tup [(.tup [(.cst (.int 1)), (.cst (.int 1))])]),
    .for_ (.nm 5) 2 [(.cst (.int 1)), (.cst (.int 9))] [.set (.nm 4) (.call 9 [(.var 4), (.call 14 [(.bin .add (.bin .add (.tup [(.cst (.int 1))]) (.bin .mul (.tup [(.cst (.int 0))]) (.bin .sub (.var 5) (.cst (.int 1))))) (.tup [(.neg (.cst (.int 1)))]))])])],
    .set (.nm 6) (.call 7 [(.tup [(.tup [(.cst (.int 1)), (.cst (.int 1))])]), (.var 4), (.cst (.int 9))]),
    .ite (.dis (.cmp .ne (.comp (.idx (.var 16) (.cst (.int 0))) (.nm 16) 0 [(.var 6)] []) (.comp (.call 26 [(.var 5)]) (.nm 5) 1 [(.cst (.int 9))] [])) (.cmp .ne (.blt .len [(.call 27 [(.var 2)])]) (.call 26 [(.var 2)]))) [.ret (.cst (.bool false))] [],
    .set (.nm 7) (.comp (.var 6) (.nm 6) 0 [(.call 27 [(.var 2)])] [(.cmp .eq (.blt .len [(.comp (.var 17) (.nm 17) 0 [(.var 6)] [(.cmp .eq (.bin .mod (.blt .int [(.var 17)]) (.cst (.int 2))) (.cst (.int 0)))])]) (.cst (.int 0)))]),
    .set (.nm 8) (.comp (.var 6) (.nm 6) 0 [(.call 27 [(.var 2)])] [(.cmp .eq (.blt .setlen [(.var 6)]) (.blt .len [(.var 6)]))]),
    .ite (.dis (.cmp .ne (.blt .len [(.var 7)]) (.blt .len [(.var 8)])) (.cmp .ne (.blt .len [(.comp (.var 6) (.nm 6) 0 [(.call 27 [(.var 2)])] [(.cmp .le (.blt .len [(.var 6)]) (.var 3))])]) (.blt .len [(.comp (.var 6) (.nm 6) 0 [(.call 27 [(.var 2)])] [(.dis (.cmp .eq (.blt .len [(.var 6)]) (.cst (.int 0))) (.cmp .le (.idx (.var 6) (.cst (.int 0))) (.var 3)))])]))) [.ret (.cst (.bool false))] [],
    .ite (.dis (.cmp .ne (.call 22 [(.bin .add (.var 2) (.cst (.int 1)))]) (.blt .sum [(.comp (.bin .mul (.call 22 [(.var 5)]) (.call 22 [(.bin .sub (.var 2) (.var 5))])) (.nm 5) 1 [(.bin .add (.var 2) (.cst (.int 1)))] [])])) (.cmp .ne (.call 22 [(.var 2)]) (.bin .sub (.call 28 [(.bin .mul (.cst (.int 2)) (.var 2)), (.var 2)]) (.call 28 [(.bin .mul (.cst (.int 2)) (.var 2)), (.bin .add (.var 2) (.cst (.int 1)))])))) [.ret (.cst (.bool false))] [],
    .set (.nm 4) (.tup [(.tup [(.cst (.int 1)), (.cst (.int 1))])]),
    .for_ (.nm 5) 2 [(.cst (.int 1)), (.bin .add (.var 3) (.cst (.int 1)))] [.set (.nm 4) (.call 9 [(.var 4), (.call 14 [(.tup [(.cst (.int 1)), (.bin .sub (.cst (.int 0)) (.var 5))])])])],
    .set (.nm 6) (.call 7 [(.call 14 [(.bin .add (.bin .mul (.tup [(.cst (.int 0))]) (.var 3)) (.tup [(.cst (.int 1))]))]), (.var 4), (.cst (.int 12))]),
    .ite (.cmp .ne (.comp (.idx (.var 16) (.cst (.int 0))) (.nm 16) 0 [(.var 6)] []) (.comp (.call 25 [(.var 5), (.var 3)]) (.nm 5) 1 [(.cst (.int 12))] [])) [.ret (.cst (.bool false))] [],
    .set (.nm 9) (.callT 0 1 [(.cst (.int 9))]),
    .set (.nm 10) (.lst [(.cst (.int 1))]),
    .set (.nm 11) (.cst (.int 1)),
    .for_ (.nm 5) 1 [(.var 2)] [.app 10 (.bin .mul (.idx (.var 10) (.neg (.cst (.int 1)))) (.bin .sub (.var 9) (.var 5))),
    .set (.nm 11) (.bin .mul (.var 11) (.bin .add (.var 9) (.var 5)))],
    .ite (.dis (.cmp .ne (.blt .sum [(.comp (.bin .mul (.call 25 [(.var 2), (.var 5)]) (.idx (.var 10) (.var 5))) (.nm 5) 1 [(.bin .add (.var 2) (.cst (.int 1)))] [])]) (.call 0 [(.var 9), (.var 2)])) (.cmp .ne (.blt .sum [(.comp (.bin .mul (.call 24 [(.var 2), (.var 5)]) (.call 0 [(.var 9), (.var 5)])) (.nm 5) 1 [(.bin .add (.var 2) (.cst (.int 1)))] [])]) (.var 11))) [.ret (.cst (.bool false))] [],
    .ite (.dis (.cmp .ne (.blt .sum [(.comp (.bin .mul (.bin .mul (.call 25 [(.var 2), (.var 5)]) (.call 24 [(.var 5), (.var 3)])) (.call 0 [(.neg (.cst (.int 1))), (.bin .sub (.var 2) (.var 5))])) (.nm 5) 1 [(.bin .add (.var 2) (.cst (.int 1)))] [])]) (.blt .int [(.cmp .eq (.var 2) (.var 3))])) (.cmp .ne (.blt .sum [(.comp (.call 24 [(.var 2), (.var 5)]) (.nm 5) 1 [(.bin .add (.var 2) (.cst (.int 1)))] [])]) (.call 29 [(.var 2)]))) [.ret (.cst (.bool false))] [],
    .ite (.dis (.cmp .ne (.blt .sum [(.comp (.bin .mul (.call 28 [(.var 2), (.var 5)]) (.call 23 [(.bin .sub (.var 2) (.var 5))])) (.nm 5) 1 [(.bin .add (.var 2) (.cst (.int 1)))] [])]) (.call 29 [(.var 2)])) (.cmp .ne (.call 23 [(.bin .add (.var 2) (.cst (.int 2)))]) (.bin .mul (.bin .add (.var 2) (.cst (.int 1))) (.bin .add (.call 23 [(.bin .add (.var 2) (.cst (.int 1)))]) (.call 23 [(.var 2)]))))) [.ret (.cst (.bool false))] [],
    .set (.nm 12) (.bin .add (.cst (.int 1)) (.callT 0 1 [(.cst (.int 3))])),
    .set (.nm 13) (.bin .add (.cst (.int 1)) (.callT 0 1 [(.cst (.int 12))])),
    .ite (.cmp .ne (.bin .mul (.var 13) (.call 21 [(.var 13), (.var 12)])) (.blt .sum [(.comp (.bin .mul (.call 32 [(.bin .fdiv (.var 13) (.var 5))]) (.call 0 [(.var 12), (.var 5)])) (.nm 5) 0 [(.call 33 [(.var 13)])] [])])) [.ret (.cst (.bool false))] [],
    .set (.nm 14) (.call 5 [(.var 3)]),
    .ite (.dis (.notN (.call 1 [(.var 14)])) (.cmp .ne (.call 3 [(.var 14)]) (.blt .tuple [(.comp (.tup [(.blt .int [(.cmp .eq (.var 5) (.var 3))]), (.cst (.int 1))]) (.nm 5) 1 [(.bin .add (.var 3) (.cst (.int 1)))] [])]))) [.ret (.cst (.bool false))] [],
    .set (.nm 15) (.blt .tuple [(.bin .add (.comp (.tup [(.bin .sub (.callT 0 1 [(.cst (.int 9))]) (.cst (.int 4))), (.cst (.int 1))]) (.nm 5) 1 [(.var 3)] []) (.lst [(.tup [(.cst (.int 1)), (.cst (.int 1))])]))]),
    .ret (.con (.cmp .eq (.call 3 [(.call 2 [(.var 15)])]) (.var 15)) (.isN (.call 1 [(.call 2 [(.var 15)])])))]
theorem u_law_comp : compSs 100 u_law_cc ((defBody u_law_st).drop 1) = some u_law_code := by kernel_rfl
noncomputable def u_law_φs : List (List Ev.D → Option Ev.R) := u__law_raise_φ :: u__law_raise_φs
noncomputable def segA : MS := (sqK (sSet (.nm 4) (kTup (kCons (kTup (kCons (fun _ τ => some (⟨.S, (.int 1)⟩, τ)) (kCons (fun _ τ => some (⟨.S, (.int 1)⟩, τ)) kNil))) kNil))) (sqK (sFor (.nm 5) 1 (kCons (kBin .add (kVar 3) (fun _ τ => some (⟨.S, (.int 1)⟩, τ))) kNil) (sqK (sSet (.nm 4) (kCall (Φof u_law_φs 9) (kCons (kVar 4) (kCons (kCall (Φof u_law_φs 14) (kCons (kTup (kCons (fun _ τ => some (⟨.S, (.int 1)⟩, τ)) (kCons (kNeg (fun _ τ => some (⟨.S, (.int 1)⟩, τ))) kNil))) kNil)) kNil)))) (fun ρ τ => some (.nx ρ τ)))) (sqK (sIte (kCmp .ne (kIdx (kCall (Φof u_law_φs 7) (kCons (kTup (kCons (kTup (kCons (fun _ τ => some (⟨.S, (.int 1)⟩, τ)) (kCons (fun _ τ => some (⟨.S, (.int 1)⟩, τ)) kNil))) kNil)) (kCons (kVar 4) (kCons (kBin .add (kVar 2) (fun _ τ => some (⟨.S, (.int 1)⟩, τ))) kNil)))) (kVar 2)) (kTup (kCons (kCall (Φof u_law_φs 28) (kCons (kBin .add (kVar 2) (kVar 3)) (kCons (kVar 3) kNil))) (kCons (fun _ τ => some (⟨.S, (.int 1)⟩, τ)) kNil)))) (sqK (sRet (fun _ τ => some (⟨.S, (.bool false)⟩, τ))) (fun ρ τ => some (.nx ρ τ))) (fun ρ τ => some (.nx ρ τ))) (sqK (sIte (kDis (kCmp .ne (kBlt .sum (kCons (kComp (kBin .mul (kCall (Φof u_law_φs 28) (kCons (kVar 2) (kCons (kVar 5) kNil))) (kCall (Φof u_law_φs 28) (kCons (kVar 3) (kCons (kBin .sub (fun _ τ => some (⟨.S, (.int 3)⟩, τ)) (kVar 5)) kNil)))) (.nm 5) 1 (kCons (fun _ τ => some (⟨.S, (.int 4)⟩, τ)) kNil) kNil) kNil)) (kCall (Φof u_law_φs 28) (kCons (kBin .add (kVar 2) (kVar 3)) (kCons (fun _ τ => some (⟨.S, (.int 3)⟩, τ)) kNil)))) (kCmp .ne (kBlt .sum (kCons (kComp (kCall (Φof u_law_φs 28) (kCons (kVar 2) (kCons (kVar 5) kNil))) (.nm 5) 1 (kCons (kBin .add (kVar 2) (fun _ τ => some (⟨.S, (.int 1)⟩, τ))) kNil) kNil) kNil)) (kCall (Φof u_law_φs 0) (kCons (fun _ τ => some (⟨.S, (.int 2)⟩, τ)) (kCons (kVar 2) kNil))))) (sqK (sRet (fun _ τ => some (⟨.S, (.bool false)⟩, τ))) (fun ρ τ => some (.nx ρ τ))) (fun ρ τ => some (.nx ρ τ))) (fun ρ τ => some (.nx ρ τ))))))
theorem segA_eq : segA = evSsK (Φof u_law_φs) (Ψof [takeF]) 1000 ((u_law_code.drop 2).take 4) := by kernel_rfl
noncomputable def segB : MS := (sqK (sSet (.nm 4) (kTup (kCons (kTup (kCons (fun _ τ => some (⟨.S, (.int 1)⟩, τ)) (kCons (fun _ τ => some (⟨.S, (.int 1)⟩, τ)) kNil))) kNil))) (sqK (sFor (.nm 5) 2 (kCons (fun _ τ => some (⟨.S, (.int 1)⟩, τ)) (kCons (fun _ τ => some (⟨.S, (.int 9)⟩, τ)) kNil)) (sqK (sSet (.nm 4) (kCall (Φof u_law_φs 9) (kCons (kVar 4) (kCons (kCall (Φof u_law_φs 14) (kCons (kBin .add (kBin .add (kTup (kCons (fun _ τ => some (⟨.S, (.int 1)⟩, τ)) kNil)) (kBin .mul (kTup (kCons (fun _ τ => some (⟨.S, (.int 0)⟩, τ)) kNil)) (kBin .sub (kVar 5) (fun _ τ => some (⟨.S, (.int 1)⟩, τ))))) (kTup (kCons (kNeg (fun _ τ => some (⟨.S, (.int 1)⟩, τ))) kNil))) kNil)) kNil)))) (fun ρ τ => some (.nx ρ τ)))) (sqK (sSet (.nm 6) (kCall (Φof u_law_φs 7) (kCons (kTup (kCons (kTup (kCons (fun _ τ => some (⟨.S, (.int 1)⟩, τ)) (kCons (fun _ τ => some (⟨.S, (.int 1)⟩, τ)) kNil))) kNil)) (kCons (kVar 4) (kCons (fun _ τ => some (⟨.S, (.int 9)⟩, τ)) kNil))))) (sqK (sIte (kDis (kCmp .ne (kComp (kIdx (kVar 16) (fun _ τ => some (⟨.S, (.int 0)⟩, τ))) (.nm 16) 0 (kCons (kVar 6) kNil) kNil) (kComp (kCall (Φof u_law_φs 26) (kCons (kVar 5) kNil)) (.nm 5) 1 (kCons (fun _ τ => some (⟨.S, (.int 9)⟩, τ)) kNil) kNil)) (kCmp .ne (kBlt .len (kCons (kCall (Φof u_law_φs 27) (kCons (kVar 2) kNil)) kNil)) (kCall (Φof u_law_φs 26) (kCons (kVar 2) kNil)))) (sqK (sRet (fun _ τ => some (⟨.S, (.bool false)⟩, τ))) (fun ρ τ => some (.nx ρ τ))) (fun ρ τ => some (.nx ρ τ))) (fun ρ τ => some (.nx ρ τ))))))
theorem segB_eq : segB = evSsK (Φof u_law_φs) (Ψof [takeF]) 1000 ((u_law_code.drop 6).take 4) := by kernel_rfl
noncomputable def segD : MS := (sqK (sSet (.nm 7) (kComp (kVar 6) (.nm 6) 0 (kCons (kCall (Φof u_law_φs 27) (kCons (kVar 2) kNil)) kNil) (kCons (kCmp .eq (kBlt .len (kCons (kComp (kVar 17) (.nm 17) 0 (kCons (kVar 6) kNil) (kCons (kCmp .eq (kBin .mod (kBlt .int (kCons (kVar 17) kNil)) (fun _ τ => some (⟨.S, (.int 2)⟩, τ))) (fun _ τ => some (⟨.S, (.int 0)⟩, τ))) kNil)) kNil)) (fun _ τ => some (⟨.S, (.int 0)⟩, τ))) kNil))) (sqK (sSet (.nm 8) (kComp (kVar 6) (.nm 6) 0 (kCons (kCall (Φof u_law_φs 27) (kCons (kVar 2) kNil)) kNil) (kCons (kCmp .eq (kBlt .setlen (kCons (kVar 6) kNil)) (kBlt .len (kCons (kVar 6) kNil))) kNil))) (sqK (sIte (kDis (kCmp .ne (kBlt .len (kCons (kVar 7) kNil)) (kBlt .len (kCons (kVar 8) kNil))) (kCmp .ne (kBlt .len (kCons (kComp (kVar 6) (.nm 6) 0 (kCons (kCall (Φof u_law_φs 27) (kCons (kVar 2) kNil)) kNil) (kCons (kCmp .le (kBlt .len (kCons (kVar 6) kNil)) (kVar 3)) kNil)) kNil)) (kBlt .len (kCons (kComp (kVar 6) (.nm 6) 0 (kCons (kCall (Φof u_law_φs 27) (kCons (kVar 2) kNil)) kNil) (kCons (kDis (kCmp .eq (kBlt .len (kCons (kVar 6) kNil)) (fun _ τ => some (⟨.S, (.int 0)⟩, τ))) (kCmp .le (kIdx (kVar 6) (fun _ τ => some (⟨.S, (.int 0)⟩, τ))) (kVar 3))) kNil)) kNil)))) (sqK (sRet (fun _ τ => some (⟨.S, (.bool false)⟩, τ))) (fun ρ τ => some (.nx ρ τ))) (fun ρ τ => some (.nx ρ τ))) (fun ρ τ => some (.nx ρ τ)))))
theorem segD_eq : segD = evSsK (Φof u_law_φs) (Ψof [takeF]) 1000 ((u_law_code.drop 10).take 3) := by kernel_rfl
noncomputable def segE : MS := (sqK (sIte (kDis (kCmp .ne (kCall (Φof u_law_φs 22) (kCons (kBin .add (kVar 2) (fun _ τ => some (⟨.S, (.int 1)⟩, τ))) kNil)) (kBlt .sum (kCons (kComp (kBin .mul (kCall (Φof u_law_φs 22) (kCons (kVar 5) kNil)) (kCall (Φof u_law_φs 22) (kCons (kBin .sub (kVar 2) (kVar 5)) kNil))) (.nm 5) 1 (kCons (kBin .add (kVar 2) (fun _ τ => some (⟨.S, (.int 1)⟩, τ))) kNil) kNil) kNil))) (kCmp .ne (kCall (Φof u_law_φs 22) (kCons (kVar 2) kNil)) (kBin .sub (kCall (Φof u_law_φs 28) (kCons (kBin .mul (fun _ τ => some (⟨.S, (.int 2)⟩, τ)) (kVar 2)) (kCons (kVar 2) kNil))) (kCall (Φof u_law_φs 28) (kCons (kBin .mul (fun _ τ => some (⟨.S, (.int 2)⟩, τ)) (kVar 2)) (kCons (kBin .add (kVar 2) (fun _ τ => some (⟨.S, (.int 1)⟩, τ))) kNil)))))) (sqK (sRet (fun _ τ => some (⟨.S, (.bool false)⟩, τ))) (fun ρ τ => some (.nx ρ τ))) (fun ρ τ => some (.nx ρ τ))) (fun ρ τ => some (.nx ρ τ)))
theorem segE_eq : segE = evSsK (Φof u_law_φs) (Ψof [takeF]) 1000 ((u_law_code.drop 13).take 1) := by kernel_rfl
noncomputable def segF : MS := (sqK (sSet (.nm 4) (kTup (kCons (kTup (kCons (fun _ τ => some (⟨.S, (.int 1)⟩, τ)) (kCons (fun _ τ => some (⟨.S, (.int 1)⟩, τ)) kNil))) kNil))) (sqK (sFor (.nm 5) 2 (kCons (fun _ τ => some (⟨.S, (.int 1)⟩, τ)) (kCons (kBin .add (kVar 3) (fun _ τ => some (⟨.S, (.int 1)⟩, τ))) kNil)) (sqK (sSet (.nm 4) (kCall (Φof u_law_φs 9) (kCons (kVar 4) (kCons (kCall (Φof u_law_φs 14) (kCons (kTup (kCons (fun _ τ => some (⟨.S, (.int 1)⟩, τ)) (kCons (kBin .sub (fun _ τ => some (⟨.S, (.int 0)⟩, τ)) (kVar 5)) kNil))) kNil)) kNil)))) (fun ρ τ => some (.nx ρ τ)))) (sqK (sSet (.nm 6) (kCall (Φof u_law_φs 7) (kCons (kCall (Φof u_law_φs 14) (kCons (kBin .add (kBin .mul (kTup (kCons (fun _ τ => some (⟨.S, (.int 0)⟩, τ)) kNil)) (kVar 3)) (kTup (kCons (fun _ τ => some (⟨.S, (.int 1)⟩, τ)) kNil))) kNil)) (kCons (kVar 4) (kCons (fun _ τ => some (⟨.S, (.int 12)⟩, τ)) kNil))))) (sqK (sIte (kCmp .ne (kComp (kIdx (kVar 16) (fun _ τ => some (⟨.S, (.int 0)⟩, τ))) (.nm 16) 0 (kCons (kVar 6) kNil) kNil) (kComp (kCall (Φof u_law_φs 25) (kCons (kVar 5) (kCons (kVar 3) kNil))) (.nm 5) 1 (kCons (fun _ τ => some (⟨.S, (.int 12)⟩, τ)) kNil) kNil)) (sqK (sRet (fun _ τ => some (⟨.S, (.bool false)⟩, τ))) (fun ρ τ => some (.nx ρ τ))) (fun ρ τ => some (.nx ρ τ))) (fun ρ τ => some (.nx ρ τ))))))
theorem segF_eq : segF = evSsK (Φof u_law_φs) (Ψof [takeF]) 1000 ((u_law_code.drop 14).take 4) := by kernel_rfl
noncomputable def segG : MS := (sqK (sSet (.nm 10) (kLst (kCons (fun _ τ => some (⟨.S, (.int 1)⟩, τ)) kNil))) (sqK (sSet (.nm 11) (fun _ τ => some (⟨.S, (.int 1)⟩, τ))) (sqK (sFor (.nm 5) 1 (kCons (kVar 2) kNil) (sqK (sApp 10 (kBin .mul (kIdx (kVar 10) (kNeg (fun _ τ => some (⟨.S, (.int 1)⟩, τ)))) (kBin .sub (kVar 9) (kVar 5)))) (sqK (sSet (.nm 11) (kBin .mul (kVar 11) (kBin .add (kVar 9) (kVar 5)))) (fun ρ τ => some (.nx ρ τ))))) (sqK (sIte (kDis (kCmp .ne (kBlt .sum (kCons (kComp (kBin .mul (kCall (Φof u_law_φs 25) (kCons (kVar 2) (kCons (kVar 5) kNil))) (kIdx (kVar 10) (kVar 5))) (.nm 5) 1 (kCons (kBin .add (kVar 2) (fun _ τ => some (⟨.S, (.int 1)⟩, τ))) kNil) kNil) kNil)) (kCall (Φof u_law_φs 0) (kCons (kVar 9) (kCons (kVar 2) kNil)))) (kCmp .ne (kBlt .sum (kCons (kComp (kBin .mul (kCall (Φof u_law_φs 24) (kCons (kVar 2) (kCons (kVar 5) kNil))) (kCall (Φof u_law_φs 0) (kCons (kVar 9) (kCons (kVar 5) kNil)))) (.nm 5) 1 (kCons (kBin .add (kVar 2) (fun _ τ => some (⟨.S, (.int 1)⟩, τ))) kNil) kNil) kNil)) (kVar 11))) (sqK (sRet (fun _ τ => some (⟨.S, (.bool false)⟩, τ))) (fun ρ τ => some (.nx ρ τ))) (fun ρ τ => some (.nx ρ τ))) (fun ρ τ => some (.nx ρ τ))))))
theorem segG_eq : segG = evSsK (Φof u_law_φs) (Ψof [takeF]) 1000 ((u_law_code.drop 19).take 4) := by kernel_rfl
noncomputable def segH : MS := (sqK (sIte (kDis (kCmp .ne (kBlt .sum (kCons (kComp (kBin .mul (kBin .mul (kCall (Φof u_law_φs 25) (kCons (kVar 2) (kCons (kVar 5) kNil))) (kCall (Φof u_law_φs 24) (kCons (kVar 5) (kCons (kVar 3) kNil)))) (kCall (Φof u_law_φs 0) (kCons (kNeg (fun _ τ => some (⟨.S, (.int 1)⟩, τ))) (kCons (kBin .sub (kVar 2) (kVar 5)) kNil)))) (.nm 5) 1 (kCons (kBin .add (kVar 2) (fun _ τ => some (⟨.S, (.int 1)⟩, τ))) kNil) kNil) kNil)) (kBlt .int (kCons (kCmp .eq (kVar 2) (kVar 3)) kNil))) (kCmp .ne (kBlt .sum (kCons (kComp (kCall (Φof u_law_φs 24) (kCons (kVar 2) (kCons (kVar 5) kNil))) (.nm 5) 1 (kCons (kBin .add (kVar 2) (fun _ τ => some (⟨.S, (.int 1)⟩, τ))) kNil) kNil) kNil)) (kCall (Φof u_law_φs 29) (kCons (kVar 2) kNil)))) (sqK (sRet (fun _ τ => some (⟨.S, (.bool false)⟩, τ))) (fun ρ τ => some (.nx ρ τ))) (fun ρ τ => some (.nx ρ τ))) (fun ρ τ => some (.nx ρ τ)))
theorem segH_eq : segH = evSsK (Φof u_law_φs) (Ψof [takeF]) 1000 ((u_law_code.drop 23).take 1) := by kernel_rfl
noncomputable def segI : MS := (sqK (sIte (kDis (kCmp .ne (kBlt .sum (kCons (kComp (kBin .mul (kCall (Φof u_law_φs 28) (kCons (kVar 2) (kCons (kVar 5) kNil))) (kCall (Φof u_law_φs 23) (kCons (kBin .sub (kVar 2) (kVar 5)) kNil))) (.nm 5) 1 (kCons (kBin .add (kVar 2) (fun _ τ => some (⟨.S, (.int 1)⟩, τ))) kNil) kNil) kNil)) (kCall (Φof u_law_φs 29) (kCons (kVar 2) kNil))) (kCmp .ne (kCall (Φof u_law_φs 23) (kCons (kBin .add (kVar 2) (fun _ τ => some (⟨.S, (.int 2)⟩, τ))) kNil)) (kBin .mul (kBin .add (kVar 2) (fun _ τ => some (⟨.S, (.int 1)⟩, τ))) (kBin .add (kCall (Φof u_law_φs 23) (kCons (kBin .add (kVar 2) (fun _ τ => some (⟨.S, (.int 1)⟩, τ))) kNil)) (kCall (Φof u_law_φs 23) (kCons (kVar 2) kNil)))))) (sqK (sRet (fun _ τ => some (⟨.S, (.bool false)⟩, τ))) (fun ρ τ => some (.nx ρ τ))) (fun ρ τ => some (.nx ρ τ))) (fun ρ τ => some (.nx ρ τ)))
theorem segI_eq : segI = evSsK (Φof u_law_φs) (Ψof [takeF]) 1000 ((u_law_code.drop 24).take 1) := by kernel_rfl
noncomputable def segJ : MS := (sqK (sIte (kCmp .ne (kBin .mul (kVar 13) (kCall (Φof u_law_φs 21) (kCons (kVar 13) (kCons (kVar 12) kNil)))) (kBlt .sum (kCons (kComp (kBin .mul (kCall (Φof u_law_φs 32) (kCons (kBin .fdiv (kVar 13) (kVar 5)) kNil)) (kCall (Φof u_law_φs 0) (kCons (kVar 12) (kCons (kVar 5) kNil)))) (.nm 5) 0 (kCons (kCall (Φof u_law_φs 33) (kCons (kVar 13) kNil)) kNil) kNil) kNil))) (sqK (sRet (fun _ τ => some (⟨.S, (.bool false)⟩, τ))) (fun ρ τ => some (.nx ρ τ))) (fun ρ τ => some (.nx ρ τ))) (fun ρ τ => some (.nx ρ τ)))
theorem segJ_eq : segJ = evSsK (Φof u_law_φs) (Ψof [takeF]) 1000 ((u_law_code.drop 27).take 1) := by kernel_rfl
noncomputable def segK : MS := (sqK (sSet (.nm 14) (kCall (Φof u_law_φs 5) (kCons (kVar 3) kNil))) (sqK (sIte (kDis (kNotN (kCall (Φof u_law_φs 1) (kCons (kVar 14) kNil))) (kCmp .ne (kCall (Φof u_law_φs 3) (kCons (kVar 14) kNil)) (kBlt .tuple (kCons (kComp (kTup (kCons (kBlt .int (kCons (kCmp .eq (kVar 5) (kVar 3)) kNil)) (kCons (fun _ τ => some (⟨.S, (.int 1)⟩, τ)) kNil))) (.nm 5) 1 (kCons (kBin .add (kVar 3) (fun _ τ => some (⟨.S, (.int 1)⟩, τ))) kNil) kNil) kNil)))) (sqK (sRet (fun _ τ => some (⟨.S, (.bool false)⟩, τ))) (fun ρ τ => some (.nx ρ τ))) (fun ρ τ => some (.nx ρ τ))) (fun ρ τ => some (.nx ρ τ))))
theorem segK_eq : segK = evSsK (Φof u_law_φs) (Ψof [takeF]) 1000 ((u_law_code.drop 28).take 2) := by kernel_rfl
/-! the tape -/
abbrev beg_st : Stmt := topS 61
theorem beg_sc : FnScope ["script", "seed", "cell"] ["script"] (defScope beg_st) := ⟨rfl, rfl, rfl, by decide +kernel, rfl, by decide +kernel, by decide +kernel⟩
abbrev tak_st : Stmt := topS 62
theorem tak_sc : FnScope ["d", "many", "small", "digit"] ["d", "many"] (defScope tak_st) := ⟨rfl, rfl, rfl, by decide +kernel, rfl, by decide +kernel, by decide +kernel⟩
section
variable {P : Program} {w : World} {K : PySem.W.Frag} {mg : Str → Option Value} {base : Heap}
theorem beg_ok {f : Addr} {fd : FuncData} (F : Fun K "_law_begin" "_law_begin" beg_st f fd) (mi : mg "int" = none) (ml : mg "list" = none) : FnOk P w K mg base CX0 1 f fd ["script"] (spBegin K) := by
  refine F.ok beg_sc (fun vs H Q E h => ?_) (fun cdv A outer s H vs Q E hr h => ⟨tBegin K, ?_, begin_run rfl h⟩)
  · obtain ⟨a, ns, rfl, _⟩ := h
    rfl
  · exact pss_cons (ps_set (i := 1) beg_sc.nd rfl (.inl rfl) pe_int)
      (pss_cons (ps_for PassesOwn.never rfl (pi_list (pv 0)) (pg_name (i := 2) beg_sc.nd rfl (.inl rfl)) (pss_one (ps_set (i := 1) beg_sc.nd rfl (.inl rfl)
        (pe_op op_modN (pe_op op_add (pe_op op_add (pe_op op_mul (pv 1) pe_int) (pe_op op_modN (pe_callTy call_int1 (by rfl) mi PyProof.Rows.boot_int (pa_cons (pv 2) pa_nil)) pe_int)) pe_int) pe_int))))
      (pss_one (ps_ret (pe_lst (pa_cons (pe_callTy call_list_of (by rfl) ml PyProof.Rows.boot_list (pa_cons (pv 0) pa_nil)) (pa_cons pe_int (pa_cons pe_int (pa_cons (pv 1) pa_nil))))))))
theorem tak_ok {f : Addr} {fd : FuncData} (F : Fun K "_law_take" "_law_take" tak_st f fd) (mi : mg "int" = none) (ma : mg "abs" = none) (ml : mg "len" = none) : FnOk P w K mg base CX0 1 f fd ["d", "many"] (spT K takeF) := by
  refine F.ok tak_sc (fun vs H Q E h => ?_) (fun cdv A outer s H vs Q E hr h => ⟨tTake K, ?_, ?_⟩)
  · obtain ⟨a, b, vs', ds, τ, r, τ', rfl, _, h1, h2, _⟩ := h
    unfold takeF at h2
    split at h2
    · show vs'.length + 1 = 2
      rw [h1.length]
      rfl
    · cases h2
  · have ix : ∀ {X : Cx} {a : Expr} {ta : TE} {i : Int} {k : Nat} {p q : Pos}, PE X a ta → PE X (.Subscript a (.Constant (.int i) k p) q) (tOp (rIx X.K) ta (tC (.int i))) := fun h => pe_ix ix_seq h pe_int (fun _ _ => rfl)
    exact pss_cons (ps_if (PW.pt (pw_and (pt_cmpR op_eq (ix (pv 0)) pe_int (nomark _)) (pw_and1 (pt_cmpR op_lt (ix (pv 0)) (pe_callB call_len_seq (by rfl) ml PySem.boot_len (pa_cons (ix (pv 0)) pa_nil)) (nomark _)))))
        (pss_cons (ps_asg (pe_callB call_abs (by rfl) ma PyProof.Rows.boot_abs (pa_cons (pe_callTy call_int1 (by rfl) mi PyProof.Rows.boot_int (pa_cons (pe_ix ix_seq (ix (pv 0)) (ix (pv 0)) (fun _ _ => rfl)) pa_nil)) pa_nil)) (pg_sub (pv 0) pe_int set_list))
        (pss_cons (ps_asg (pe_op op_add (ix (pv 0)) pe_int) (pg_sub (pv 0) pe_int set_list))
        (pss_one (ps_if (pt_cmpR op_lt (ix (pv 0)) (pe_op op_pow pe_int pe_int) (nomark _))
          (pss_cons (ps_set (i := 2) tak_sc.nd rfl (.inl rfl) (pe_callTy call_int1 (by rfl) mi PyProof.Rows.boot_int (pa_cons (ix (pv 0)) pa_nil)))
          (pss_cons (ps_asg pe_int (pg_sub (pv 0) pe_int set_list))
          (pss_one (ps_ret (pe_op op_modN (pv 2) (pv 1)))))) pss_nil)))) pss_nil)
      (pss_cons (ps_if (pt_cmpR op_gt (ix (pv 0)) pe_int (nomark _))
        (pss_cons (ps_set (i := 3) tak_sc.nd rfl (.inl rfl) (pe_op op_modN (pe_callTy call_int1 (by rfl) mi PyProof.Rows.boot_int (pa_cons (ix (pv 0)) pa_nil)) (pv 1)))
        (pss_cons (ps_asg (pe_op op_fdivN (pe_callTy call_int1 (by rfl) mi PyProof.Rows.boot_int (pa_cons (ix (pv 0)) pa_nil)) (pv 1)) (pg_sub (pv 0) pe_int set_list))
        (pss_one (ps_ret (pv 3))))) pss_nil)
      (pss_cons (ps_asg (pe_op op_modN (pe_callTy call_int1 (by rfl) mi PyProof.Rows.boot_int (pa_cons (pe_op op_add (pe_op op_mul (ix (pv 0)) pe_int) pe_int) pa_nil)) pe_int) (pg_sub (pv 0) pe_int set_list))
      (pss_one (ps_ret (pe_op op_modN (pe_callTy call_int1 (by rfl) mi PyProof.Rows.boot_int (pa_cons (pe_op op_fdivN (ix (pv 0)) pe_int) pa_nil)) (pv 1))))))
  · obtain ⟨a, b, vs', ds, τ, r, τ', rfl, ht, h1, h2, hcl, hQ⟩ := h
    unfold takeF at h2
    split at h2
    · rename_i m
      split at h2
      · rename_i hm
        cases h2
        obtain ⟨x, r, rfl, e2, rfl⟩ := h1
        have e2' : x = V.int m := e2
        subst e2'
        exact take_run ht hm fun H' s1 t1 => hQ _ H' s1 t1 rfl
      · cases h2
    · cases h2
end
/-! the law, from what its statements come to -/
def LawHolds : Prop := ∀ (ns : List Int) (seed : Int), ∃ M τ', evSs (Φof u_law_φs) (Ψof [takeF]) M (.un :: .tp :: List.replicate 16 .un) ⟨ns, 0, 0, seed⟩ u_law_code = some (.rt ⟨.S, .bool true⟩ τ')
set_option maxHeartbeats 0 in
theorem all_mk {l : PySem.W.OpenLaw} {w : World} {K : PySem.W.Frag} {h : Heap} {mg : Str → Option Value} {fa f0 f1 f2 f3 f4 f5 f6 f7 f8 f9 f10 f11 f12 f13 f14 f15 f16 f17 f18 f19 f20 f21 f22 f23 f24 f25 f26 f27 f28 f29 f30 f31 f32 f33 f34 f35 f36 f37 f38 f39 f40 f41 f42 f43 f44 f45 : Addr} (hL : LawHolds) (X : K.In h) (G : h.Ns mainGlobals mg) (hfa : mg "law" = some (.ref fa))
    {od0 an0 od1 an1 od2 an2 od3 an3 od4 an4 od5 an5 od6 an6 od7 an7 od8 an8 od9 an9 od10 an10 od11 an11 od12 an12 od13 an13 od14 an14 od15 an15 od16 an16 od17 an17 od18 an18 od19 an19 od20 an20 od21 an21 od22 an22 od23 an23 od24 an24 od25 an25 od26 an26 od27 an27 od28 an28 od29 an29 od30 an30 od31 an31 od32 an32 od33 an33 od34 an34 od35 an35 od36 an36 od37 an37 od38 an38 od39 an39 od40 an40 od41 an41 od42 an42 od43 an43 od44 an44 od45 an45 : Option Addr} {sl0 sl1 sl2 sl3 sl4 sl5 sl6 sl7 sl8 sl9 sl10 sl11 sl12 sl13 sl14 sl15 sl16 sl17 sl18 sl19 sl20 sl21 sl22 sl23 sl24 sl25 sl26 sl27 sl28 sl29 sl30 sl31 sl32 sl33 sl34 sl35 sl36 sl37 sl38 sl39 sl40 sl41 sl42 sl43 sl44 sl45 : Array (Option Value)} {oc0 kV0 dc0 pm0 cd0 ct0 oc1 kV1 dc1 pm1 cd1 ct1 oc2 kV2 dc2 pm2 cd2 ct2 oc3 kV3 dc3 pm3 cd3 ct3 oc4 kV4 dc4 pm4 cd4 ct4 oc5 kV5 dc5 pm5 cd5 ct5 oc6 kV6 dc6 pm6 cd6 ct6 oc7 kV7 dc7 pm7 cd7 ct7 oc8 kV8 dc8 pm8 cd8 ct8 oc9 kV9 dc9 pm9 cd9 ct9 oc10 kV10 dc10 pm10 cd10 ct10 oc11 kV11 dc11 pm11 cd11 ct11 oc12 kV12 dc12 pm12 cd12 ct12 oc13 kV13 dc13 pm13 cd13 ct13 oc14 kV14 dc14 pm14 cd14 ct14 oc15 kV15 dc15 pm15 cd15 ct15 oc16 kV16 dc16 pm16 cd16 ct16 oc17 kV17 dc17 pm17 cd17 ct17 oc18 kV18 dc18 pm18 cd18 ct18 oc19 kV19 dc19 pm19 cd19 ct19 oc20 kV20 dc20 pm20 cd20 ct20 oc21 kV21 dc21 pm21 cd21 ct21 oc22 kV22 dc22 pm22 cd22 ct22 oc23 kV23 dc23 pm23 cd23 ct23 oc24 kV24 dc24 pm24 cd24 ct24 oc25 kV25 dc25 pm25 cd25 ct25 oc26 kV26 dc26 pm26 cd26 ct26 oc27 kV27 dc27 pm27 cd27 ct27 oc28 kV28 dc28 pm28 cd28 ct28 oc29 kV29 dc29 pm29 cd29 ct29 oc30 kV30 dc30 pm30 cd30 ct30 oc31 kV31 dc31 pm31 cd31 ct31 oc32 kV32 dc32 pm32 cd32 ct32 oc33 kV33 dc33 pm33 cd33 ct33 oc34 kV34 dc34 pm34 cd34 ct34 oc35 kV35 dc35 pm35 cd35 ct35 oc36 kV36 dc36 pm36 cd36 ct36 oc37 kV37 dc37 pm37 cd37 ct37 oc38 kV38 dc38 pm38 cd38 ct38 oc39 kV39 dc39 pm39 cd39 ct39 oc40 kV40 dc40 pm40 cd40 ct40 oc41 kV41 dc41 pm41 cd41 ct41 oc42 kV42 dc42 pm42 cd42 ct42 oc43 kV43 dc43 pm43 cd43 ct43 oc44 kV44 dc44 pm44 cd44 ct44 oc45 kV45 dc45 pm45 cd45 ct45 : Value}
    (a0 : PySem.W.nsIn K mainGlobals "common" = some (some (.ref f0)))
    (l0 : K.lookup f0 = some ⟨oc0, od0, .func (PySem.W.fnOf "common" "common" (defArgs u_common_st) (defBody u_common_st) (defScope u_common_st) .none kV0 dc0 pm0 an0 cd0 ct0), sl0⟩) (c0 : PySem.W.codeIn K cd0 "common" = true) (k0 : PySem.W.keepIn K (.ref f0) = true)
    (a1 : PySem.W.nsIn K mainGlobals "power" = some (some (.ref f1)))
    (l1 : K.lookup f1 = some ⟨oc1, od1, .func (PySem.W.fnOf "power" "power" (defArgs u_power_st) (defBody u_power_st) (defScope u_power_st) .none kV1 dc1 pm1 an1 cd1 ct1), sl1⟩) (c1 : PySem.W.codeIn K cd1 "power" = true) (k1 : PySem.W.keepIn K (.ref f1) = true)
    (a2 : PySem.W.nsIn K mainGlobals "tower" = some (some (.ref f2)))
    (l2 : K.lookup f2 = some ⟨oc2, od2, .func (PySem.W.fnOf "tower" "tower" (defArgs u_tower_st) (defBody u_tower_st) (defScope u_tower_st) .none kV2 dc2 pm2 an2 cd2 ct2), sl2⟩) (c2 : PySem.W.codeIn K cd2 "tower" = true) (k2 : PySem.W.keepIn K (.ref f2) = true)
    (a3 : PySem.W.nsIn K mainGlobals "check_number_primes" = some (some (.ref f3)))
    (l3 : K.lookup f3 = some ⟨oc3, od3, .func (PySem.W.fnOf "check_number" "check_number" (defArgs u_check_number_0_st) (defBody u_check_number_0_st) (defScope u_check_number_0_st) .none kV3 dc3 pm3 an3 cd3 ct3), sl3⟩) (c3 : PySem.W.codeIn K cd3 "check_number" = true) (k3 : PySem.W.keepIn K (.ref f3) = true)
    (a4 : PySem.W.nsIn K mainGlobals "has_witness" = some (some (.ref f4)))
    (l4 : K.lookup f4 = some ⟨oc4, od4, .func (PySem.W.fnOf "has_witness" "has_witness" (defArgs u_has_witness_st) (defBody u_has_witness_st) (defScope u_has_witness_st) .none kV4 dc4 pm4 an4 cd4 ct4), sl4⟩) (c4 : PySem.W.codeIn K cd4 "has_witness" = true) (k4 : PySem.W.keepIn K (.ref f4) = true)
    (a5 : PySem.W.nsIn K mainGlobals "prime" = some (some (.ref f5)))
    (l5 : K.lookup f5 = some ⟨oc5, od5, .func (PySem.W.fnOf "prime" "prime" (defArgs u_prime_st) (defBody u_prime_st) (defScope u_prime_st) .none kV5 dc5 pm5 an5 cd5 ct5), sl5⟩) (c5 : PySem.W.codeIn K cd5 "prime" = true) (k5 : PySem.W.keepIn K (.ref f5) = true)
    (a6 : PySem.W.nsIn K mainGlobals "small_divisor" = some (some (.ref f6)))
    (l6 : K.lookup f6 = some ⟨oc6, od6, .func (PySem.W.fnOf "small_divisor" "small_divisor" (defArgs u_small_divisor_st) (defBody u_small_divisor_st) (defScope u_small_divisor_st) .none kV6 dc6 pm6 an6 cd6 ct6), sl6⟩) (c6 : PySem.W.codeIn K cd6 "small_divisor" = true) (k6 : PySem.W.keepIn K (.ref f6) = true)
    (a7 : PySem.W.nsIn K mainGlobals "divisor_of" = some (some (.ref f7)))
    (l7 : K.lookup f7 = some ⟨oc7, od7, .func (PySem.W.fnOf "divisor_of" "divisor_of" (defArgs u_divisor_of_st) (defBody u_divisor_of_st) (defScope u_divisor_of_st) .none kV7 dc7 pm7 an7 cd7 ct7), sl7⟩) (c7 : PySem.W.codeIn K cd7 "divisor_of" = true) (k7 : PySem.W.keepIn K (.ref f7) = true)
    (a8 : PySem.W.nsIn K mainGlobals "prime_parts" = some (some (.ref f8)))
    (l8 : K.lookup f8 = some ⟨oc8, od8, .func (PySem.W.fnOf "prime_parts" "prime_parts" (defArgs u_prime_parts_st) (defBody u_prime_parts_st) (defScope u_prime_parts_st) .none kV8 dc8 pm8 an8 cd8 ct8), sl8⟩) (c8 : PySem.W.codeIn K cd8 "prime_parts" = true) (k8 : PySem.W.keepIn K (.ref f8) = true)
    (a9 : PySem.W.nsIn K mainGlobals "powers_in" = some (some (.ref f9)))
    (l9 : K.lookup f9 = some ⟨oc9, od9, .func (PySem.W.fnOf "powers_in" "powers_in" (defArgs u_powers_in_st) (defBody u_powers_in_st) (defScope u_powers_in_st) .none kV9 dc9 pm9 an9 cd9 ct9), sl9⟩) (c9 : PySem.W.codeIn K cd9 "powers_in" = true) (k9 : PySem.W.keepIn K (.ref f9) = true)
    (a10 : PySem.W.nsIn K mainGlobals "divisors" = some (some (.ref f10)))
    (l10 : K.lookup f10 = some ⟨oc10, od10, .func (PySem.W.fnOf "divisors" "divisors" (defArgs u_divisors_st) (defBody u_divisors_st) (defScope u_divisors_st) .none kV10 dc10 pm10 an10 cd10 ct10), sl10⟩) (c10 : PySem.W.codeIn K cd10 "divisors" = true) (k10 : PySem.W.keepIn K (.ref f10) = true)
    (a11 : PySem.W.nsIn K mainGlobals "units" = some (some (.ref f11)))
    (l11 : K.lookup f11 = some ⟨oc11, od11, .func (PySem.W.fnOf "units" "units" (defArgs u_units_st) (defBody u_units_st) (defScope u_units_st) .none kV11 dc11 pm11 an11 cd11 ct11), sl11⟩) (c11 : PySem.W.codeIn K cd11 "units" = true) (k11 : PySem.W.keepIn K (.ref f11) = true)
    (a12 : PySem.W.nsIn K mainGlobals "check_number" = some (some (.ref f12)))
    (a12_1 : PySem.W.nsIn K mainGlobals "check_number_counting" = some (some (.ref f12)))
    (l12 : K.lookup f12 = some ⟨oc12, od12, .func (PySem.W.fnOf "check_number" "check_number" (defArgs u_check_number_1_st) (defBody u_check_number_1_st) (defScope u_check_number_1_st) .none kV12 dc12 pm12 an12 cd12 ct12), sl12⟩) (c12 : PySem.W.codeIn K cd12 "check_number" = true) (k12 : PySem.W.keepIn K (.ref f12) = true)
    (a13 : PySem.W.nsIn K mainGlobals "factorial" = some (some (.ref f13)))
    (l13 : K.lookup f13 = some ⟨oc13, od13, .func (PySem.W.fnOf "factorial" "factorial" (defArgs u_factorial_st) (defBody u_factorial_st) (defScope u_factorial_st) .none kV13 dc13 pm13 an13 cd13 ct13), sl13⟩) (c13 : PySem.W.codeIn K cd13 "factorial" = true) (k13 : PySem.W.keepIn K (.ref f13) = true)
    (a14 : PySem.W.nsIn K mainGlobals "choose" = some (some (.ref f14)))
    (l14 : K.lookup f14 = some ⟨oc14, od14, .func (PySem.W.fnOf "choose" "choose" (defArgs u_choose_st) (defBody u_choose_st) (defScope u_choose_st) .none kV14 dc14 pm14 an14 cd14 ct14), sl14⟩) (c14 : PySem.W.codeIn K cd14 "choose" = true) (k14 : PySem.W.keepIn K (.ref f14) = true)
    (a15 : PySem.W.nsIn K mainGlobals "partitions" = some (some (.ref f15)))
    (l15 : K.lookup f15 = some ⟨oc15, od15, .func (PySem.W.fnOf "partitions" "partitions" (defArgs u_partitions_st) (defBody u_partitions_st) (defScope u_partitions_st) .none kV15 dc15 pm15 an15 cd15 ct15), sl15⟩) (c15 : PySem.W.codeIn K cd15 "partitions" = true) (k15 : PySem.W.keepIn K (.ref f15) = true)
    (a16 : PySem.W.nsIn K mainGlobals "count_partitions" = some (some (.ref f16)))
    (l16 : K.lookup f16 = some ⟨oc16, od16, .func (PySem.W.fnOf "count_partitions" "count_partitions" (defArgs u_count_partitions_st) (defBody u_count_partitions_st) (defScope u_count_partitions_st) .none kV16 dc16 pm16 an16 cd16 ct16), sl16⟩) (c16 : PySem.W.codeIn K cd16 "count_partitions" = true) (k16 : PySem.W.keepIn K (.ref f16) = true)
    (a17 : PySem.W.nsIn K mainGlobals "groupings" = some (some (.ref f17)))
    (l17 : K.lookup f17 = some ⟨oc17, od17, .func (PySem.W.fnOf "groupings" "groupings" (defArgs u_groupings_st) (defBody u_groupings_st) (defScope u_groupings_st) .none kV17 dc17 pm17 an17 cd17 ct17), sl17⟩) (c17 : PySem.W.codeIn K cd17 "groupings" = true) (k17 : PySem.W.keepIn K (.ref f17) = true)
    (a18 : PySem.W.nsIn K mainGlobals "rings" = some (some (.ref f18)))
    (l18 : K.lookup f18 = some ⟨oc18, od18, .func (PySem.W.fnOf "rings" "rings" (defArgs u_rings_st) (defBody u_rings_st) (defScope u_rings_st) .none kV18 dc18 pm18 an18 cd18 ct18), sl18⟩) (c18 : PySem.W.codeIn K cd18 "rings" = true) (k18 : PySem.W.keepIn K (.ref f18) = true)
    (a19 : PySem.W.nsIn K mainGlobals "moved" = some (some (.ref f19)))
    (l19 : K.lookup f19 = some ⟨oc19, od19, .func (PySem.W.fnOf "moved" "moved" (defArgs u_moved_st) (defBody u_moved_st) (defScope u_moved_st) .none kV19 dc19 pm19 an19 cd19 ct19), sl19⟩) (c19 : PySem.W.codeIn K cd19 "moved" = true) (k19 : PySem.W.keepIn K (.ref f19) = true)
    (a20 : PySem.W.nsIn K mainGlobals "brackets" = some (some (.ref f20)))
    (l20 : K.lookup f20 = some ⟨oc20, od20, .func (PySem.W.fnOf "brackets" "brackets" (defArgs u_brackets_st) (defBody u_brackets_st) (defScope u_brackets_st) .none kV20 dc20 pm20 an20 cd20 ct20), sl20⟩) (c20 : PySem.W.codeIn K cd20 "brackets" = true) (k20 : PySem.W.keepIn K (.ref f20) = true)
    (a21 : PySem.W.nsIn K mainGlobals "necklaces" = some (some (.ref f21)))
    (l21 : K.lookup f21 = some ⟨oc21, od21, .func (PySem.W.fnOf "necklaces" "necklaces" (defArgs u_necklaces_st) (defBody u_necklaces_st) (defScope u_necklaces_st) .none kV21 dc21 pm21 an21 cd21 ct21), sl21⟩) (c21 : PySem.W.codeIn K cd21 "necklaces" = true) (k21 : PySem.W.keepIn K (.ref f21) = true)
    (a22 : PySem.W.nsIn K mainGlobals "fraction" = some (some (.ref f22)))
    (l22 : K.lookup f22 = some ⟨oc22, od22, .func (PySem.W.fnOf "fraction" "fraction" (defArgs u_fraction_st) (defBody u_fraction_st) (defScope u_fraction_st) .none kV22 dc22 pm22 an22 cd22 ct22), sl22⟩) (c22 : PySem.W.codeIn K cd22 "fraction" = true) (k22 : PySem.W.keepIn K (.ref f22) = true)
    (a23 : PySem.W.nsIn K mainGlobals "plus" = some (some (.ref f23)))
    (l23 : K.lookup f23 = some ⟨oc23, od23, .func (PySem.W.fnOf "plus" "plus" (defArgs u_plus_st) (defBody u_plus_st) (defScope u_plus_st) .none kV23 dc23 pm23 an23 cd23 ct23), sl23⟩) (c23 : PySem.W.codeIn K cd23 "plus" = true) (k23 : PySem.W.keepIn K (.ref f23) = true)
    (a24 : PySem.W.nsIn K mainGlobals "minus" = some (some (.ref f24)))
    (l24 : K.lookup f24 = some ⟨oc24, od24, .func (PySem.W.fnOf "minus" "minus" (defArgs u_minus_st) (defBody u_minus_st) (defScope u_minus_st) .none kV24 dc24 pm24 an24 cd24 ct24), sl24⟩) (c24 : PySem.W.codeIn K cd24 "minus" = true) (k24 : PySem.W.keepIn K (.ref f24) = true)
    (a25 : PySem.W.nsIn K mainGlobals "times" = some (some (.ref f25)))
    (l25 : K.lookup f25 = some ⟨oc25, od25, .func (PySem.W.fnOf "times" "times" (defArgs u_times_st) (defBody u_times_st) (defScope u_times_st) .none kV25 dc25 pm25 an25 cd25 ct25), sl25⟩) (c25 : PySem.W.codeIn K cd25 "times" = true) (k25 : PySem.W.keepIn K (.ref f25) = true)
    (a26 : PySem.W.nsIn K mainGlobals "over" = some (some (.ref f26)))
    (l26 : K.lookup f26 = some ⟨oc26, od26, .func (PySem.W.fnOf "over" "over" (defArgs u_over_st) (defBody u_over_st) (defScope u_over_st) .none kV26 dc26 pm26 an26 cd26 ct26), sl26⟩) (c26 : PySem.W.codeIn K cd26 "over" = true) (k26 : PySem.W.keepIn K (.ref f26) = true)
    (a27 : PySem.W.nsIn K mainGlobals "trimmed" = some (some (.ref f27)))
    (l27 : K.lookup f27 = some ⟨oc27, od27, .func (PySem.W.fnOf "trimmed" "trimmed" (defArgs u_trimmed_st) (defBody u_trimmed_st) (defScope u_trimmed_st) .none kV27 dc27 pm27 an27 cd27 ct27), sl27⟩) (c27 : PySem.W.codeIn K cd27 "trimmed" = true) (k27 : PySem.W.keepIn K (.ref f27) = true)
    (a28 : PySem.W.nsIn K mainGlobals "whole" = some (some (.ref f28)))
    (l28 : K.lookup f28 = some ⟨oc28, od28, .func (PySem.W.fnOf "whole" "whole" (defArgs u_whole_st) (defBody u_whole_st) (defScope u_whole_st) .none kV28 dc28 pm28 an28 cd28 ct28), sl28⟩) (c28 : PySem.W.codeIn K cd28 "whole" = true) (k28 : PySem.W.keepIn K (.ref f28) = true)
    (a29 : PySem.W.nsIn K mainGlobals "degree" = some (some (.ref f29)))
    (l29 : K.lookup f29 = some ⟨oc29, od29, .func (PySem.W.fnOf "degree" "degree" (defArgs u_degree_st) (defBody u_degree_st) (defScope u_degree_st) .none kV29 dc29 pm29 an29 cd29 ct29), sl29⟩) (c29 : PySem.W.codeIn K cd29 "degree" = true) (k29 : PySem.W.keepIn K (.ref f29) = true)
    (a30 : PySem.W.nsIn K mainGlobals "add" = some (some (.ref f30)))
    (l30 : K.lookup f30 = some ⟨oc30, od30, .func (PySem.W.fnOf "add" "add" (defArgs u_add_st) (defBody u_add_st) (defScope u_add_st) .none kV30 dc30 pm30 an30 cd30 ct30), sl30⟩) (c30 : PySem.W.codeIn K cd30 "add" = true) (k30 : PySem.W.keepIn K (.ref f30) = true)
    (a31 : PySem.W.nsIn K mainGlobals "scale" = some (some (.ref f31)))
    (l31 : K.lookup f31 = some ⟨oc31, od31, .func (PySem.W.fnOf "scale" "scale" (defArgs u_scale_st) (defBody u_scale_st) (defScope u_scale_st) .none kV31 dc31 pm31 an31 cd31 ct31), sl31⟩) (c31 : PySem.W.codeIn K cd31 "scale" = true) (k31 : PySem.W.keepIn K (.ref f31) = true)
    (a32 : PySem.W.nsIn K mainGlobals "subtract" = some (some (.ref f32)))
    (l32 : K.lookup f32 = some ⟨oc32, od32, .func (PySem.W.fnOf "subtract" "subtract" (defArgs u_subtract_st) (defBody u_subtract_st) (defScope u_subtract_st) .none kV32 dc32 pm32 an32 cd32 ct32), sl32⟩) (c32 : PySem.W.codeIn K cd32 "subtract" = true) (k32 : PySem.W.keepIn K (.ref f32) = true)
    (a33 : PySem.W.nsIn K mainGlobals "multiply" = some (some (.ref f33)))
    (l33 : K.lookup f33 = some ⟨oc33, od33, .func (PySem.W.fnOf "multiply" "multiply" (defArgs u_multiply_st) (defBody u_multiply_st) (defScope u_multiply_st) .none kV33 dc33 pm33 an33 cd33 ct33), sl33⟩) (c33 : PySem.W.codeIn K cd33 "multiply" = true) (k33 : PySem.W.keepIn K (.ref f33) = true)
    (a34 : PySem.W.nsIn K mainGlobals "compose" = some (some (.ref f34)))
    (l34 : K.lookup f34 = some ⟨oc34, od34, .func (PySem.W.fnOf "compose" "compose" (defArgs u_compose_st) (defBody u_compose_st) (defScope u_compose_st) .none kV34 dc34 pm34 an34 cd34 ct34), sl34⟩) (c34 : PySem.W.codeIn K cd34 "compose" = true) (k34 : PySem.W.keepIn K (.ref f34) = true)
    (a35 : PySem.W.nsIn K mainGlobals "factors_of" = some (some (.ref f35)))
    (l35 : K.lookup f35 = some ⟨oc35, od35, .func (PySem.W.fnOf "factors_of" "factors_of" (defArgs u_factors_of_st) (defBody u_factors_of_st) (defScope u_factors_of_st) .none kV35 dc35 pm35 an35 cd35 ct35), sl35⟩) (c35 : PySem.W.codeIn K cd35 "factors_of" = true) (k35 : PySem.W.keepIn K (.ref f35) = true)
    (a36 : PySem.W.nsIn K mainGlobals "check_degree" = some (some (.ref f36)))
    (l36 : K.lookup f36 = some ⟨oc36, od36, .func (PySem.W.fnOf "check_degree" "check_degree" (defArgs u_check_degree_st) (defBody u_check_degree_st) (defScope u_check_degree_st) .none kV36 dc36 pm36 an36 cd36 ct36), sl36⟩) (c36 : PySem.W.codeIn K cd36 "check_degree" = true) (k36 : PySem.W.keepIn K (.ref f36) = true)
    (a37 : PySem.W.nsIn K mainGlobals "choose_poly" = some (some (.ref f37)))
    (l37 : K.lookup f37 = some ⟨oc37, od37, .func (PySem.W.fnOf "choose_poly" "choose_poly" (defArgs u_choose_poly_st) (defBody u_choose_poly_st) (defScope u_choose_poly_st) .none kV37 dc37 pm37 an37 cd37 ct37), sl37⟩) (c37 : PySem.W.codeIn K cd37 "choose_poly" = true) (k37 : PySem.W.keepIn K (.ref f37) = true)
    (a38 : PySem.W.nsIn K mainGlobals "rise_of" = some (some (.ref f38)))
    (l38 : K.lookup f38 = some ⟨oc38, od38, .func (PySem.W.fnOf "rise_of" "rise_of" (defArgs u_rise_of_st) (defBody u_rise_of_st) (defScope u_rise_of_st) .none kV38 dc38 pm38 an38 cd38 ct38), sl38⟩) (c38 : PySem.W.codeIn K cd38 "rise_of" = true) (k38 : PySem.W.keepIn K (.ref f38) = true)
    (a39 : PySem.W.nsIn K mainGlobals "rises" = some (some (.ref f39)))
    (l39 : K.lookup f39 = some ⟨oc39, od39, .func (PySem.W.fnOf "rises" "rises" (defArgs u_rises_st) (defBody u_rises_st) (defScope u_rises_st) .none kV39 dc39 pm39 an39 cd39 ct39), sl39⟩) (c39 : PySem.W.codeIn K cd39 "rises" = true) (k39 : PySem.W.keepIn K (.ref f39) = true)
    (a40 : PySem.W.nsIn K mainGlobals "from_rises" = some (some (.ref f40)))
    (l40 : K.lookup f40 = some ⟨oc40, od40, .func (PySem.W.fnOf "from_rises" "from_rises" (defArgs u_from_rises_st) (defBody u_from_rises_st) (defScope u_from_rises_st) .none kV40 dc40 pm40 an40 cd40 ct40), sl40⟩) (c40 : PySem.W.codeIn K cd40 "from_rises" = true) (k40 : PySem.W.keepIn K (.ref f40) = true)
    (a41 : PySem.W.nsIn K mainGlobals "is_whole" = some (some (.ref f41)))
    (l41 : K.lookup f41 = some ⟨oc41, od41, .func (PySem.W.fnOf "is_whole" "is_whole" (defArgs u_is_whole_st) (defBody u_is_whole_st) (defScope u_is_whole_st) .none kV41 dc41 pm41 an41 cd41 ct41), sl41⟩) (c41 : PySem.W.codeIn K cd41 "is_whole" = true) (k41 : PySem.W.keepIn K (.ref f41) = true)
    (a42 : PySem.W.nsIn K mainGlobals "_law_raise" = some (some (.ref f42)))
    (l42 : K.lookup f42 = some ⟨oc42, od42, .func (PySem.W.fnOf "_law_raise" "_law_raise" (defArgs u__law_raise_st) (defBody u__law_raise_st) (defScope u__law_raise_st) .none kV42 dc42 pm42 an42 cd42 ct42), sl42⟩) (c42 : PySem.W.codeIn K cd42 "_law_raise" = true) (k42 : PySem.W.keepIn K (.ref f42) = true)
    (a43 : PySem.W.nsIn K mainGlobals "_law_begin" = some (some (.ref f43)))
    (l43 : K.lookup f43 = some ⟨oc43, od43, .func (PySem.W.fnOf "_law_begin" "_law_begin" (defArgs beg_st) (defBody beg_st) (defScope beg_st) .none kV43 dc43 pm43 an43 cd43 ct43), sl43⟩) (c43 : PySem.W.codeIn K cd43 "_law_begin" = true) (k43 : PySem.W.keepIn K (.ref f43) = true)
    (a44 : PySem.W.nsIn K mainGlobals "_law_take" = some (some (.ref f44)))
    (l44 : K.lookup f44 = some ⟨oc44, od44, .func (PySem.W.fnOf "_law_take" "_law_take" (defArgs tak_st) (defBody tak_st) (defScope tak_st) .none kV44 dc44 pm44 an44 cd44 ct44), sl44⟩) (c44 : PySem.W.codeIn K cd44 "_law_take" = true) (k44 : PySem.W.keepIn K (.ref f44) = true)
    (a45 : PySem.W.nsIn K mainGlobals "law" = some (some (.ref f45)))
    (l45 : K.lookup f45 = some ⟨oc45, od45, .func (PySem.W.fnOf "law" "law" (defArgs u_law_st) (defBody u_law_st) (defScope u_law_st) .none kV45 dc45 pm45 an45 cd45 ct45), sl45⟩) (c45 : PySem.W.codeIn K cd45 "law" = true) (k45 : PySem.W.keepIn K (.ref f45) = true)
    (z_abs : PySem.W.nsIn K mainGlobals "abs" = some none)
    (z_any : PySem.W.nsIn K mainGlobals "any" = some none)
    (z_enumerate : PySem.W.nsIn K mainGlobals "enumerate" = some none)
    (z_int : PySem.W.nsIn K mainGlobals "int" = some none)
    (z_len : PySem.W.nsIn K mainGlobals "len" = some none)
    (z_list : PySem.W.nsIn K mainGlobals "list" = some none)
    (z_max : PySem.W.nsIn K mainGlobals "max" = some none)
    (z_min : PySem.W.nsIn K mainGlobals "min" = some none)
    (z_range : PySem.W.nsIn K mainGlobals "range" = some none)
    (z_set : PySem.W.nsIn K mainGlobals "set" = some none)
    (z_sorted : PySem.W.nsIn K mainGlobals "sorted" = some none)
    (z_sum : PySem.W.nsIn K mainGlobals "sum" = some none)
    (z_tuple : PySem.W.nsIn K mainGlobals "tuple" = some none)
    {g_BASES : Addr} {n_BASES : Nat} {o1_BASES : Option Addr} {o2_BASES : Array (Option Value)} {t0_BASES : Tok} {t1_BASES : Tok} {t2_BASES : Tok} {t3_BASES : Tok} {t4_BASES : Tok} {t5_BASES : Tok} {t6_BASES : Tok} {t7_BASES : Tok} {t8_BASES : Tok} {t9_BASES : Tok} {t10_BASES : Tok} {t11_BASES : Tok} (q_BASES : PySem.W.nsIn K mainGlobals "BASES" = some (some (.ref g_BASES))) (r_BASES : K.lookup g_BASES = some ⟨.type "tuple", o1_BASES, .seq #[.int 2 t0_BASES, .int 3 t1_BASES, .int 5 t2_BASES, .int 7 t3_BASES, .int 11 t4_BASES, .int 13 t5_BASES, .int 17 t6_BASES, .int 19 t7_BASES, .int 23 t8_BASES, .int 29 t9_BASES, .int 31 t10_BASES, .int 37 t11_BASES] n_BASES, o2_BASES⟩)
    {t_MOST_TERMS : Tok} (q_MOST_TERMS : PySem.W.nsIn K mainGlobals "MOST_TERMS" = some (some (.int 60 t_MOST_TERMS)))
    {t_MOST_counting : Tok} (q_MOST_counting : PySem.W.nsIn K mainGlobals "MOST_counting" = some (some (.int 200 t_MOST_counting)))
    {t_MOST_primes : Tok} (q_MOST_primes : PySem.W.nsIn K mainGlobals "MOST_primes" = some (some (.int 100000000000000 t_MOST_primes)))
    {t_MOST_sums : Tok} (q_MOST_sums : PySem.W.nsIn K mainGlobals "MOST_sums" = some (some (.int 12 t_MOST_sums)))
    {g_ONE : Addr} {n_ONE : Nat} {o1_ONE : Option Addr} {o2_ONE : Array (Option Value)} {t0_ONE : Tok} {t1_ONE : Tok} (q_ONE : PySem.W.nsIn K mainGlobals "ONE" = some (some (.ref g_ONE))) (r_ONE : K.lookup g_ONE = some ⟨.type "tuple", o1_ONE, .seq #[.int 1 t0_ONE, .int 1 t1_ONE] n_ONE, o2_ONE⟩)
    {g_ZERO : Addr} {n_ZERO : Nat} {o1_ZERO : Option Addr} {o2_ZERO : Array (Option Value)} {t0_ZERO : Tok} {t1_ZERO : Tok} (q_ZERO : PySem.W.nsIn K mainGlobals "ZERO" = some (some (.ref g_ZERO))) (r_ZERO : K.lookup g_ZERO = some ⟨.type "tuple", o1_ZERO, .seq #[.int 0 t0_ZERO, .int 1 t1_ZERO] n_ZERO, o2_ZERO⟩)
    : ∃ fd : FuncData, (∀ (s : Shared) (v : Value), BindsTo s fd ⟨[v], []⟩ [("script", v)]) ∧ ∀ base : Heap, K.In base → base.Ns mainGlobals mg → FnOk l.prog w K mg base CX0 44 fa fd ["script"] (spLaw K) := by
  have e := hfa.symm.trans (PySem.W.mg_of X G a45)
  cases e
  have F0 := fun_mk (st := u_common_st) l0 c0 k0
  have b0 := F0.binds (ps := ["one", "other"]) fun _ _ _ _ _ _ us hl => match us, hl with | [_, _], _ => rfl
  have m0 := PySem.W.mg_of X G a0
  have F1 := fun_mk (st := u_power_st) l1 c1 k1
  have b1 := F1.binds (ps := ["base", "times", "whole"]) fun _ _ _ _ _ _ us hl => match us, hl with | [_, _, _], _ => rfl
  have m1 := PySem.W.mg_of X G a1
  have F2 := fun_mk (st := u_tower_st) l2 c2 k2
  have b2 := F2.binds (ps := ["base", "times"]) fun _ _ _ _ _ _ us hl => match us, hl with | [_, _], _ => rfl
  have m2 := PySem.W.mg_of X G a2
  have F3 := fun_mk (st := u_check_number_0_st) l3 c3 k3
  have b3 := F3.binds (ps := ["number"]) fun _ _ _ _ _ _ us hl => match us, hl with | [_], _ => rfl
  have m3 := PySem.W.mg_of X G a3
  have F4 := fun_mk (st := u_has_witness_st) l4 c4 k4
  have b4 := F4.binds (ps := ["number", "base"]) fun _ _ _ _ _ _ us hl => match us, hl with | [_, _], _ => rfl
  have m4 := PySem.W.mg_of X G a4
  have F5 := fun_mk (st := u_prime_st) l5 c5 k5
  have b5 := F5.binds (ps := ["number"]) fun _ _ _ _ _ _ us hl => match us, hl with | [_], _ => rfl
  have m5 := PySem.W.mg_of X G a5
  have F6 := fun_mk (st := u_small_divisor_st) l6 c6 k6
  have b6 := F6.binds (ps := ["number"]) fun _ _ _ _ _ _ us hl => match us, hl with | [_], _ => rfl
  have m6 := PySem.W.mg_of X G a6
  have F7 := fun_mk (st := u_divisor_of_st) l7 c7 k7
  have b7 := F7.binds (ps := ["number"]) fun _ _ _ _ _ _ us hl => match us, hl with | [_], _ => rfl
  have m7 := PySem.W.mg_of X G a7
  have F8 := fun_mk (st := u_prime_parts_st) l8 c8 k8
  have b8 := F8.binds (ps := ["number"]) fun _ _ _ _ _ _ us hl => match us, hl with | [_], _ => rfl
  have m8 := PySem.W.mg_of X G a8
  have F9 := fun_mk (st := u_powers_in_st) l9 c9 k9
  have b9 := F9.binds (ps := ["number"]) fun _ _ _ _ _ _ us hl => match us, hl with | [_], _ => rfl
  have m9 := PySem.W.mg_of X G a9
  have F10 := fun_mk (st := u_divisors_st) l10 c10 k10
  have b10 := F10.binds (ps := ["number"]) fun _ _ _ _ _ _ us hl => match us, hl with | [_], _ => rfl
  have m10 := PySem.W.mg_of X G a10
  have F11 := fun_mk (st := u_units_st) l11 c11 k11
  have b11 := F11.binds (ps := ["number"]) fun _ _ _ _ _ _ us hl => match us, hl with | [_], _ => rfl
  have m11 := PySem.W.mg_of X G a11
  have F12 := fun_mk (st := u_check_number_1_st) l12 c12 k12
  have b12 := F12.binds (ps := ["number"]) fun _ _ _ _ _ _ us hl => match us, hl with | [_], _ => rfl
  have m12 := PySem.W.mg_of X G a12
  have m12_1 := PySem.W.mg_of X G a12_1
  have F13 := fun_mk (st := u_factorial_st) l13 c13 k13
  have b13 := F13.binds (ps := ["number"]) fun _ _ _ _ _ _ us hl => match us, hl with | [_], _ => rfl
  have m13 := PySem.W.mg_of X G a13
  have F14 := fun_mk (st := u_choose_st) l14 c14 k14
  have b14 := F14.binds (ps := ["many", "some"]) fun _ _ _ _ _ _ us hl => match us, hl with | [_, _], _ => rfl
  have m14 := PySem.W.mg_of X G a14
  have F15 := fun_mk (st := u_partitions_st) l15 c15 k15
  have b15 := F15.binds (ps := ["number"]) fun _ _ _ _ _ _ us hl => match us, hl with | [_], _ => rfl
  have m15 := PySem.W.mg_of X G a15
  have F16 := fun_mk (st := u_count_partitions_st) l16 c16 k16
  have b16 := F16.binds (ps := ["number"]) fun _ _ _ _ _ _ us hl => match us, hl with | [_], _ => rfl
  have m16 := PySem.W.mg_of X G a16
  have F17 := fun_mk (st := u_groupings_st) l17 c17 k17
  have b17 := F17.binds (ps := ["many", "some"]) fun _ _ _ _ _ _ us hl => match us, hl with | [_, _], _ => rfl
  have m17 := PySem.W.mg_of X G a17
  have F18 := fun_mk (st := u_rings_st) l18 c18 k18
  have b18 := F18.binds (ps := ["many", "some"]) fun _ _ _ _ _ _ us hl => match us, hl with | [_, _], _ => rfl
  have m18 := PySem.W.mg_of X G a18
  have F19 := fun_mk (st := u_moved_st) l19 c19 k19
  have b19 := F19.binds (ps := ["number"]) fun _ _ _ _ _ _ us hl => match us, hl with | [_], _ => rfl
  have m19 := PySem.W.mg_of X G a19
  have F20 := fun_mk (st := u_brackets_st) l20 c20 k20
  have b20 := F20.binds (ps := ["number"]) fun _ _ _ _ _ _ us hl => match us, hl with | [_], _ => rfl
  have m20 := PySem.W.mg_of X G a20
  have F21 := fun_mk (st := u_necklaces_st) l21 c21 k21
  have b21 := F21.binds (ps := ["many", "colours"]) fun _ _ _ _ _ _ us hl => match us, hl with | [_, _], _ => rfl
  have m21 := PySem.W.mg_of X G a21
  have F22 := fun_mk (st := u_fraction_st) l22 c22 k22
  have b22 := F22.binds (ps := ["top", "bottom"]) fun _ _ _ _ _ _ us hl => match us, hl with | [_, _], _ => rfl
  have m22 := PySem.W.mg_of X G a22
  have F23 := fun_mk (st := u_plus_st) l23 c23 k23
  have b23 := F23.binds (ps := ["one", "other"]) fun _ _ _ _ _ _ us hl => match us, hl with | [_, _], _ => rfl
  have m23 := PySem.W.mg_of X G a23
  have F24 := fun_mk (st := u_minus_st) l24 c24 k24
  have b24 := F24.binds (ps := ["one", "other"]) fun _ _ _ _ _ _ us hl => match us, hl with | [_, _], _ => rfl
  have m24 := PySem.W.mg_of X G a24
  have F25 := fun_mk (st := u_times_st) l25 c25 k25
  have b25 := F25.binds (ps := ["one", "other"]) fun _ _ _ _ _ _ us hl => match us, hl with | [_, _], _ => rfl
  have m25 := PySem.W.mg_of X G a25
  have F26 := fun_mk (st := u_over_st) l26 c26 k26
  have b26 := F26.binds (ps := ["one", "other"]) fun _ _ _ _ _ _ us hl => match us, hl with | [_, _], _ => rfl
  have m26 := PySem.W.mg_of X G a26
  have F27 := fun_mk (st := u_trimmed_st) l27 c27 k27
  have b27 := F27.binds (ps := ["row"]) fun _ _ _ _ _ _ us hl => match us, hl with | [_], _ => rfl
  have m27 := PySem.W.mg_of X G a27
  have F28 := fun_mk (st := u_whole_st) l28 c28 k28
  have b28 := F28.binds (ps := ["row"]) fun _ _ _ _ _ _ us hl => match us, hl with | [_], _ => rfl
  have m28 := PySem.W.mg_of X G a28
  have F29 := fun_mk (st := u_degree_st) l29 c29 k29
  have b29 := F29.binds (ps := ["one"]) fun _ _ _ _ _ _ us hl => match us, hl with | [_], _ => rfl
  have m29 := PySem.W.mg_of X G a29
  have F30 := fun_mk (st := u_add_st) l30 c30 k30
  have b30 := F30.binds (ps := ["one", "other"]) fun _ _ _ _ _ _ us hl => match us, hl with | [_, _], _ => rfl
  have m30 := PySem.W.mg_of X G a30
  have F31 := fun_mk (st := u_scale_st) l31 c31 k31
  have b31 := F31.binds (ps := ["one", "factor"]) fun _ _ _ _ _ _ us hl => match us, hl with | [_, _], _ => rfl
  have m31 := PySem.W.mg_of X G a31
  have F32 := fun_mk (st := u_subtract_st) l32 c32 k32
  have b32 := F32.binds (ps := ["one", "other"]) fun _ _ _ _ _ _ us hl => match us, hl with | [_, _], _ => rfl
  have m32 := PySem.W.mg_of X G a32
  have F33 := fun_mk (st := u_multiply_st) l33 c33 k33
  have b33 := F33.binds (ps := ["one", "other"]) fun _ _ _ _ _ _ us hl => match us, hl with | [_, _], _ => rfl
  have m33 := PySem.W.mg_of X G a33
  have F34 := fun_mk (st := u_compose_st) l34 c34 k34
  have b34 := F34.binds (ps := ["one", "other"]) fun _ _ _ _ _ _ us hl => match us, hl with | [_, _], _ => rfl
  have m34 := PySem.W.mg_of X G a34
  have F35 := fun_mk (st := u_factors_of_st) l35 c35 k35
  have b35 := F35.binds (ps := ["top", "under", "many"]) fun _ _ _ _ _ _ us hl => match us, hl with | [_, _, _], _ => rfl
  have m35 := PySem.W.mg_of X G a35
  have F36 := fun_mk (st := u_check_degree_st) l36 c36 k36
  have b36 := F36.binds (ps := ["number"]) fun _ _ _ _ _ _ us hl => match us, hl with | [_], _ => rfl
  have m36 := PySem.W.mg_of X G a36
  have F37 := fun_mk (st := u_choose_poly_st) l37 c37 k37
  have b37 := F37.binds (ps := ["number"]) fun _ _ _ _ _ _ us hl => match us, hl with | [_], _ => rfl
  have m37 := PySem.W.mg_of X G a37
  have F38 := fun_mk (st := u_rise_of_st) l38 c38 k38
  have b38 := F38.binds (ps := ["one"]) fun _ _ _ _ _ _ us hl => match us, hl with | [_], _ => rfl
  have m38 := PySem.W.mg_of X G a38
  have F39 := fun_mk (st := u_rises_st) l39 c39 k39
  have b39 := F39.binds (ps := ["one"]) fun _ _ _ _ _ _ us hl => match us, hl with | [_], _ => rfl
  have m39 := PySem.W.mg_of X G a39
  have F40 := fun_mk (st := u_from_rises_st) l40 c40 k40
  have b40 := F40.binds (ps := ["row"]) fun _ _ _ _ _ _ us hl => match us, hl with | [_], _ => rfl
  have m40 := PySem.W.mg_of X G a40
  have F41 := fun_mk (st := u_is_whole_st) l41 c41 k41
  have b41 := F41.binds (ps := ["one"]) fun _ _ _ _ _ _ us hl => match us, hl with | [_], _ => rfl
  have m41 := PySem.W.mg_of X G a41
  have F42 := fun_mk (st := u__law_raise_st) l42 c42 k42
  have b42 := F42.binds (ps := ["base", "times_v"]) fun _ _ _ _ _ _ us hl => match us, hl with | [_, _], _ => rfl
  have m42 := PySem.W.mg_of X G a42
  have F43 := fun_mk (st := beg_st) l43 c43 k43
  have b43 := F43.binds (ps := ["script"]) fun _ _ _ _ _ _ us hl => match us, hl with | [_], _ => rfl
  have m43 := PySem.W.mg_of X G a43
  have F44 := fun_mk (st := tak_st) l44 c44 k44
  have b44 := F44.binds (ps := ["d", "many"]) fun _ _ _ _ _ _ us hl => match us, hl with | [_, _], _ => rfl
  have m44 := PySem.W.mg_of X G a44
  have F45 := fun_mk (st := u_law_st) l45 c45 k45
  have b45 := F45.binds (ps := ["script"]) fun _ _ _ _ _ _ us hl => match us, hl with | [_], _ => rfl
  have y_abs := PySem.W.mg_none_of X G z_abs
  have y_any := PySem.W.mg_none_of X G z_any
  have y_enumerate := PySem.W.mg_none_of X G z_enumerate
  have y_int := PySem.W.mg_none_of X G z_int
  have y_len := PySem.W.mg_none_of X G z_len
  have y_list := PySem.W.mg_none_of X G z_list
  have y_max := PySem.W.mg_none_of X G z_max
  have y_min := PySem.W.mg_none_of X G z_min
  have y_range := PySem.W.mg_none_of X G z_range
  have y_set := PySem.W.mg_none_of X G z_set
  have y_sorted := PySem.W.mg_none_of X G z_sorted
  have y_sum := PySem.W.mg_none_of X G z_sum
  have y_tuple := PySem.W.mg_none_of X G z_tuple
  have hcon : ∀ x d, cons.lookup x = some d → ∃ v u, mg x = some u ∧ RelV v u ∧ ∀ H, Rp K H v d := by
    refine con_all ?_
    intro p hp
    simp only [cons, List.mem_cons, List.not_mem_nil, or_false] at hp
    rcases hp with rfl | rfl | rfl | rfl | rfl | rfl | rfl
    · exact con_tup (ns := [2, 3, 5, 7, 11, 13, 17, 19, 23, 29, 31, 37]) (PySem.W.mg_of X G q_BASES) r_BASES (by show 12 ≤ PySem.sizeLine; decide) (.cons ⟨_, rfl⟩ (.cons ⟨_, rfl⟩ (.cons ⟨_, rfl⟩ (.cons ⟨_, rfl⟩ (.cons ⟨_, rfl⟩ (.cons ⟨_, rfl⟩ (.cons ⟨_, rfl⟩ (.cons ⟨_, rfl⟩ (.cons ⟨_, rfl⟩ (.cons ⟨_, rfl⟩ (.cons ⟨_, rfl⟩ (.cons ⟨_, rfl⟩ .nil))))))))))))
    · exact ⟨.int 60, _, PySem.W.mg_of X G q_MOST_TERMS, ⟨t_MOST_TERMS, rfl⟩, fun _ => rfl⟩
    · exact ⟨.int 200, _, PySem.W.mg_of X G q_MOST_counting, ⟨t_MOST_counting, rfl⟩, fun _ => rfl⟩
    · exact ⟨.int 100000000000000, _, PySem.W.mg_of X G q_MOST_primes, ⟨t_MOST_primes, rfl⟩, fun _ => rfl⟩
    · exact ⟨.int 12, _, PySem.W.mg_of X G q_MOST_sums, ⟨t_MOST_sums, rfl⟩, fun _ => rfl⟩
    · exact con_tup (ns := [1, 1]) (PySem.W.mg_of X G q_ONE) r_ONE (by show 2 ≤ PySem.sizeLine; decide) (.cons ⟨_, rfl⟩ (.cons ⟨_, rfl⟩ .nil))
    · exact con_tup (ns := [0, 1]) (PySem.W.mg_of X G q_ZERO) r_ZERO (by show 2 ≤ PySem.sizeLine; decide) (.cons ⟨_, rfl⟩ (.cons ⟨_, rfl⟩ .nil))
  have hbl : ∀ x, blts.contains x = true → mg x = none := by
    intro x hx
    simp only [blts, List.contains_iff_mem, List.mem_cons, List.not_mem_nil, or_false] at hx
    rcases hx with rfl | rfl | rfl | rfl | rfl | rfl | rfl | rfl | rfl | rfl | rfl
    · exact y_any
    · exact y_enumerate
    · exact y_int
    · exact y_len
    · exact y_max
    · exact y_min
    · exact y_range
    · exact y_set
    · exact y_sorted
    · exact y_sum
    · exact y_tuple
  refine ⟨PySem.W.fnOf "law" "law" (defArgs u_law_st) (defBody u_law_st) (defScope u_law_st) .none kV45 dc45 pm45 an45 cd45 ct45, fun s v => .of_eq rfl, fun base _ _ => ?_⟩
  have p0 : Paired (FOk l.prog w K mg base 0) [] [] := .nil
  have o0 : FOk l.prog w K mg base 1 "common" u_common_φ := (runM_ok (c := u_common_cc) (φs := u_common_φs) (code := u_common_code) (fuel := 100) u_common_ms_eq (env_mk hcon hbl p0 .nil) F0 m0 b0 u_common_sc rfl u_common_comp (by decide)).mono (by decide)
  have p1 := Paired.cons o0 (fns_mono p0 (Nat.le_succ 0))
  have o1 : FOk l.prog w K mg base 2 "power" u_power_φ := (runM_ok (c := u_power_cc) (φs := u_power_φs) (code := u_power_code) (fuel := 100) u_power_ms_eq (env_mk hcon hbl p1 .nil) F1 m1 b1 u_power_sc rfl u_power_comp (by decide)).mono (by decide)
  have p2 := Paired.cons o1 (fns_mono p1 (Nat.le_succ 1))
  have o2 : FOk l.prog w K mg base 3 "tower" u_tower_φ := (runM_ok (c := u_tower_cc) (φs := u_tower_φs) (code := u_tower_code) (fuel := 100) u_tower_ms_eq (env_mk hcon hbl p2 .nil) F2 m2 b2 u_tower_sc rfl u_tower_comp (by decide)).mono (by decide)
  have p3 := Paired.cons o2 (fns_mono p2 (Nat.le_succ 2))
  have o3 : FOk l.prog w K mg base 4 "check_number_primes" u_check_number_0_φ := (runM_ok (c := u_check_number_0_cc) (φs := u_check_number_0_φs) (code := u_check_number_0_code) (fuel := 100) u_check_number_0_ms_eq (env_mk hcon hbl p3 .nil) F3 m3 b3 u_check_number_0_sc rfl u_check_number_0_comp (by decide)).mono (by decide)
  have p4 := Paired.cons o3 (fns_mono p3 (Nat.le_succ 3))
  have o4 : FOk l.prog w K mg base 5 "has_witness" u_has_witness_φ := (runM_ok (c := u_has_witness_cc) (φs := u_has_witness_φs) (code := u_has_witness_code) (fuel := 100) u_has_witness_ms_eq (env_mk hcon hbl p4 .nil) F4 m4 b4 u_has_witness_sc rfl u_has_witness_comp (by decide)).mono (by decide)
  have p5 := Paired.cons o4 (fns_mono p4 (Nat.le_succ 4))
  have o5 : FOk l.prog w K mg base 6 "prime" u_prime_φ := (runM_ok (c := u_prime_cc) (φs := u_prime_φs) (code := u_prime_code) (fuel := 100) u_prime_ms_eq (env_mk hcon hbl p5 .nil) F5 m5 b5 u_prime_sc rfl u_prime_comp (by decide)).mono (by decide)
  have p6 := Paired.cons o5 (fns_mono p5 (Nat.le_succ 5))
  have o6 : FOk l.prog w K mg base 7 "small_divisor" u_small_divisor_φ := (runM_ok (c := u_small_divisor_cc) (φs := u_small_divisor_φs) (code := u_small_divisor_code) (fuel := 100) u_small_divisor_ms_eq (env_mk hcon hbl p6 .nil) F6 m6 b6 u_small_divisor_sc rfl u_small_divisor_comp (by decide)).mono (by decide)
  have p7 := Paired.cons o6 (fns_mono p6 (Nat.le_succ 6))
  have o7 : FOk l.prog w K mg base 8 "divisor_of" u_divisor_of_φ := (runM_ok (c := u_divisor_of_cc) (φs := u_divisor_of_φs) (code := u_divisor_of_code) (fuel := 100) u_divisor_of_ms_eq (env_mk hcon hbl p7 .nil) F7 m7 b7 u_divisor_of_sc rfl u_divisor_of_comp (by decide)).mono (by decide)
  have p8 := Paired.cons o7 (fns_mono p7 (Nat.le_succ 7))
  have o8 : FOk l.prog w K mg base 9 "prime_parts" u_prime_parts_φ := (runM_ok (c := u_prime_parts_cc) (φs := u_prime_parts_φs) (code := u_prime_parts_code) (fuel := 100) u_prime_parts_ms_eq (env_mk hcon hbl p8 .nil) F8 m8 b8 u_prime_parts_sc rfl u_prime_parts_comp (by decide)).mono (by decide)
  have p9 := Paired.cons o8 (fns_mono p8 (Nat.le_succ 8))
  have o9 : FOk l.prog w K mg base 10 "powers_in" u_powers_in_φ := (runM_ok (c := u_powers_in_cc) (φs := u_powers_in_φs) (code := u_powers_in_code) (fuel := 100) u_powers_in_ms_eq (env_mk hcon hbl p9 .nil) F9 m9 b9 u_powers_in_sc rfl u_powers_in_comp (by decide)).mono (by decide)
  have p10 := Paired.cons o9 (fns_mono p9 (Nat.le_succ 9))
  have o10 : FOk l.prog w K mg base 11 "divisors" u_divisors_φ := (runM_ok (c := u_divisors_cc) (φs := u_divisors_φs) (code := u_divisors_code) (fuel := 100) u_divisors_ms_eq (env_mk hcon hbl p10 .nil) F10 m10 b10 u_divisors_sc rfl u_divisors_comp (by decide)).mono (by decide)
  have p11 := Paired.cons o10 (fns_mono p10 (Nat.le_succ 10))
  have o11 : FOk l.prog w K mg base 12 "units" u_units_φ := (runM_ok (c := u_units_cc) (φs := u_units_φs) (code := u_units_code) (fuel := 100) u_units_ms_eq (env_mk hcon hbl p11 .nil) F11 m11 b11 u_units_sc rfl u_units_comp (by decide)).mono (by decide)
  have p12 := Paired.cons o11 (fns_mono p11 (Nat.le_succ 11))
  have o12 : FOk l.prog w K mg base 13 "check_number" u_check_number_1_φ := (runM_ok (c := u_check_number_1_cc) (φs := u_check_number_1_φs) (code := u_check_number_1_code) (fuel := 100) u_check_number_1_ms_eq (env_mk hcon hbl p12 .nil) F12 m12 b12 u_check_number_1_sc rfl u_check_number_1_comp (by decide)).mono (by decide)
  have o12_1 : FOk l.prog w K mg base 13 "check_number_counting" u_check_number_1_φ := (runM_ok (c := u_check_number_1_cc) (φs := u_check_number_1_φs) (code := u_check_number_1_code) (fuel := 100) u_check_number_1_ms_eq (env_mk hcon hbl p12 .nil) F12 m12_1 b12 u_check_number_1_sc rfl u_check_number_1_comp (by decide)).mono (by decide)
  have p13 := Paired.cons o12 (fns_mono p12 (Nat.le_succ 12))
  have p14 := Paired.cons o12_1 p13
  have o13 : FOk l.prog w K mg base 14 "factorial" u_factorial_φ := (runM_ok (c := u_factorial_cc) (φs := u_factorial_φs) (code := u_factorial_code) (fuel := 100) u_factorial_ms_eq (env_mk hcon hbl p14 .nil) F13 m13 b13 u_factorial_sc rfl u_factorial_comp (by decide)).mono (by decide)
  have p15 := Paired.cons o13 (fns_mono p14 (Nat.le_succ 13))
  have o14 : FOk l.prog w K mg base 15 "choose" u_choose_φ := (runM_ok (c := u_choose_cc) (φs := u_choose_φs) (code := u_choose_code) (fuel := 100) u_choose_ms_eq (env_mk hcon hbl p15 .nil) F14 m14 b14 u_choose_sc rfl u_choose_comp (by decide)).mono (by decide)
  have p16 := Paired.cons o14 (fns_mono p15 (Nat.le_succ 14))
  have o15 : FOk l.prog w K mg base 16 "partitions" u_partitions_φ := (runM_ok (c := u_partitions_cc) (φs := u_partitions_φs) (code := u_partitions_code) (fuel := 100) u_partitions_ms_eq (env_mk hcon hbl p16 .nil) F15 m15 b15 u_partitions_sc rfl u_partitions_comp (by decide)).mono (by decide)
  have p17 := Paired.cons o15 (fns_mono p16 (Nat.le_succ 15))
  have o16 : FOk l.prog w K mg base 17 "count_partitions" u_count_partitions_φ := (runM_ok (c := u_count_partitions_cc) (φs := u_count_partitions_φs) (code := u_count_partitions_code) (fuel := 100) u_count_partitions_ms_eq (env_mk hcon hbl p17 .nil) F16 m16 b16 u_count_partitions_sc rfl u_count_partitions_comp (by decide)).mono (by decide)
  have p18 := Paired.cons o16 (fns_mono p17 (Nat.le_succ 16))
  have o17 : FOk l.prog w K mg base 18 "groupings" u_groupings_φ := (runM_ok (c := u_groupings_cc) (φs := u_groupings_φs) (code := u_groupings_code) (fuel := 100) u_groupings_ms_eq (env_mk hcon hbl p18 .nil) F17 m17 b17 u_groupings_sc rfl u_groupings_comp (by decide)).mono (by decide)
  have p19 := Paired.cons o17 (fns_mono p18 (Nat.le_succ 17))
  have o18 : FOk l.prog w K mg base 19 "rings" u_rings_φ := (runM_ok (c := u_rings_cc) (φs := u_rings_φs) (code := u_rings_code) (fuel := 100) u_rings_ms_eq (env_mk hcon hbl p19 .nil) F18 m18 b18 u_rings_sc rfl u_rings_comp (by decide)).mono (by decide)
  have p20 := Paired.cons o18 (fns_mono p19 (Nat.le_succ 18))
  have o19 : FOk l.prog w K mg base 20 "moved" u_moved_φ := (runM_ok (c := u_moved_cc) (φs := u_moved_φs) (code := u_moved_code) (fuel := 100) u_moved_ms_eq (env_mk hcon hbl p20 .nil) F19 m19 b19 u_moved_sc rfl u_moved_comp (by decide)).mono (by decide)
  have p21 := Paired.cons o19 (fns_mono p20 (Nat.le_succ 19))
  have o20 : FOk l.prog w K mg base 21 "brackets" u_brackets_φ := (runM_ok (c := u_brackets_cc) (φs := u_brackets_φs) (code := u_brackets_code) (fuel := 100) u_brackets_ms_eq (env_mk hcon hbl p21 .nil) F20 m20 b20 u_brackets_sc rfl u_brackets_comp (by decide)).mono (by decide)
  have p22 := Paired.cons o20 (fns_mono p21 (Nat.le_succ 20))
  have o21 : FOk l.prog w K mg base 22 "necklaces" u_necklaces_φ := (runM_ok (c := u_necklaces_cc) (φs := u_necklaces_φs) (code := u_necklaces_code) (fuel := 100) u_necklaces_ms_eq (env_mk hcon hbl p22 .nil) F21 m21 b21 u_necklaces_sc rfl u_necklaces_comp (by decide)).mono (by decide)
  have p23 := Paired.cons o21 (fns_mono p22 (Nat.le_succ 21))
  have o22 : FOk l.prog w K mg base 23 "fraction" u_fraction_φ := (own_ok (c := u_fraction_cc) (φs := u_fraction_φs) (code := u_fraction_code) (fuel := 100) u_fraction_φ (env_mk hcon hbl p23 .nil) F22 m22 b22 u_fraction_sc rfl u_fraction_comp (by decide) (Rt.frac_own (Φ := Φof u_fraction_φs) (Ψ := Ψof []) (τ := τ0) (i := 22) (Rt.common_φ (φ := u_common_φ) (Φ' := Φof u_common_φs) (runM_eq u_common_ms_eq)))).mono (by decide)
  have p24 := Paired.cons o22 (fns_mono p23 (Nat.le_succ 22))
  have o23 : FOk l.prog w K mg base 24 "plus" u_plus_φ := (own_ok (c := u_plus_cc) (φs := u_plus_φs) (code := u_plus_code) (fuel := 100) u_plus_φ (env_mk hcon hbl p24 .nil) F23 m23 b23 u_plus_sc rfl u_plus_comp (by decide) (Rt.plus_own (Φ := Φof u_plus_φs) (Ψ := Ψof []) (τ := τ0) (i := 0) rfl)).mono (by decide)
  have p25 := Paired.cons o23 (fns_mono p24 (Nat.le_succ 23))
  have o24 : FOk l.prog w K mg base 25 "minus" u_minus_φ := (own_ok (c := u_minus_cc) (φs := u_minus_φs) (code := u_minus_code) (fuel := 100) u_minus_φ (env_mk hcon hbl p25 .nil) F24 m24 b24 u_minus_sc rfl u_minus_comp (by decide) (Rt.minus_own (Φ := Φof u_minus_φs) (Ψ := Ψof []) (τ := τ0) (i := 1) rfl)).mono (by decide)
  have p26 := Paired.cons o24 (fns_mono p25 (Nat.le_succ 24))
  have o25 : FOk l.prog w K mg base 26 "times" u_times_φ := (own_ok (c := u_times_cc) (φs := u_times_φs) (code := u_times_code) (fuel := 100) u_times_φ (env_mk hcon hbl p26 .nil) F25 m25 b25 u_times_sc rfl u_times_comp (by decide) (Rt.times_own (Φ := Φof u_times_φs) (Ψ := Ψof []) (τ := τ0) (i := 2) rfl)).mono (by decide)
  have p27 := Paired.cons o25 (fns_mono p26 (Nat.le_succ 25))
  have o26 : FOk l.prog w K mg base 27 "over" u_over_φ := (own_ok (c := u_over_cc) (φs := u_over_φs) (code := u_over_code) (fuel := 100) u_over_φ (env_mk hcon hbl p27 .nil) F26 m26 b26 u_over_sc rfl u_over_comp (by decide) (Rt.over_own (Φ := Φof u_over_φs) (Ψ := Ψof []) (τ := τ0) (i := 3) rfl)).mono (by decide)
  have p28 := Paired.cons o26 (fns_mono p27 (Nat.le_succ 26))
  have o27 : FOk l.prog w K mg base 28 "trimmed" u_trimmed_φ := (runM_ok (c := u_trimmed_cc) (φs := u_trimmed_φs) (code := u_trimmed_code) (fuel := 100) u_trimmed_ms_eq (env_mk hcon hbl p28 .nil) F27 m27 b27 u_trimmed_sc rfl u_trimmed_comp (by decide)).mono (by decide)
  have p29 := Paired.cons o27 (fns_mono p28 (Nat.le_succ 27))
  have o28 : FOk l.prog w K mg base 29 "whole" u_whole_φ := (runM_ok (c := u_whole_cc) (φs := u_whole_φs) (code := u_whole_code) (fuel := 100) u_whole_ms_eq (env_mk hcon hbl p29 .nil) F28 m28 b28 u_whole_sc rfl u_whole_comp (by decide)).mono (by decide)
  have p30 := Paired.cons o28 (fns_mono p29 (Nat.le_succ 28))
  have o29 : FOk l.prog w K mg base 30 "degree" u_degree_φ := (runM_ok (c := u_degree_cc) (φs := u_degree_φs) (code := u_degree_code) (fuel := 100) u_degree_ms_eq (env_mk hcon hbl p30 .nil) F29 m29 b29 u_degree_sc rfl u_degree_comp (by decide)).mono (by decide)
  have p31 := Paired.cons o29 (fns_mono p30 (Nat.le_succ 29))
  have o30 : FOk l.prog w K mg base 31 "add" u_add_φ := (runM_ok (c := u_add_cc) (φs := u_add_φs) (code := u_add_code) (fuel := 100) u_add_ms_eq (env_mk hcon hbl p31 .nil) F30 m30 b30 u_add_sc rfl u_add_comp (by decide)).mono (by decide)
  have p32 := Paired.cons o30 (fns_mono p31 (Nat.le_succ 30))
  have o31 : FOk l.prog w K mg base 32 "scale" u_scale_φ := (runM_ok (c := u_scale_cc) (φs := u_scale_φs) (code := u_scale_code) (fuel := 100) u_scale_ms_eq (env_mk hcon hbl p32 .nil) F31 m31 b31 u_scale_sc rfl u_scale_comp (by decide)).mono (by decide)
  have p33 := Paired.cons o31 (fns_mono p32 (Nat.le_succ 31))
  have o32 : FOk l.prog w K mg base 33 "subtract" u_subtract_φ := (runM_ok (c := u_subtract_cc) (φs := u_subtract_φs) (code := u_subtract_code) (fuel := 100) u_subtract_ms_eq (env_mk hcon hbl p33 .nil) F32 m32 b32 u_subtract_sc rfl u_subtract_comp (by decide)).mono (by decide)
  have p34 := Paired.cons o32 (fns_mono p33 (Nat.le_succ 32))
  have o33 : FOk l.prog w K mg base 34 "multiply" u_multiply_φ := (runM_ok (c := u_multiply_cc) (φs := u_multiply_φs) (code := u_multiply_code) (fuel := 100) u_multiply_ms_eq (env_mk hcon hbl p34 .nil) F33 m33 b33 u_multiply_sc rfl u_multiply_comp (by decide)).mono (by decide)
  have p35 := Paired.cons o33 (fns_mono p34 (Nat.le_succ 33))
  have o34 : FOk l.prog w K mg base 35 "compose" u_compose_φ := (runM_ok (c := u_compose_cc) (φs := u_compose_φs) (code := u_compose_code) (fuel := 100) u_compose_ms_eq (env_mk hcon hbl p35 .nil) F34 m34 b34 u_compose_sc rfl u_compose_comp (by decide)).mono (by decide)
  have p36 := Paired.cons o34 (fns_mono p35 (Nat.le_succ 34))
  have o35 : FOk l.prog w K mg base 36 "factors_of" u_factors_of_φ := (runM_ok (c := u_factors_of_cc) (φs := u_factors_of_φs) (code := u_factors_of_code) (fuel := 100) u_factors_of_ms_eq (env_mk hcon hbl p36 .nil) F35 m35 b35 u_factors_of_sc rfl u_factors_of_comp (by decide)).mono (by decide)
  have p37 := Paired.cons o35 (fns_mono p36 (Nat.le_succ 35))
  have o36 : FOk l.prog w K mg base 37 "check_degree" u_check_degree_φ := (runM_ok (c := u_check_degree_cc) (φs := u_check_degree_φs) (code := u_check_degree_code) (fuel := 100) u_check_degree_ms_eq (env_mk hcon hbl p37 .nil) F36 m36 b36 u_check_degree_sc rfl u_check_degree_comp (by decide)).mono (by decide)
  have p38 := Paired.cons o36 (fns_mono p37 (Nat.le_succ 36))
  have o37 : FOk l.prog w K mg base 38 "choose_poly" u_choose_poly_φ := (runM_ok (c := u_choose_poly_cc) (φs := u_choose_poly_φs) (code := u_choose_poly_code) (fuel := 100) u_choose_poly_ms_eq (env_mk hcon hbl p38 .nil) F37 m37 b37 u_choose_poly_sc rfl u_choose_poly_comp (by decide)).mono (by decide)
  have p39 := Paired.cons o37 (fns_mono p38 (Nat.le_succ 37))
  have o38 : FOk l.prog w K mg base 39 "rise_of" u_rise_of_φ := (runM_ok (c := u_rise_of_cc) (φs := u_rise_of_φs) (code := u_rise_of_code) (fuel := 100) u_rise_of_ms_eq (env_mk hcon hbl p39 .nil) F38 m38 b38 u_rise_of_sc rfl u_rise_of_comp (by decide)).mono (by decide)
  have p40 := Paired.cons o38 (fns_mono p39 (Nat.le_succ 38))
  have o39 : FOk l.prog w K mg base 40 "rises" u_rises_φ := (runM_ok (c := u_rises_cc) (φs := u_rises_φs) (code := u_rises_code) (fuel := 100) u_rises_ms_eq (env_mk hcon hbl p40 .nil) F39 m39 b39 u_rises_sc rfl u_rises_comp (by decide)).mono (by decide)
  have p41 := Paired.cons o39 (fns_mono p40 (Nat.le_succ 39))
  have o40 : FOk l.prog w K mg base 41 "from_rises" u_from_rises_φ := (runM_ok (c := u_from_rises_cc) (φs := u_from_rises_φs) (code := u_from_rises_code) (fuel := 100) u_from_rises_ms_eq (env_mk hcon hbl p41 .nil) F40 m40 b40 u_from_rises_sc rfl u_from_rises_comp (by decide)).mono (by decide)
  have p42 := Paired.cons o40 (fns_mono p41 (Nat.le_succ 40))
  have o41 : FOk l.prog w K mg base 42 "is_whole" u_is_whole_φ := (runM_ok (c := u_is_whole_cc) (φs := u_is_whole_φs) (code := u_is_whole_code) (fuel := 100) u_is_whole_ms_eq (env_mk hcon hbl p42 .nil) F41 m41 b41 u_is_whole_sc rfl u_is_whole_comp (by decide)).mono (by decide)
  have p43 := Paired.cons o41 (fns_mono p42 (Nat.le_succ 41))
  have o42 : FOk l.prog w K mg base 43 "_law_raise" u__law_raise_φ := (runM_ok (c := u__law_raise_cc) (φs := u__law_raise_φs) (code := u__law_raise_code) (fuel := 100) u__law_raise_ms_eq (env_mk hcon hbl p43 .nil) F42 m42 b42 u__law_raise_sc rfl u__law_raise_comp (by decide)).mono (by decide)
  have p44 := Paired.cons o42 (fns_mono p43 (Nat.le_succ 42))
  have ot : TOk l.prog w K mg base 43 "_law_take" takeF := ⟨takeF_cells, f44, _, _, (tak_ok F44 y_int y_abs y_len).mono (by decide), m44, k44, b44⟩
  exact law_ev (c := u_law_cc) (env_mk (φs := u_law_φs) (ψs := [takeF]) hcon hbl p44 (.cons ot .nil)) F45 u_law_sc rfl rfl (by decide +kernel) (visB_ok (by decide +kernel)) (by decide +kernel) ((beg_ok F43 y_int y_list).mono (by decide)) m43 k43 b43 rfl u_law_comp hL
abbrev row (s2 s3 s4 s5 s6 s7 s8 s9 s10 s11 s12 s13 s14 s15 s16 s17 : Sl) : Rho := [.un, .tp, s2, s3, s4, s5, s6, s7, s8, s9, s10, s11, s12, s13, s14, s15, s16, s17]
noncomputable abbrev Φl := Φof u_law_φs
abbrev Ψl := Ψof [takeF]
def n3 : List Nat := [0, 1, 2]
theorem n3_mem {k : Nat} (h : k < 3) : k ∈ n3 := by unfold n3; simp; omega
def n6 : List Nat := [0, 1, 2, 3, 4, 5]
theorem n6_mem {k : Nat} (h : k < 6) : k ∈ n6 := by unfold n6; simp; omega
def n9 : List Nat := [0, 1, 2, 3, 4, 5, 6, 7, 8]
theorem n9_mem {k : Nat} (h : k < 9) : k ∈ n9 := by unfold n9; simp; omega
def n12 : List Nat := [0, 1, 2, 3, 4, 5, 6, 7, 8, 9, 10, 11]
theorem n12_mem {k : Nat} (h : k < 12) : k ∈ n12 := by unfold n12; simp; omega
theorem cA0 (s4 s5 s6 s7 s8 s9 s10 s11 s12 s13 s14 s15 s16 s17 : Sl) (τ : Tp) : (n6.map fun i => outG 14 (segA (row (.im (.int (.ofNat 0))) (.im (.int (.ofNat i))) s4 s5 s6 s7 s8 s9 s10 s11 s12 s13 s14 s15 s16 s17) τ)) = [(true, (.im (.int (.ofNat 0))), (.im (.int (.ofNat 0))), τ), (true, (.im (.int (.ofNat 0))), (.im (.int (.ofNat 1))), τ), (true, (.im (.int (.ofNat 0))), (.im (.int (.ofNat 2))), τ), (true, (.im (.int (.ofNat 0))), (.im (.int (.ofNat 3))), τ), (true, (.im (.int (.ofNat 0))), (.im (.int (.ofNat 4))), τ), (true, (.im (.int (.ofNat 0))), (.im (.int (.ofNat 5))), τ)] := by kernel_rfl
theorem cA1 (s4 s5 s6 s7 s8 s9 s10 s11 s12 s13 s14 s15 s16 s17 : Sl) (τ : Tp) : (n6.map fun i => outG 14 (segA (row (.im (.int (.ofNat 1))) (.im (.int (.ofNat i))) s4 s5 s6 s7 s8 s9 s10 s11 s12 s13 s14 s15 s16 s17) τ)) = [(true, (.im (.int (.ofNat 1))), (.im (.int (.ofNat 0))), τ), (true, (.im (.int (.ofNat 1))), (.im (.int (.ofNat 1))), τ), (true, (.im (.int (.ofNat 1))), (.im (.int (.ofNat 2))), τ), (true, (.im (.int (.ofNat 1))), (.im (.int (.ofNat 3))), τ), (true, (.im (.int (.ofNat 1))), (.im (.int (.ofNat 4))), τ), (true, (.im (.int (.ofNat 1))), (.im (.int (.ofNat 5))), τ)] := by kernel_rfl
theorem cA2 (s4 s5 s6 s7 s8 s9 s10 s11 s12 s13 s14 s15 s16 s17 : Sl) (τ : Tp) : (n6.map fun i => outG 14 (segA (row (.im (.int (.ofNat 2))) (.im (.int (.ofNat i))) s4 s5 s6 s7 s8 s9 s10 s11 s12 s13 s14 s15 s16 s17) τ)) = [(true, (.im (.int (.ofNat 2))), (.im (.int (.ofNat 0))), τ), (true, (.im (.int (.ofNat 2))), (.im (.int (.ofNat 1))), τ), (true, (.im (.int (.ofNat 2))), (.im (.int (.ofNat 2))), τ), (true, (.im (.int (.ofNat 2))), (.im (.int (.ofNat 3))), τ), (true, (.im (.int (.ofNat 2))), (.im (.int (.ofNat 4))), τ), (true, (.im (.int (.ofNat 2))), (.im (.int (.ofNat 5))), τ)] := by kernel_rfl
theorem cA3 (s4 s5 s6 s7 s8 s9 s10 s11 s12 s13 s14 s15 s16 s17 : Sl) (τ : Tp) : (n6.map fun i => outG 14 (segA (row (.im (.int (.ofNat 3))) (.im (.int (.ofNat i))) s4 s5 s6 s7 s8 s9 s10 s11 s12 s13 s14 s15 s16 s17) τ)) = [(true, (.im (.int (.ofNat 3))), (.im (.int (.ofNat 0))), τ), (true, (.im (.int (.ofNat 3))), (.im (.int (.ofNat 1))), τ), (true, (.im (.int (.ofNat 3))), (.im (.int (.ofNat 2))), τ), (true, (.im (.int (.ofNat 3))), (.im (.int (.ofNat 3))), τ), (true, (.im (.int (.ofNat 3))), (.im (.int (.ofNat 4))), τ), (true, (.im (.int (.ofNat 3))), (.im (.int (.ofNat 5))), τ)] := by kernel_rfl
theorem cA4 (s4 s5 s6 s7 s8 s9 s10 s11 s12 s13 s14 s15 s16 s17 : Sl) (τ : Tp) : (n6.map fun i => outG 14 (segA (row (.im (.int (.ofNat 4))) (.im (.int (.ofNat i))) s4 s5 s6 s7 s8 s9 s10 s11 s12 s13 s14 s15 s16 s17) τ)) = [(true, (.im (.int (.ofNat 4))), (.im (.int (.ofNat 0))), τ), (true, (.im (.int (.ofNat 4))), (.im (.int (.ofNat 1))), τ), (true, (.im (.int (.ofNat 4))), (.im (.int (.ofNat 2))), τ), (true, (.im (.int (.ofNat 4))), (.im (.int (.ofNat 3))), τ), (true, (.im (.int (.ofNat 4))), (.im (.int (.ofNat 4))), τ), (true, (.im (.int (.ofNat 4))), (.im (.int (.ofNat 5))), τ)] := by kernel_rfl
theorem cA5 (s4 s5 s6 s7 s8 s9 s10 s11 s12 s13 s14 s15 s16 s17 : Sl) (τ : Tp) : (n6.map fun i => outG 14 (segA (row (.im (.int (.ofNat 5))) (.im (.int (.ofNat i))) s4 s5 s6 s7 s8 s9 s10 s11 s12 s13 s14 s15 s16 s17) τ)) = [(true, (.im (.int (.ofNat 5))), (.im (.int (.ofNat 0))), τ), (true, (.im (.int (.ofNat 5))), (.im (.int (.ofNat 1))), τ), (true, (.im (.int (.ofNat 5))), (.im (.int (.ofNat 2))), τ), (true, (.im (.int (.ofNat 5))), (.im (.int (.ofNat 3))), τ), (true, (.im (.int (.ofNat 5))), (.im (.int (.ofNat 4))), τ), (true, (.im (.int (.ofNat 5))), (.im (.int (.ofNat 5))), τ)] := by kernel_rfl
theorem cA6 (s4 s5 s6 s7 s8 s9 s10 s11 s12 s13 s14 s15 s16 s17 : Sl) (τ : Tp) : (n6.map fun i => outG 14 (segA (row (.im (.int (.ofNat 6))) (.im (.int (.ofNat i))) s4 s5 s6 s7 s8 s9 s10 s11 s12 s13 s14 s15 s16 s17) τ)) = [(true, (.im (.int (.ofNat 6))), (.im (.int (.ofNat 0))), τ), (true, (.im (.int (.ofNat 6))), (.im (.int (.ofNat 1))), τ), (true, (.im (.int (.ofNat 6))), (.im (.int (.ofNat 2))), τ), (true, (.im (.int (.ofNat 6))), (.im (.int (.ofNat 3))), τ), (true, (.im (.int (.ofNat 6))), (.im (.int (.ofNat 4))), τ), (true, (.im (.int (.ofNat 6))), (.im (.int (.ofNat 5))), τ)] := by kernel_rfl
theorem cA7 (s4 s5 s6 s7 s8 s9 s10 s11 s12 s13 s14 s15 s16 s17 : Sl) (τ : Tp) : (n6.map fun i => outG 14 (segA (row (.im (.int (.ofNat 7))) (.im (.int (.ofNat i))) s4 s5 s6 s7 s8 s9 s10 s11 s12 s13 s14 s15 s16 s17) τ)) = [(true, (.im (.int (.ofNat 7))), (.im (.int (.ofNat 0))), τ), (true, (.im (.int (.ofNat 7))), (.im (.int (.ofNat 1))), τ), (true, (.im (.int (.ofNat 7))), (.im (.int (.ofNat 2))), τ), (true, (.im (.int (.ofNat 7))), (.im (.int (.ofNat 3))), τ), (true, (.im (.int (.ofNat 7))), (.im (.int (.ofNat 4))), τ), (true, (.im (.int (.ofNat 7))), (.im (.int (.ofNat 5))), τ)] := by kernel_rfl
theorem cA8 (s4 s5 s6 s7 s8 s9 s10 s11 s12 s13 s14 s15 s16 s17 : Sl) (τ : Tp) : (n6.map fun i => outG 14 (segA (row (.im (.int (.ofNat 8))) (.im (.int (.ofNat i))) s4 s5 s6 s7 s8 s9 s10 s11 s12 s13 s14 s15 s16 s17) τ)) = [(true, (.im (.int (.ofNat 8))), (.im (.int (.ofNat 0))), τ), (true, (.im (.int (.ofNat 8))), (.im (.int (.ofNat 1))), τ), (true, (.im (.int (.ofNat 8))), (.im (.int (.ofNat 2))), τ), (true, (.im (.int (.ofNat 8))), (.im (.int (.ofNat 3))), τ), (true, (.im (.int (.ofNat 8))), (.im (.int (.ofNat 4))), τ), (true, (.im (.int (.ofNat 8))), (.im (.int (.ofNat 5))), τ)] := by kernel_rfl
theorem cA9 (s4 s5 s6 s7 s8 s9 s10 s11 s12 s13 s14 s15 s16 s17 : Sl) (τ : Tp) : (n6.map fun i => outG 14 (segA (row (.im (.int (.ofNat 9))) (.im (.int (.ofNat i))) s4 s5 s6 s7 s8 s9 s10 s11 s12 s13 s14 s15 s16 s17) τ)) = [(true, (.im (.int (.ofNat 9))), (.im (.int (.ofNat 0))), τ), (true, (.im (.int (.ofNat 9))), (.im (.int (.ofNat 1))), τ), (true, (.im (.int (.ofNat 9))), (.im (.int (.ofNat 2))), τ), (true, (.im (.int (.ofNat 9))), (.im (.int (.ofNat 3))), τ), (true, (.im (.int (.ofNat 9))), (.im (.int (.ofNat 4))), τ), (true, (.im (.int (.ofNat 9))), (.im (.int (.ofNat 5))), τ)] := by kernel_rfl
theorem cA10 (s4 s5 s6 s7 s8 s9 s10 s11 s12 s13 s14 s15 s16 s17 : Sl) (τ : Tp) : (n6.map fun i => outG 14 (segA (row (.im (.int (.ofNat 10))) (.im (.int (.ofNat i))) s4 s5 s6 s7 s8 s9 s10 s11 s12 s13 s14 s15 s16 s17) τ)) = [(true, (.im (.int (.ofNat 10))), (.im (.int (.ofNat 0))), τ), (true, (.im (.int (.ofNat 10))), (.im (.int (.ofNat 1))), τ), (true, (.im (.int (.ofNat 10))), (.im (.int (.ofNat 2))), τ), (true, (.im (.int (.ofNat 10))), (.im (.int (.ofNat 3))), τ), (true, (.im (.int (.ofNat 10))), (.im (.int (.ofNat 4))), τ), (true, (.im (.int (.ofNat 10))), (.im (.int (.ofNat 5))), τ)] := by kernel_rfl
theorem cA11 (s4 s5 s6 s7 s8 s9 s10 s11 s12 s13 s14 s15 s16 s17 : Sl) (τ : Tp) : (n6.map fun i => outG 14 (segA (row (.im (.int (.ofNat 11))) (.im (.int (.ofNat i))) s4 s5 s6 s7 s8 s9 s10 s11 s12 s13 s14 s15 s16 s17) τ)) = [(true, (.im (.int (.ofNat 11))), (.im (.int (.ofNat 0))), τ), (true, (.im (.int (.ofNat 11))), (.im (.int (.ofNat 1))), τ), (true, (.im (.int (.ofNat 11))), (.im (.int (.ofNat 2))), τ), (true, (.im (.int (.ofNat 11))), (.im (.int (.ofNat 3))), τ), (true, (.im (.int (.ofNat 11))), (.im (.int (.ofNat 4))), τ), (true, (.im (.int (.ofNat 11))), (.im (.int (.ofNat 5))), τ)] := by kernel_rfl
theorem cA_all (s4 s5 s6 s7 s8 s9 s10 s11 s12 s13 s14 s15 s16 s17 : Sl) (τ : Tp) : ∀ q : Nat, q < 12 → ∀ i ∈ n6, outG 14 (segA (row (.im (.int (.ofNat q))) (.im (.int (.ofNat i))) s4 s5 s6 s7 s8 s9 s10 s11 s12 s13 s14 s15 s16 s17) τ) = (true, (.im (.int (.ofNat q))), (.im (.int (.ofNat i))), τ)
  | 0, _ => List.map_inj_left.mp (show (n6.map fun i => outG 14 (segA (row (.im (.int (.ofNat 0))) (.im (.int (.ofNat i))) s4 s5 s6 s7 s8 s9 s10 s11 s12 s13 s14 s15 s16 s17) τ)) = n6.map fun i => (true, (.im (.int (.ofNat 0))), (.im (.int (.ofNat i))), τ) from cA0 s4 s5 s6 s7 s8 s9 s10 s11 s12 s13 s14 s15 s16 s17 τ)
  | 1, _ => List.map_inj_left.mp (show (n6.map fun i => outG 14 (segA (row (.im (.int (.ofNat 1))) (.im (.int (.ofNat i))) s4 s5 s6 s7 s8 s9 s10 s11 s12 s13 s14 s15 s16 s17) τ)) = n6.map fun i => (true, (.im (.int (.ofNat 1))), (.im (.int (.ofNat i))), τ) from cA1 s4 s5 s6 s7 s8 s9 s10 s11 s12 s13 s14 s15 s16 s17 τ)
  | 2, _ => List.map_inj_left.mp (show (n6.map fun i => outG 14 (segA (row (.im (.int (.ofNat 2))) (.im (.int (.ofNat i))) s4 s5 s6 s7 s8 s9 s10 s11 s12 s13 s14 s15 s16 s17) τ)) = n6.map fun i => (true, (.im (.int (.ofNat 2))), (.im (.int (.ofNat i))), τ) from cA2 s4 s5 s6 s7 s8 s9 s10 s11 s12 s13 s14 s15 s16 s17 τ)
  | 3, _ => List.map_inj_left.mp (show (n6.map fun i => outG 14 (segA (row (.im (.int (.ofNat 3))) (.im (.int (.ofNat i))) s4 s5 s6 s7 s8 s9 s10 s11 s12 s13 s14 s15 s16 s17) τ)) = n6.map fun i => (true, (.im (.int (.ofNat 3))), (.im (.int (.ofNat i))), τ) from cA3 s4 s5 s6 s7 s8 s9 s10 s11 s12 s13 s14 s15 s16 s17 τ)
  | 4, _ => List.map_inj_left.mp (show (n6.map fun i => outG 14 (segA (row (.im (.int (.ofNat 4))) (.im (.int (.ofNat i))) s4 s5 s6 s7 s8 s9 s10 s11 s12 s13 s14 s15 s16 s17) τ)) = n6.map fun i => (true, (.im (.int (.ofNat 4))), (.im (.int (.ofNat i))), τ) from cA4 s4 s5 s6 s7 s8 s9 s10 s11 s12 s13 s14 s15 s16 s17 τ)
  | 5, _ => List.map_inj_left.mp (show (n6.map fun i => outG 14 (segA (row (.im (.int (.ofNat 5))) (.im (.int (.ofNat i))) s4 s5 s6 s7 s8 s9 s10 s11 s12 s13 s14 s15 s16 s17) τ)) = n6.map fun i => (true, (.im (.int (.ofNat 5))), (.im (.int (.ofNat i))), τ) from cA5 s4 s5 s6 s7 s8 s9 s10 s11 s12 s13 s14 s15 s16 s17 τ)
  | 6, _ => List.map_inj_left.mp (show (n6.map fun i => outG 14 (segA (row (.im (.int (.ofNat 6))) (.im (.int (.ofNat i))) s4 s5 s6 s7 s8 s9 s10 s11 s12 s13 s14 s15 s16 s17) τ)) = n6.map fun i => (true, (.im (.int (.ofNat 6))), (.im (.int (.ofNat i))), τ) from cA6 s4 s5 s6 s7 s8 s9 s10 s11 s12 s13 s14 s15 s16 s17 τ)
  | 7, _ => List.map_inj_left.mp (show (n6.map fun i => outG 14 (segA (row (.im (.int (.ofNat 7))) (.im (.int (.ofNat i))) s4 s5 s6 s7 s8 s9 s10 s11 s12 s13 s14 s15 s16 s17) τ)) = n6.map fun i => (true, (.im (.int (.ofNat 7))), (.im (.int (.ofNat i))), τ) from cA7 s4 s5 s6 s7 s8 s9 s10 s11 s12 s13 s14 s15 s16 s17 τ)
  | 8, _ => List.map_inj_left.mp (show (n6.map fun i => outG 14 (segA (row (.im (.int (.ofNat 8))) (.im (.int (.ofNat i))) s4 s5 s6 s7 s8 s9 s10 s11 s12 s13 s14 s15 s16 s17) τ)) = n6.map fun i => (true, (.im (.int (.ofNat 8))), (.im (.int (.ofNat i))), τ) from cA8 s4 s5 s6 s7 s8 s9 s10 s11 s12 s13 s14 s15 s16 s17 τ)
  | 9, _ => List.map_inj_left.mp (show (n6.map fun i => outG 14 (segA (row (.im (.int (.ofNat 9))) (.im (.int (.ofNat i))) s4 s5 s6 s7 s8 s9 s10 s11 s12 s13 s14 s15 s16 s17) τ)) = n6.map fun i => (true, (.im (.int (.ofNat 9))), (.im (.int (.ofNat i))), τ) from cA9 s4 s5 s6 s7 s8 s9 s10 s11 s12 s13 s14 s15 s16 s17 τ)
  | 10, _ => List.map_inj_left.mp (show (n6.map fun i => outG 14 (segA (row (.im (.int (.ofNat 10))) (.im (.int (.ofNat i))) s4 s5 s6 s7 s8 s9 s10 s11 s12 s13 s14 s15 s16 s17) τ)) = n6.map fun i => (true, (.im (.int (.ofNat 10))), (.im (.int (.ofNat i))), τ) from cA10 s4 s5 s6 s7 s8 s9 s10 s11 s12 s13 s14 s15 s16 s17 τ)
  | 11, _ => List.map_inj_left.mp (show (n6.map fun i => outG 14 (segA (row (.im (.int (.ofNat 11))) (.im (.int (.ofNat i))) s4 s5 s6 s7 s8 s9 s10 s11 s12 s13 s14 s15 s16 s17) τ)) = n6.map fun i => (true, (.im (.int (.ofNat 11))), (.im (.int (.ofNat i))), τ) from cA11 s4 s5 s6 s7 s8 s9 s10 s11 s12 s13 s14 s15 s16 s17 τ)
  | q + 12, h => absurd h (by omega)
theorem cD0 (s4 s5 s6 s7 s8 s9 s10 s11 s12 s13 s14 s15 s16 s17 : Sl) (τ : Tp) : (n6.map fun i => outG 14 (segD (row (.im (.int (.ofNat 0))) (.im (.int (.ofNat i))) s4 s5 s6 s7 s8 s9 s10 s11 s12 s13 s14 s15 s16 s17) τ)) = [(true, (.im (.int (.ofNat 0))), (.im (.int (.ofNat 0))), τ), (true, (.im (.int (.ofNat 0))), (.im (.int (.ofNat 1))), τ), (true, (.im (.int (.ofNat 0))), (.im (.int (.ofNat 2))), τ), (true, (.im (.int (.ofNat 0))), (.im (.int (.ofNat 3))), τ), (true, (.im (.int (.ofNat 0))), (.im (.int (.ofNat 4))), τ), (true, (.im (.int (.ofNat 0))), (.im (.int (.ofNat 5))), τ)] := by kernel_rfl
theorem cD1 (s4 s5 s6 s7 s8 s9 s10 s11 s12 s13 s14 s15 s16 s17 : Sl) (τ : Tp) : (n6.map fun i => outG 14 (segD (row (.im (.int (.ofNat 1))) (.im (.int (.ofNat i))) s4 s5 s6 s7 s8 s9 s10 s11 s12 s13 s14 s15 s16 s17) τ)) = [(true, (.im (.int (.ofNat 1))), (.im (.int (.ofNat 0))), τ), (true, (.im (.int (.ofNat 1))), (.im (.int (.ofNat 1))), τ), (true, (.im (.int (.ofNat 1))), (.im (.int (.ofNat 2))), τ), (true, (.im (.int (.ofNat 1))), (.im (.int (.ofNat 3))), τ), (true, (.im (.int (.ofNat 1))), (.im (.int (.ofNat 4))), τ), (true, (.im (.int (.ofNat 1))), (.im (.int (.ofNat 5))), τ)] := by kernel_rfl
theorem cD2 (s4 s5 s6 s7 s8 s9 s10 s11 s12 s13 s14 s15 s16 s17 : Sl) (τ : Tp) : (n6.map fun i => outG 14 (segD (row (.im (.int (.ofNat 2))) (.im (.int (.ofNat i))) s4 s5 s6 s7 s8 s9 s10 s11 s12 s13 s14 s15 s16 s17) τ)) = [(true, (.im (.int (.ofNat 2))), (.im (.int (.ofNat 0))), τ), (true, (.im (.int (.ofNat 2))), (.im (.int (.ofNat 1))), τ), (true, (.im (.int (.ofNat 2))), (.im (.int (.ofNat 2))), τ), (true, (.im (.int (.ofNat 2))), (.im (.int (.ofNat 3))), τ), (true, (.im (.int (.ofNat 2))), (.im (.int (.ofNat 4))), τ), (true, (.im (.int (.ofNat 2))), (.im (.int (.ofNat 5))), τ)] := by kernel_rfl
theorem cD3 (s4 s5 s6 s7 s8 s9 s10 s11 s12 s13 s14 s15 s16 s17 : Sl) (τ : Tp) : (n6.map fun i => outG 14 (segD (row (.im (.int (.ofNat 3))) (.im (.int (.ofNat i))) s4 s5 s6 s7 s8 s9 s10 s11 s12 s13 s14 s15 s16 s17) τ)) = [(true, (.im (.int (.ofNat 3))), (.im (.int (.ofNat 0))), τ), (true, (.im (.int (.ofNat 3))), (.im (.int (.ofNat 1))), τ), (true, (.im (.int (.ofNat 3))), (.im (.int (.ofNat 2))), τ), (true, (.im (.int (.ofNat 3))), (.im (.int (.ofNat 3))), τ), (true, (.im (.int (.ofNat 3))), (.im (.int (.ofNat 4))), τ), (true, (.im (.int (.ofNat 3))), (.im (.int (.ofNat 5))), τ)] := by kernel_rfl
theorem cD4 (s4 s5 s6 s7 s8 s9 s10 s11 s12 s13 s14 s15 s16 s17 : Sl) (τ : Tp) : (n6.map fun i => outG 14 (segD (row (.im (.int (.ofNat 4))) (.im (.int (.ofNat i))) s4 s5 s6 s7 s8 s9 s10 s11 s12 s13 s14 s15 s16 s17) τ)) = [(true, (.im (.int (.ofNat 4))), (.im (.int (.ofNat 0))), τ), (true, (.im (.int (.ofNat 4))), (.im (.int (.ofNat 1))), τ), (true, (.im (.int (.ofNat 4))), (.im (.int (.ofNat 2))), τ), (true, (.im (.int (.ofNat 4))), (.im (.int (.ofNat 3))), τ), (true, (.im (.int (.ofNat 4))), (.im (.int (.ofNat 4))), τ), (true, (.im (.int (.ofNat 4))), (.im (.int (.ofNat 5))), τ)] := by kernel_rfl
theorem cD5 (s4 s5 s6 s7 s8 s9 s10 s11 s12 s13 s14 s15 s16 s17 : Sl) (τ : Tp) : (n6.map fun i => outG 14 (segD (row (.im (.int (.ofNat 5))) (.im (.int (.ofNat i))) s4 s5 s6 s7 s8 s9 s10 s11 s12 s13 s14 s15 s16 s17) τ)) = [(true, (.im (.int (.ofNat 5))), (.im (.int (.ofNat 0))), τ), (true, (.im (.int (.ofNat 5))), (.im (.int (.ofNat 1))), τ), (true, (.im (.int (.ofNat 5))), (.im (.int (.ofNat 2))), τ), (true, (.im (.int (.ofNat 5))), (.im (.int (.ofNat 3))), τ), (true, (.im (.int (.ofNat 5))), (.im (.int (.ofNat 4))), τ), (true, (.im (.int (.ofNat 5))), (.im (.int (.ofNat 5))), τ)] := by kernel_rfl
theorem cD6 (s4 s5 s6 s7 s8 s9 s10 s11 s12 s13 s14 s15 s16 s17 : Sl) (τ : Tp) : (n6.map fun i => outG 14 (segD (row (.im (.int (.ofNat 6))) (.im (.int (.ofNat i))) s4 s5 s6 s7 s8 s9 s10 s11 s12 s13 s14 s15 s16 s17) τ)) = [(true, (.im (.int (.ofNat 6))), (.im (.int (.ofNat 0))), τ), (true, (.im (.int (.ofNat 6))), (.im (.int (.ofNat 1))), τ), (true, (.im (.int (.ofNat 6))), (.im (.int (.ofNat 2))), τ), (true, (.im (.int (.ofNat 6))), (.im (.int (.ofNat 3))), τ), (true, (.im (.int (.ofNat 6))), (.im (.int (.ofNat 4))), τ), (true, (.im (.int (.ofNat 6))), (.im (.int (.ofNat 5))), τ)] := by kernel_rfl
theorem cD7 (s4 s5 s6 s7 s8 s9 s10 s11 s12 s13 s14 s15 s16 s17 : Sl) (τ : Tp) : (n6.map fun i => outG 14 (segD (row (.im (.int (.ofNat 7))) (.im (.int (.ofNat i))) s4 s5 s6 s7 s8 s9 s10 s11 s12 s13 s14 s15 s16 s17) τ)) = [(true, (.im (.int (.ofNat 7))), (.im (.int (.ofNat 0))), τ), (true, (.im (.int (.ofNat 7))), (.im (.int (.ofNat 1))), τ), (true, (.im (.int (.ofNat 7))), (.im (.int (.ofNat 2))), τ), (true, (.im (.int (.ofNat 7))), (.im (.int (.ofNat 3))), τ), (true, (.im (.int (.ofNat 7))), (.im (.int (.ofNat 4))), τ), (true, (.im (.int (.ofNat 7))), (.im (.int (.ofNat 5))), τ)] := by kernel_rfl
theorem cD8 (s4 s5 s6 s7 s8 s9 s10 s11 s12 s13 s14 s15 s16 s17 : Sl) (τ : Tp) : (n6.map fun i => outG 14 (segD (row (.im (.int (.ofNat 8))) (.im (.int (.ofNat i))) s4 s5 s6 s7 s8 s9 s10 s11 s12 s13 s14 s15 s16 s17) τ)) = [(true, (.im (.int (.ofNat 8))), (.im (.int (.ofNat 0))), τ), (true, (.im (.int (.ofNat 8))), (.im (.int (.ofNat 1))), τ), (true, (.im (.int (.ofNat 8))), (.im (.int (.ofNat 2))), τ), (true, (.im (.int (.ofNat 8))), (.im (.int (.ofNat 3))), τ), (true, (.im (.int (.ofNat 8))), (.im (.int (.ofNat 4))), τ), (true, (.im (.int (.ofNat 8))), (.im (.int (.ofNat 5))), τ)] := by kernel_rfl
theorem cD9 (s4 s5 s6 s7 s8 s9 s10 s11 s12 s13 s14 s15 s16 s17 : Sl) (τ : Tp) : (n6.map fun i => outG 14 (segD (row (.im (.int (.ofNat 9))) (.im (.int (.ofNat i))) s4 s5 s6 s7 s8 s9 s10 s11 s12 s13 s14 s15 s16 s17) τ)) = [(true, (.im (.int (.ofNat 9))), (.im (.int (.ofNat 0))), τ), (true, (.im (.int (.ofNat 9))), (.im (.int (.ofNat 1))), τ), (true, (.im (.int (.ofNat 9))), (.im (.int (.ofNat 2))), τ), (true, (.im (.int (.ofNat 9))), (.im (.int (.ofNat 3))), τ), (true, (.im (.int (.ofNat 9))), (.im (.int (.ofNat 4))), τ), (true, (.im (.int (.ofNat 9))), (.im (.int (.ofNat 5))), τ)] := by kernel_rfl
theorem cD10 (s4 s5 s6 s7 s8 s9 s10 s11 s12 s13 s14 s15 s16 s17 : Sl) (τ : Tp) : (n6.map fun i => outG 14 (segD (row (.im (.int (.ofNat 10))) (.im (.int (.ofNat i))) s4 s5 s6 s7 s8 s9 s10 s11 s12 s13 s14 s15 s16 s17) τ)) = [(true, (.im (.int (.ofNat 10))), (.im (.int (.ofNat 0))), τ), (true, (.im (.int (.ofNat 10))), (.im (.int (.ofNat 1))), τ), (true, (.im (.int (.ofNat 10))), (.im (.int (.ofNat 2))), τ), (true, (.im (.int (.ofNat 10))), (.im (.int (.ofNat 3))), τ), (true, (.im (.int (.ofNat 10))), (.im (.int (.ofNat 4))), τ), (true, (.im (.int (.ofNat 10))), (.im (.int (.ofNat 5))), τ)] := by kernel_rfl
theorem cD11 (s4 s5 s6 s7 s8 s9 s10 s11 s12 s13 s14 s15 s16 s17 : Sl) (τ : Tp) : (n6.map fun i => outG 14 (segD (row (.im (.int (.ofNat 11))) (.im (.int (.ofNat i))) s4 s5 s6 s7 s8 s9 s10 s11 s12 s13 s14 s15 s16 s17) τ)) = [(true, (.im (.int (.ofNat 11))), (.im (.int (.ofNat 0))), τ), (true, (.im (.int (.ofNat 11))), (.im (.int (.ofNat 1))), τ), (true, (.im (.int (.ofNat 11))), (.im (.int (.ofNat 2))), τ), (true, (.im (.int (.ofNat 11))), (.im (.int (.ofNat 3))), τ), (true, (.im (.int (.ofNat 11))), (.im (.int (.ofNat 4))), τ), (true, (.im (.int (.ofNat 11))), (.im (.int (.ofNat 5))), τ)] := by kernel_rfl
theorem cD_all (s4 s5 s6 s7 s8 s9 s10 s11 s12 s13 s14 s15 s16 s17 : Sl) (τ : Tp) : ∀ q : Nat, q < 12 → ∀ i ∈ n6, outG 14 (segD (row (.im (.int (.ofNat q))) (.im (.int (.ofNat i))) s4 s5 s6 s7 s8 s9 s10 s11 s12 s13 s14 s15 s16 s17) τ) = (true, (.im (.int (.ofNat q))), (.im (.int (.ofNat i))), τ)
  | 0, _ => List.map_inj_left.mp (show (n6.map fun i => outG 14 (segD (row (.im (.int (.ofNat 0))) (.im (.int (.ofNat i))) s4 s5 s6 s7 s8 s9 s10 s11 s12 s13 s14 s15 s16 s17) τ)) = n6.map fun i => (true, (.im (.int (.ofNat 0))), (.im (.int (.ofNat i))), τ) from cD0 s4 s5 s6 s7 s8 s9 s10 s11 s12 s13 s14 s15 s16 s17 τ)
  | 1, _ => List.map_inj_left.mp (show (n6.map fun i => outG 14 (segD (row (.im (.int (.ofNat 1))) (.im (.int (.ofNat i))) s4 s5 s6 s7 s8 s9 s10 s11 s12 s13 s14 s15 s16 s17) τ)) = n6.map fun i => (true, (.im (.int (.ofNat 1))), (.im (.int (.ofNat i))), τ) from cD1 s4 s5 s6 s7 s8 s9 s10 s11 s12 s13 s14 s15 s16 s17 τ)
  | 2, _ => List.map_inj_left.mp (show (n6.map fun i => outG 14 (segD (row (.im (.int (.ofNat 2))) (.im (.int (.ofNat i))) s4 s5 s6 s7 s8 s9 s10 s11 s12 s13 s14 s15 s16 s17) τ)) = n6.map fun i => (true, (.im (.int (.ofNat 2))), (.im (.int (.ofNat i))), τ) from cD2 s4 s5 s6 s7 s8 s9 s10 s11 s12 s13 s14 s15 s16 s17 τ)
  | 3, _ => List.map_inj_left.mp (show (n6.map fun i => outG 14 (segD (row (.im (.int (.ofNat 3))) (.im (.int (.ofNat i))) s4 s5 s6 s7 s8 s9 s10 s11 s12 s13 s14 s15 s16 s17) τ)) = n6.map fun i => (true, (.im (.int (.ofNat 3))), (.im (.int (.ofNat i))), τ) from cD3 s4 s5 s6 s7 s8 s9 s10 s11 s12 s13 s14 s15 s16 s17 τ)
  | 4, _ => List.map_inj_left.mp (show (n6.map fun i => outG 14 (segD (row (.im (.int (.ofNat 4))) (.im (.int (.ofNat i))) s4 s5 s6 s7 s8 s9 s10 s11 s12 s13 s14 s15 s16 s17) τ)) = n6.map fun i => (true, (.im (.int (.ofNat 4))), (.im (.int (.ofNat i))), τ) from cD4 s4 s5 s6 s7 s8 s9 s10 s11 s12 s13 s14 s15 s16 s17 τ)
  | 5, _ => List.map_inj_left.mp (show (n6.map fun i => outG 14 (segD (row (.im (.int (.ofNat 5))) (.im (.int (.ofNat i))) s4 s5 s6 s7 s8 s9 s10 s11 s12 s13 s14 s15 s16 s17) τ)) = n6.map fun i => (true, (.im (.int (.ofNat 5))), (.im (.int (.ofNat i))), τ) from cD5 s4 s5 s6 s7 s8 s9 s10 s11 s12 s13 s14 s15 s16 s17 τ)
  | 6, _ => List.map_inj_left.mp (show (n6.map fun i => outG 14 (segD (row (.im (.int (.ofNat 6))) (.im (.int (.ofNat i))) s4 s5 s6 s7 s8 s9 s10 s11 s12 s13 s14 s15 s16 s17) τ)) = n6.map fun i => (true, (.im (.int (.ofNat 6))), (.im (.int (.ofNat i))), τ) from cD6 s4 s5 s6 s7 s8 s9 s10 s11 s12 s13 s14 s15 s16 s17 τ)
  | 7, _ => List.map_inj_left.mp (show (n6.map fun i => outG 14 (segD (row (.im (.int (.ofNat 7))) (.im (.int (.ofNat i))) s4 s5 s6 s7 s8 s9 s10 s11 s12 s13 s14 s15 s16 s17) τ)) = n6.map fun i => (true, (.im (.int (.ofNat 7))), (.im (.int (.ofNat i))), τ) from cD7 s4 s5 s6 s7 s8 s9 s10 s11 s12 s13 s14 s15 s16 s17 τ)
  | 8, _ => List.map_inj_left.mp (show (n6.map fun i => outG 14 (segD (row (.im (.int (.ofNat 8))) (.im (.int (.ofNat i))) s4 s5 s6 s7 s8 s9 s10 s11 s12 s13 s14 s15 s16 s17) τ)) = n6.map fun i => (true, (.im (.int (.ofNat 8))), (.im (.int (.ofNat i))), τ) from cD8 s4 s5 s6 s7 s8 s9 s10 s11 s12 s13 s14 s15 s16 s17 τ)
  | 9, _ => List.map_inj_left.mp (show (n6.map fun i => outG 14 (segD (row (.im (.int (.ofNat 9))) (.im (.int (.ofNat i))) s4 s5 s6 s7 s8 s9 s10 s11 s12 s13 s14 s15 s16 s17) τ)) = n6.map fun i => (true, (.im (.int (.ofNat 9))), (.im (.int (.ofNat i))), τ) from cD9 s4 s5 s6 s7 s8 s9 s10 s11 s12 s13 s14 s15 s16 s17 τ)
  | 10, _ => List.map_inj_left.mp (show (n6.map fun i => outG 14 (segD (row (.im (.int (.ofNat 10))) (.im (.int (.ofNat i))) s4 s5 s6 s7 s8 s9 s10 s11 s12 s13 s14 s15 s16 s17) τ)) = n6.map fun i => (true, (.im (.int (.ofNat 10))), (.im (.int (.ofNat i))), τ) from cD10 s4 s5 s6 s7 s8 s9 s10 s11 s12 s13 s14 s15 s16 s17 τ)
  | 11, _ => List.map_inj_left.mp (show (n6.map fun i => outG 14 (segD (row (.im (.int (.ofNat 11))) (.im (.int (.ofNat i))) s4 s5 s6 s7 s8 s9 s10 s11 s12 s13 s14 s15 s16 s17) τ)) = n6.map fun i => (true, (.im (.int (.ofNat 11))), (.im (.int (.ofNat i))), τ) from cD11 s4 s5 s6 s7 s8 s9 s10 s11 s12 s13 s14 s15 s16 s17 τ)
  | q + 12, h => absurd h (by omega)
theorem cH0 (s4 s5 s6 s7 s8 s9 s10 s11 s12 s13 s14 s15 s16 s17 : Sl) (τ : Tp) : (n6.map fun i => outG 14 (segH (row (.im (.int (.ofNat 0))) (.im (.int (.ofNat i))) s4 s5 s6 s7 s8 s9 s10 s11 s12 s13 s14 s15 s16 s17) τ)) = [(true, (.im (.int (.ofNat 0))), (.im (.int (.ofNat 0))), τ), (true, (.im (.int (.ofNat 0))), (.im (.int (.ofNat 1))), τ), (true, (.im (.int (.ofNat 0))), (.im (.int (.ofNat 2))), τ), (true, (.im (.int (.ofNat 0))), (.im (.int (.ofNat 3))), τ), (true, (.im (.int (.ofNat 0))), (.im (.int (.ofNat 4))), τ), (true, (.im (.int (.ofNat 0))), (.im (.int (.ofNat 5))), τ)] := by kernel_rfl
theorem cH1 (s4 s5 s6 s7 s8 s9 s10 s11 s12 s13 s14 s15 s16 s17 : Sl) (τ : Tp) : (n6.map fun i => outG 14 (segH (row (.im (.int (.ofNat 1))) (.im (.int (.ofNat i))) s4 s5 s6 s7 s8 s9 s10 s11 s12 s13 s14 s15 s16 s17) τ)) = [(true, (.im (.int (.ofNat 1))), (.im (.int (.ofNat 0))), τ), (true, (.im (.int (.ofNat 1))), (.im (.int (.ofNat 1))), τ), (true, (.im (.int (.ofNat 1))), (.im (.int (.ofNat 2))), τ), (true, (.im (.int (.ofNat 1))), (.im (.int (.ofNat 3))), τ), (true, (.im (.int (.ofNat 1))), (.im (.int (.ofNat 4))), τ), (true, (.im (.int (.ofNat 1))), (.im (.int (.ofNat 5))), τ)] := by kernel_rfl
theorem cH2 (s4 s5 s6 s7 s8 s9 s10 s11 s12 s13 s14 s15 s16 s17 : Sl) (τ : Tp) : (n6.map fun i => outG 14 (segH (row (.im (.int (.ofNat 2))) (.im (.int (.ofNat i))) s4 s5 s6 s7 s8 s9 s10 s11 s12 s13 s14 s15 s16 s17) τ)) = [(true, (.im (.int (.ofNat 2))), (.im (.int (.ofNat 0))), τ), (true, (.im (.int (.ofNat 2))), (.im (.int (.ofNat 1))), τ), (true, (.im (.int (.ofNat 2))), (.im (.int (.ofNat 2))), τ), (true, (.im (.int (.ofNat 2))), (.im (.int (.ofNat 3))), τ), (true, (.im (.int (.ofNat 2))), (.im (.int (.ofNat 4))), τ), (true, (.im (.int (.ofNat 2))), (.im (.int (.ofNat 5))), τ)] := by kernel_rfl
theorem cH3 (s4 s5 s6 s7 s8 s9 s10 s11 s12 s13 s14 s15 s16 s17 : Sl) (τ : Tp) : (n6.map fun i => outG 14 (segH (row (.im (.int (.ofNat 3))) (.im (.int (.ofNat i))) s4 s5 s6 s7 s8 s9 s10 s11 s12 s13 s14 s15 s16 s17) τ)) = [(true, (.im (.int (.ofNat 3))), (.im (.int (.ofNat 0))), τ), (true, (.im (.int (.ofNat 3))), (.im (.int (.ofNat 1))), τ), (true, (.im (.int (.ofNat 3))), (.im (.int (.ofNat 2))), τ), (true, (.im (.int (.ofNat 3))), (.im (.int (.ofNat 3))), τ), (true, (.im (.int (.ofNat 3))), (.im (.int (.ofNat 4))), τ), (true, (.im (.int (.ofNat 3))), (.im (.int (.ofNat 5))), τ)] := by kernel_rfl
theorem cH4 (s4 s5 s6 s7 s8 s9 s10 s11 s12 s13 s14 s15 s16 s17 : Sl) (τ : Tp) : (n6.map fun i => outG 14 (segH (row (.im (.int (.ofNat 4))) (.im (.int (.ofNat i))) s4 s5 s6 s7 s8 s9 s10 s11 s12 s13 s14 s15 s16 s17) τ)) = [(true, (.im (.int (.ofNat 4))), (.im (.int (.ofNat 0))), τ), (true, (.im (.int (.ofNat 4))), (.im (.int (.ofNat 1))), τ), (true, (.im (.int (.ofNat 4))), (.im (.int (.ofNat 2))), τ), (true, (.im (.int (.ofNat 4))), (.im (.int (.ofNat 3))), τ), (true, (.im (.int (.ofNat 4))), (.im (.int (.ofNat 4))), τ), (true, (.im (.int (.ofNat 4))), (.im (.int (.ofNat 5))), τ)] := by kernel_rfl
theorem cH5 (s4 s5 s6 s7 s8 s9 s10 s11 s12 s13 s14 s15 s16 s17 : Sl) (τ : Tp) : (n6.map fun i => outG 14 (segH (row (.im (.int (.ofNat 5))) (.im (.int (.ofNat i))) s4 s5 s6 s7 s8 s9 s10 s11 s12 s13 s14 s15 s16 s17) τ)) = [(true, (.im (.int (.ofNat 5))), (.im (.int (.ofNat 0))), τ), (true, (.im (.int (.ofNat 5))), (.im (.int (.ofNat 1))), τ), (true, (.im (.int (.ofNat 5))), (.im (.int (.ofNat 2))), τ), (true, (.im (.int (.ofNat 5))), (.im (.int (.ofNat 3))), τ), (true, (.im (.int (.ofNat 5))), (.im (.int (.ofNat 4))), τ), (true, (.im (.int (.ofNat 5))), (.im (.int (.ofNat 5))), τ)] := by kernel_rfl
theorem cH6 (s4 s5 s6 s7 s8 s9 s10 s11 s12 s13 s14 s15 s16 s17 : Sl) (τ : Tp) : (n6.map fun i => outG 14 (segH (row (.im (.int (.ofNat 6))) (.im (.int (.ofNat i))) s4 s5 s6 s7 s8 s9 s10 s11 s12 s13 s14 s15 s16 s17) τ)) = [(true, (.im (.int (.ofNat 6))), (.im (.int (.ofNat 0))), τ), (true, (.im (.int (.ofNat 6))), (.im (.int (.ofNat 1))), τ), (true, (.im (.int (.ofNat 6))), (.im (.int (.ofNat 2))), τ), (true, (.im (.int (.ofNat 6))), (.im (.int (.ofNat 3))), τ), (true, (.im (.int (.ofNat 6))), (.im (.int (.ofNat 4))), τ), (true, (.im (.int (.ofNat 6))), (.im (.int (.ofNat 5))), τ)] := by kernel_rfl
theorem cH7 (s4 s5 s6 s7 s8 s9 s10 s11 s12 s13 s14 s15 s16 s17 : Sl) (τ : Tp) : (n6.map fun i => outG 14 (segH (row (.im (.int (.ofNat 7))) (.im (.int (.ofNat i))) s4 s5 s6 s7 s8 s9 s10 s11 s12 s13 s14 s15 s16 s17) τ)) = [(true, (.im (.int (.ofNat 7))), (.im (.int (.ofNat 0))), τ), (true, (.im (.int (.ofNat 7))), (.im (.int (.ofNat 1))), τ), (true, (.im (.int (.ofNat 7))), (.im (.int (.ofNat 2))), τ), (true, (.im (.int (.ofNat 7))), (.im (.int (.ofNat 3))), τ), (true, (.im (.int (.ofNat 7))), (.im (.int (.ofNat 4))), τ), (true, (.im (.int (.ofNat 7))), (.im (.int (.ofNat 5))), τ)] := by kernel_rfl
theorem cH8 (s4 s5 s6 s7 s8 s9 s10 s11 s12 s13 s14 s15 s16 s17 : Sl) (τ : Tp) : (n6.map fun i => outG 14 (segH (row (.im (.int (.ofNat 8))) (.im (.int (.ofNat i))) s4 s5 s6 s7 s8 s9 s10 s11 s12 s13 s14 s15 s16 s17) τ)) = [(true, (.im (.int (.ofNat 8))), (.im (.int (.ofNat 0))), τ), (true, (.im (.int (.ofNat 8))), (.im (.int (.ofNat 1))), τ), (true, (.im (.int (.ofNat 8))), (.im (.int (.ofNat 2))), τ), (true, (.im (.int (.ofNat 8))), (.im (.int (.ofNat 3))), τ), (true, (.im (.int (.ofNat 8))), (.im (.int (.ofNat 4))), τ), (true, (.im (.int (.ofNat 8))), (.im (.int (.ofNat 5))), τ)] := by kernel_rfl
theorem cH9 (s4 s5 s6 s7 s8 s9 s10 s11 s12 s13 s14 s15 s16 s17 : Sl) (τ : Tp) : (n6.map fun i => outG 14 (segH (row (.im (.int (.ofNat 9))) (.im (.int (.ofNat i))) s4 s5 s6 s7 s8 s9 s10 s11 s12 s13 s14 s15 s16 s17) τ)) = [(true, (.im (.int (.ofNat 9))), (.im (.int (.ofNat 0))), τ), (true, (.im (.int (.ofNat 9))), (.im (.int (.ofNat 1))), τ), (true, (.im (.int (.ofNat 9))), (.im (.int (.ofNat 2))), τ), (true, (.im (.int (.ofNat 9))), (.im (.int (.ofNat 3))), τ), (true, (.im (.int (.ofNat 9))), (.im (.int (.ofNat 4))), τ), (true, (.im (.int (.ofNat 9))), (.im (.int (.ofNat 5))), τ)] := by kernel_rfl
theorem cH10 (s4 s5 s6 s7 s8 s9 s10 s11 s12 s13 s14 s15 s16 s17 : Sl) (τ : Tp) : (n6.map fun i => outG 14 (segH (row (.im (.int (.ofNat 10))) (.im (.int (.ofNat i))) s4 s5 s6 s7 s8 s9 s10 s11 s12 s13 s14 s15 s16 s17) τ)) = [(true, (.im (.int (.ofNat 10))), (.im (.int (.ofNat 0))), τ), (true, (.im (.int (.ofNat 10))), (.im (.int (.ofNat 1))), τ), (true, (.im (.int (.ofNat 10))), (.im (.int (.ofNat 2))), τ), (true, (.im (.int (.ofNat 10))), (.im (.int (.ofNat 3))), τ), (true, (.im (.int (.ofNat 10))), (.im (.int (.ofNat 4))), τ), (true, (.im (.int (.ofNat 10))), (.im (.int (.ofNat 5))), τ)] := by kernel_rfl
theorem cH11 (s4 s5 s6 s7 s8 s9 s10 s11 s12 s13 s14 s15 s16 s17 : Sl) (τ : Tp) : (n6.map fun i => outG 14 (segH (row (.im (.int (.ofNat 11))) (.im (.int (.ofNat i))) s4 s5 s6 s7 s8 s9 s10 s11 s12 s13 s14 s15 s16 s17) τ)) = [(true, (.im (.int (.ofNat 11))), (.im (.int (.ofNat 0))), τ), (true, (.im (.int (.ofNat 11))), (.im (.int (.ofNat 1))), τ), (true, (.im (.int (.ofNat 11))), (.im (.int (.ofNat 2))), τ), (true, (.im (.int (.ofNat 11))), (.im (.int (.ofNat 3))), τ), (true, (.im (.int (.ofNat 11))), (.im (.int (.ofNat 4))), τ), (true, (.im (.int (.ofNat 11))), (.im (.int (.ofNat 5))), τ)] := by kernel_rfl
theorem cH_all (s4 s5 s6 s7 s8 s9 s10 s11 s12 s13 s14 s15 s16 s17 : Sl) (τ : Tp) : ∀ q : Nat, q < 12 → ∀ i ∈ n6, outG 14 (segH (row (.im (.int (.ofNat q))) (.im (.int (.ofNat i))) s4 s5 s6 s7 s8 s9 s10 s11 s12 s13 s14 s15 s16 s17) τ) = (true, (.im (.int (.ofNat q))), (.im (.int (.ofNat i))), τ)
  | 0, _ => List.map_inj_left.mp (show (n6.map fun i => outG 14 (segH (row (.im (.int (.ofNat 0))) (.im (.int (.ofNat i))) s4 s5 s6 s7 s8 s9 s10 s11 s12 s13 s14 s15 s16 s17) τ)) = n6.map fun i => (true, (.im (.int (.ofNat 0))), (.im (.int (.ofNat i))), τ) from cH0 s4 s5 s6 s7 s8 s9 s10 s11 s12 s13 s14 s15 s16 s17 τ)
  | 1, _ => List.map_inj_left.mp (show (n6.map fun i => outG 14 (segH (row (.im (.int (.ofNat 1))) (.im (.int (.ofNat i))) s4 s5 s6 s7 s8 s9 s10 s11 s12 s13 s14 s15 s16 s17) τ)) = n6.map fun i => (true, (.im (.int (.ofNat 1))), (.im (.int (.ofNat i))), τ) from cH1 s4 s5 s6 s7 s8 s9 s10 s11 s12 s13 s14 s15 s16 s17 τ)
  | 2, _ => List.map_inj_left.mp (show (n6.map fun i => outG 14 (segH (row (.im (.int (.ofNat 2))) (.im (.int (.ofNat i))) s4 s5 s6 s7 s8 s9 s10 s11 s12 s13 s14 s15 s16 s17) τ)) = n6.map fun i => (true, (.im (.int (.ofNat 2))), (.im (.int (.ofNat i))), τ) from cH2 s4 s5 s6 s7 s8 s9 s10 s11 s12 s13 s14 s15 s16 s17 τ)
  | 3, _ => List.map_inj_left.mp (show (n6.map fun i => outG 14 (segH (row (.im (.int (.ofNat 3))) (.im (.int (.ofNat i))) s4 s5 s6 s7 s8 s9 s10 s11 s12 s13 s14 s15 s16 s17) τ)) = n6.map fun i => (true, (.im (.int (.ofNat 3))), (.im (.int (.ofNat i))), τ) from cH3 s4 s5 s6 s7 s8 s9 s10 s11 s12 s13 s14 s15 s16 s17 τ)
  | 4, _ => List.map_inj_left.mp (show (n6.map fun i => outG 14 (segH (row (.im (.int (.ofNat 4))) (.im (.int (.ofNat i))) s4 s5 s6 s7 s8 s9 s10 s11 s12 s13 s14 s15 s16 s17) τ)) = n6.map fun i => (true, (.im (.int (.ofNat 4))), (.im (.int (.ofNat i))), τ) from cH4 s4 s5 s6 s7 s8 s9 s10 s11 s12 s13 s14 s15 s16 s17 τ)
  | 5, _ => List.map_inj_left.mp (show (n6.map fun i => outG 14 (segH (row (.im (.int (.ofNat 5))) (.im (.int (.ofNat i))) s4 s5 s6 s7 s8 s9 s10 s11 s12 s13 s14 s15 s16 s17) τ)) = n6.map fun i => (true, (.im (.int (.ofNat 5))), (.im (.int (.ofNat i))), τ) from cH5 s4 s5 s6 s7 s8 s9 s10 s11 s12 s13 s14 s15 s16 s17 τ)
  | 6, _ => List.map_inj_left.mp (show (n6.map fun i => outG 14 (segH (row (.im (.int (.ofNat 6))) (.im (.int (.ofNat i))) s4 s5 s6 s7 s8 s9 s10 s11 s12 s13 s14 s15 s16 s17) τ)) = n6.map fun i => (true, (.im (.int (.ofNat 6))), (.im (.int (.ofNat i))), τ) from cH6 s4 s5 s6 s7 s8 s9 s10 s11 s12 s13 s14 s15 s16 s17 τ)
  | 7, _ => List.map_inj_left.mp (show (n6.map fun i => outG 14 (segH (row (.im (.int (.ofNat 7))) (.im (.int (.ofNat i))) s4 s5 s6 s7 s8 s9 s10 s11 s12 s13 s14 s15 s16 s17) τ)) = n6.map fun i => (true, (.im (.int (.ofNat 7))), (.im (.int (.ofNat i))), τ) from cH7 s4 s5 s6 s7 s8 s9 s10 s11 s12 s13 s14 s15 s16 s17 τ)
  | 8, _ => List.map_inj_left.mp (show (n6.map fun i => outG 14 (segH (row (.im (.int (.ofNat 8))) (.im (.int (.ofNat i))) s4 s5 s6 s7 s8 s9 s10 s11 s12 s13 s14 s15 s16 s17) τ)) = n6.map fun i => (true, (.im (.int (.ofNat 8))), (.im (.int (.ofNat i))), τ) from cH8 s4 s5 s6 s7 s8 s9 s10 s11 s12 s13 s14 s15 s16 s17 τ)
  | 9, _ => List.map_inj_left.mp (show (n6.map fun i => outG 14 (segH (row (.im (.int (.ofNat 9))) (.im (.int (.ofNat i))) s4 s5 s6 s7 s8 s9 s10 s11 s12 s13 s14 s15 s16 s17) τ)) = n6.map fun i => (true, (.im (.int (.ofNat 9))), (.im (.int (.ofNat i))), τ) from cH9 s4 s5 s6 s7 s8 s9 s10 s11 s12 s13 s14 s15 s16 s17 τ)
  | 10, _ => List.map_inj_left.mp (show (n6.map fun i => outG 14 (segH (row (.im (.int (.ofNat 10))) (.im (.int (.ofNat i))) s4 s5 s6 s7 s8 s9 s10 s11 s12 s13 s14 s15 s16 s17) τ)) = n6.map fun i => (true, (.im (.int (.ofNat 10))), (.im (.int (.ofNat i))), τ) from cH10 s4 s5 s6 s7 s8 s9 s10 s11 s12 s13 s14 s15 s16 s17 τ)
  | 11, _ => List.map_inj_left.mp (show (n6.map fun i => outG 14 (segH (row (.im (.int (.ofNat 11))) (.im (.int (.ofNat i))) s4 s5 s6 s7 s8 s9 s10 s11 s12 s13 s14 s15 s16 s17) τ)) = n6.map fun i => (true, (.im (.int (.ofNat 11))), (.im (.int (.ofNat i))), τ) from cH11 s4 s5 s6 s7 s8 s9 s10 s11 s12 s13 s14 s15 s16 s17 τ)
  | q + 12, h => absurd h (by omega)
theorem cB0 (s3 s4 s5 s6 s7 s8 s9 s10 s11 s12 s13 s14 s15 s16 s17 : Sl) (τ : Tp) : (n3.map fun i => outG 14 (segB (row (.im (.int (.ofNat (3 * 0 + i)))) s3 s4 s5 s6 s7 s8 s9 s10 s11 s12 s13 s14 s15 s16 s17) τ)) = [(true, (.im (.int (.ofNat (3 * 0 + 0)))), s3, τ), (true, (.im (.int (.ofNat (3 * 0 + 1)))), s3, τ), (true, (.im (.int (.ofNat (3 * 0 + 2)))), s3, τ)] := by kernel_rfl
theorem cB1 (s3 s4 s5 s6 s7 s8 s9 s10 s11 s12 s13 s14 s15 s16 s17 : Sl) (τ : Tp) : (n3.map fun i => outG 14 (segB (row (.im (.int (.ofNat (3 * 1 + i)))) s3 s4 s5 s6 s7 s8 s9 s10 s11 s12 s13 s14 s15 s16 s17) τ)) = [(true, (.im (.int (.ofNat (3 * 1 + 0)))), s3, τ), (true, (.im (.int (.ofNat (3 * 1 + 1)))), s3, τ), (true, (.im (.int (.ofNat (3 * 1 + 2)))), s3, τ)] := by kernel_rfl
theorem cB2 (s3 s4 s5 s6 s7 s8 s9 s10 s11 s12 s13 s14 s15 s16 s17 : Sl) (τ : Tp) : (n3.map fun i => outG 14 (segB (row (.im (.int (.ofNat (3 * 2 + i)))) s3 s4 s5 s6 s7 s8 s9 s10 s11 s12 s13 s14 s15 s16 s17) τ)) = [(true, (.im (.int (.ofNat (3 * 2 + 0)))), s3, τ), (true, (.im (.int (.ofNat (3 * 2 + 1)))), s3, τ), (true, (.im (.int (.ofNat (3 * 2 + 2)))), s3, τ)] := by kernel_rfl
theorem cB3 (s3 s4 s5 s6 s7 s8 s9 s10 s11 s12 s13 s14 s15 s16 s17 : Sl) (τ : Tp) : (n3.map fun i => outG 14 (segB (row (.im (.int (.ofNat (3 * 3 + i)))) s3 s4 s5 s6 s7 s8 s9 s10 s11 s12 s13 s14 s15 s16 s17) τ)) = [(true, (.im (.int (.ofNat (3 * 3 + 0)))), s3, τ), (true, (.im (.int (.ofNat (3 * 3 + 1)))), s3, τ), (true, (.im (.int (.ofNat (3 * 3 + 2)))), s3, τ)] := by kernel_rfl
theorem cB_all (s3 s4 s5 s6 s7 s8 s9 s10 s11 s12 s13 s14 s15 s16 s17 : Sl) (τ : Tp) : ∀ q : Nat, q < 4 → ∀ i ∈ n3, outG 14 (segB (row (.im (.int (.ofNat (3 * q + i)))) s3 s4 s5 s6 s7 s8 s9 s10 s11 s12 s13 s14 s15 s16 s17) τ) = (true, (.im (.int (.ofNat (3 * q + i)))), s3, τ)
  | 0, _ => List.map_inj_left.mp (show (n3.map fun i => outG 14 (segB (row (.im (.int (.ofNat (3 * 0 + i)))) s3 s4 s5 s6 s7 s8 s9 s10 s11 s12 s13 s14 s15 s16 s17) τ)) = n3.map fun i => (true, (.im (.int (.ofNat (3 * 0 + i)))), s3, τ) from cB0 s3 s4 s5 s6 s7 s8 s9 s10 s11 s12 s13 s14 s15 s16 s17 τ)
  | 1, _ => List.map_inj_left.mp (show (n3.map fun i => outG 14 (segB (row (.im (.int (.ofNat (3 * 1 + i)))) s3 s4 s5 s6 s7 s8 s9 s10 s11 s12 s13 s14 s15 s16 s17) τ)) = n3.map fun i => (true, (.im (.int (.ofNat (3 * 1 + i)))), s3, τ) from cB1 s3 s4 s5 s6 s7 s8 s9 s10 s11 s12 s13 s14 s15 s16 s17 τ)
  | 2, _ => List.map_inj_left.mp (show (n3.map fun i => outG 14 (segB (row (.im (.int (.ofNat (3 * 2 + i)))) s3 s4 s5 s6 s7 s8 s9 s10 s11 s12 s13 s14 s15 s16 s17) τ)) = n3.map fun i => (true, (.im (.int (.ofNat (3 * 2 + i)))), s3, τ) from cB2 s3 s4 s5 s6 s7 s8 s9 s10 s11 s12 s13 s14 s15 s16 s17 τ)
  | 3, _ => List.map_inj_left.mp (show (n3.map fun i => outG 14 (segB (row (.im (.int (.ofNat (3 * 3 + i)))) s3 s4 s5 s6 s7 s8 s9 s10 s11 s12 s13 s14 s15 s16 s17) τ)) = n3.map fun i => (true, (.im (.int (.ofNat (3 * 3 + i)))), s3, τ) from cB3 s3 s4 s5 s6 s7 s8 s9 s10 s11 s12 s13 s14 s15 s16 s17 τ)
  | q + 4, h => absurd h (by omega)
theorem cE0 (s3 s4 s5 s6 s7 s8 s9 s10 s11 s12 s13 s14 s15 s16 s17 : Sl) (τ : Tp) : (n3.map fun i => outG 14 (segE (row (.im (.int (.ofNat (3 * 0 + i)))) s3 s4 s5 s6 s7 s8 s9 s10 s11 s12 s13 s14 s15 s16 s17) τ)) = [(true, (.im (.int (.ofNat (3 * 0 + 0)))), s3, τ), (true, (.im (.int (.ofNat (3 * 0 + 1)))), s3, τ), (true, (.im (.int (.ofNat (3 * 0 + 2)))), s3, τ)] := by kernel_rfl
theorem cE1 (s3 s4 s5 s6 s7 s8 s9 s10 s11 s12 s13 s14 s15 s16 s17 : Sl) (τ : Tp) : (n3.map fun i => outG 14 (segE (row (.im (.int (.ofNat (3 * 1 + i)))) s3 s4 s5 s6 s7 s8 s9 s10 s11 s12 s13 s14 s15 s16 s17) τ)) = [(true, (.im (.int (.ofNat (3 * 1 + 0)))), s3, τ), (true, (.im (.int (.ofNat (3 * 1 + 1)))), s3, τ), (true, (.im (.int (.ofNat (3 * 1 + 2)))), s3, τ)] := by kernel_rfl
theorem cE2 (s3 s4 s5 s6 s7 s8 s9 s10 s11 s12 s13 s14 s15 s16 s17 : Sl) (τ : Tp) : (n3.map fun i => outG 14 (segE (row (.im (.int (.ofNat (3 * 2 + i)))) s3 s4 s5 s6 s7 s8 s9 s10 s11 s12 s13 s14 s15 s16 s17) τ)) = [(true, (.im (.int (.ofNat (3 * 2 + 0)))), s3, τ), (true, (.im (.int (.ofNat (3 * 2 + 1)))), s3, τ), (true, (.im (.int (.ofNat (3 * 2 + 2)))), s3, τ)] := by kernel_rfl
theorem cE3 (s3 s4 s5 s6 s7 s8 s9 s10 s11 s12 s13 s14 s15 s16 s17 : Sl) (τ : Tp) : (n3.map fun i => outG 14 (segE (row (.im (.int (.ofNat (3 * 3 + i)))) s3 s4 s5 s6 s7 s8 s9 s10 s11 s12 s13 s14 s15 s16 s17) τ)) = [(true, (.im (.int (.ofNat (3 * 3 + 0)))), s3, τ), (true, (.im (.int (.ofNat (3 * 3 + 1)))), s3, τ), (true, (.im (.int (.ofNat (3 * 3 + 2)))), s3, τ)] := by kernel_rfl
theorem cE_all (s3 s4 s5 s6 s7 s8 s9 s10 s11 s12 s13 s14 s15 s16 s17 : Sl) (τ : Tp) : ∀ q : Nat, q < 4 → ∀ i ∈ n3, outG 14 (segE (row (.im (.int (.ofNat (3 * q + i)))) s3 s4 s5 s6 s7 s8 s9 s10 s11 s12 s13 s14 s15 s16 s17) τ) = (true, (.im (.int (.ofNat (3 * q + i)))), s3, τ)
  | 0, _ => List.map_inj_left.mp (show (n3.map fun i => outG 14 (segE (row (.im (.int (.ofNat (3 * 0 + i)))) s3 s4 s5 s6 s7 s8 s9 s10 s11 s12 s13 s14 s15 s16 s17) τ)) = n3.map fun i => (true, (.im (.int (.ofNat (3 * 0 + i)))), s3, τ) from cE0 s3 s4 s5 s6 s7 s8 s9 s10 s11 s12 s13 s14 s15 s16 s17 τ)
  | 1, _ => List.map_inj_left.mp (show (n3.map fun i => outG 14 (segE (row (.im (.int (.ofNat (3 * 1 + i)))) s3 s4 s5 s6 s7 s8 s9 s10 s11 s12 s13 s14 s15 s16 s17) τ)) = n3.map fun i => (true, (.im (.int (.ofNat (3 * 1 + i)))), s3, τ) from cE1 s3 s4 s5 s6 s7 s8 s9 s10 s11 s12 s13 s14 s15 s16 s17 τ)
  | 2, _ => List.map_inj_left.mp (show (n3.map fun i => outG 14 (segE (row (.im (.int (.ofNat (3 * 2 + i)))) s3 s4 s5 s6 s7 s8 s9 s10 s11 s12 s13 s14 s15 s16 s17) τ)) = n3.map fun i => (true, (.im (.int (.ofNat (3 * 2 + i)))), s3, τ) from cE2 s3 s4 s5 s6 s7 s8 s9 s10 s11 s12 s13 s14 s15 s16 s17 τ)
  | 3, _ => List.map_inj_left.mp (show (n3.map fun i => outG 14 (segE (row (.im (.int (.ofNat (3 * 3 + i)))) s3 s4 s5 s6 s7 s8 s9 s10 s11 s12 s13 s14 s15 s16 s17) τ)) = n3.map fun i => (true, (.im (.int (.ofNat (3 * 3 + i)))), s3, τ) from cE3 s3 s4 s5 s6 s7 s8 s9 s10 s11 s12 s13 s14 s15 s16 s17 τ)
  | q + 4, h => absurd h (by omega)
theorem cI0 (s3 s4 s5 s6 s7 s8 s9 s10 s11 s12 s13 s14 s15 s16 s17 : Sl) (τ : Tp) : (n3.map fun i => outG 14 (segI (row (.im (.int (.ofNat (3 * 0 + i)))) s3 s4 s5 s6 s7 s8 s9 s10 s11 s12 s13 s14 s15 s16 s17) τ)) = [(true, (.im (.int (.ofNat (3 * 0 + 0)))), s3, τ), (true, (.im (.int (.ofNat (3 * 0 + 1)))), s3, τ), (true, (.im (.int (.ofNat (3 * 0 + 2)))), s3, τ)] := by kernel_rfl
theorem cI1 (s3 s4 s5 s6 s7 s8 s9 s10 s11 s12 s13 s14 s15 s16 s17 : Sl) (τ : Tp) : (n3.map fun i => outG 14 (segI (row (.im (.int (.ofNat (3 * 1 + i)))) s3 s4 s5 s6 s7 s8 s9 s10 s11 s12 s13 s14 s15 s16 s17) τ)) = [(true, (.im (.int (.ofNat (3 * 1 + 0)))), s3, τ), (true, (.im (.int (.ofNat (3 * 1 + 1)))), s3, τ), (true, (.im (.int (.ofNat (3 * 1 + 2)))), s3, τ)] := by kernel_rfl
theorem cI2 (s3 s4 s5 s6 s7 s8 s9 s10 s11 s12 s13 s14 s15 s16 s17 : Sl) (τ : Tp) : (n3.map fun i => outG 14 (segI (row (.im (.int (.ofNat (3 * 2 + i)))) s3 s4 s5 s6 s7 s8 s9 s10 s11 s12 s13 s14 s15 s16 s17) τ)) = [(true, (.im (.int (.ofNat (3 * 2 + 0)))), s3, τ), (true, (.im (.int (.ofNat (3 * 2 + 1)))), s3, τ), (true, (.im (.int (.ofNat (3 * 2 + 2)))), s3, τ)] := by kernel_rfl
theorem cI3 (s3 s4 s5 s6 s7 s8 s9 s10 s11 s12 s13 s14 s15 s16 s17 : Sl) (τ : Tp) : (n3.map fun i => outG 14 (segI (row (.im (.int (.ofNat (3 * 3 + i)))) s3 s4 s5 s6 s7 s8 s9 s10 s11 s12 s13 s14 s15 s16 s17) τ)) = [(true, (.im (.int (.ofNat (3 * 3 + 0)))), s3, τ), (true, (.im (.int (.ofNat (3 * 3 + 1)))), s3, τ), (true, (.im (.int (.ofNat (3 * 3 + 2)))), s3, τ)] := by kernel_rfl
theorem cI_all (s3 s4 s5 s6 s7 s8 s9 s10 s11 s12 s13 s14 s15 s16 s17 : Sl) (τ : Tp) : ∀ q : Nat, q < 4 → ∀ i ∈ n3, outG 14 (segI (row (.im (.int (.ofNat (3 * q + i)))) s3 s4 s5 s6 s7 s8 s9 s10 s11 s12 s13 s14 s15 s16 s17) τ) = (true, (.im (.int (.ofNat (3 * q + i)))), s3, τ)
  | 0, _ => List.map_inj_left.mp (show (n3.map fun i => outG 14 (segI (row (.im (.int (.ofNat (3 * 0 + i)))) s3 s4 s5 s6 s7 s8 s9 s10 s11 s12 s13 s14 s15 s16 s17) τ)) = n3.map fun i => (true, (.im (.int (.ofNat (3 * 0 + i)))), s3, τ) from cI0 s3 s4 s5 s6 s7 s8 s9 s10 s11 s12 s13 s14 s15 s16 s17 τ)
  | 1, _ => List.map_inj_left.mp (show (n3.map fun i => outG 14 (segI (row (.im (.int (.ofNat (3 * 1 + i)))) s3 s4 s5 s6 s7 s8 s9 s10 s11 s12 s13 s14 s15 s16 s17) τ)) = n3.map fun i => (true, (.im (.int (.ofNat (3 * 1 + i)))), s3, τ) from cI1 s3 s4 s5 s6 s7 s8 s9 s10 s11 s12 s13 s14 s15 s16 s17 τ)
  | 2, _ => List.map_inj_left.mp (show (n3.map fun i => outG 14 (segI (row (.im (.int (.ofNat (3 * 2 + i)))) s3 s4 s5 s6 s7 s8 s9 s10 s11 s12 s13 s14 s15 s16 s17) τ)) = n3.map fun i => (true, (.im (.int (.ofNat (3 * 2 + i)))), s3, τ) from cI2 s3 s4 s5 s6 s7 s8 s9 s10 s11 s12 s13 s14 s15 s16 s17 τ)
  | 3, _ => List.map_inj_left.mp (show (n3.map fun i => outG 14 (segI (row (.im (.int (.ofNat (3 * 3 + i)))) s3 s4 s5 s6 s7 s8 s9 s10 s11 s12 s13 s14 s15 s16 s17) τ)) = n3.map fun i => (true, (.im (.int (.ofNat (3 * 3 + i)))), s3, τ) from cI3 s3 s4 s5 s6 s7 s8 s9 s10 s11 s12 s13 s14 s15 s16 s17 τ)
  | q + 4, h => absurd h (by omega)
theorem cF0 (s2 s4 s5 s6 s7 s8 s9 s10 s11 s12 s13 s14 s15 s16 s17 : Sl) (τ : Tp) : (n3.map fun i => outG 14 (segF (row s2 (.im (.int (.ofNat (3 * 0 + i)))) s4 s5 s6 s7 s8 s9 s10 s11 s12 s13 s14 s15 s16 s17) τ)) = [(true, s2, (.im (.int (.ofNat (3 * 0 + 0)))), τ), (true, s2, (.im (.int (.ofNat (3 * 0 + 1)))), τ), (true, s2, (.im (.int (.ofNat (3 * 0 + 2)))), τ)] := by kernel_rfl
theorem cF1 (s2 s4 s5 s6 s7 s8 s9 s10 s11 s12 s13 s14 s15 s16 s17 : Sl) (τ : Tp) : (n3.map fun i => outG 14 (segF (row s2 (.im (.int (.ofNat (3 * 1 + i)))) s4 s5 s6 s7 s8 s9 s10 s11 s12 s13 s14 s15 s16 s17) τ)) = [(true, s2, (.im (.int (.ofNat (3 * 1 + 0)))), τ), (true, s2, (.im (.int (.ofNat (3 * 1 + 1)))), τ), (true, s2, (.im (.int (.ofNat (3 * 1 + 2)))), τ)] := by kernel_rfl
theorem cF_all (s2 s4 s5 s6 s7 s8 s9 s10 s11 s12 s13 s14 s15 s16 s17 : Sl) (τ : Tp) : ∀ q : Nat, q < 2 → ∀ i ∈ n3, outG 14 (segF (row s2 (.im (.int (.ofNat (3 * q + i)))) s4 s5 s6 s7 s8 s9 s10 s11 s12 s13 s14 s15 s16 s17) τ) = (true, s2, (.im (.int (.ofNat (3 * q + i)))), τ)
  | 0, _ => List.map_inj_left.mp (show (n3.map fun i => outG 14 (segF (row s2 (.im (.int (.ofNat (3 * 0 + i)))) s4 s5 s6 s7 s8 s9 s10 s11 s12 s13 s14 s15 s16 s17) τ)) = n3.map fun i => (true, s2, (.im (.int (.ofNat (3 * 0 + i)))), τ) from cF0 s2 s4 s5 s6 s7 s8 s9 s10 s11 s12 s13 s14 s15 s16 s17 τ)
  | 1, _ => List.map_inj_left.mp (show (n3.map fun i => outG 14 (segF (row s2 (.im (.int (.ofNat (3 * 1 + i)))) s4 s5 s6 s7 s8 s9 s10 s11 s12 s13 s14 s15 s16 s17) τ)) = n3.map fun i => (true, s2, (.im (.int (.ofNat (3 * 1 + i)))), τ) from cF1 s2 s4 s5 s6 s7 s8 s9 s10 s11 s12 s13 s14 s15 s16 s17 τ)
  | q + 2, h => absurd h (by omega)
theorem cK0 (s2 s4 s5 s6 s7 s8 s9 s10 s11 s12 s13 s14 s15 s16 s17 : Sl) (τ : Tp) : (n3.map fun i => outG 14 (segK (row s2 (.im (.int (.ofNat (3 * 0 + i)))) s4 s5 s6 s7 s8 s9 s10 s11 s12 s13 s14 s15 s16 s17) τ)) = [(true, s2, (.im (.int (.ofNat (3 * 0 + 0)))), τ), (true, s2, (.im (.int (.ofNat (3 * 0 + 1)))), τ), (true, s2, (.im (.int (.ofNat (3 * 0 + 2)))), τ)] := by kernel_rfl
theorem cK1 (s2 s4 s5 s6 s7 s8 s9 s10 s11 s12 s13 s14 s15 s16 s17 : Sl) (τ : Tp) : (n3.map fun i => outG 14 (segK (row s2 (.im (.int (.ofNat (3 * 1 + i)))) s4 s5 s6 s7 s8 s9 s10 s11 s12 s13 s14 s15 s16 s17) τ)) = [(true, s2, (.im (.int (.ofNat (3 * 1 + 0)))), τ), (true, s2, (.im (.int (.ofNat (3 * 1 + 1)))), τ), (true, s2, (.im (.int (.ofNat (3 * 1 + 2)))), τ)] := by kernel_rfl
theorem cK_all (s2 s4 s5 s6 s7 s8 s9 s10 s11 s12 s13 s14 s15 s16 s17 : Sl) (τ : Tp) : ∀ q : Nat, q < 2 → ∀ i ∈ n3, outG 14 (segK (row s2 (.im (.int (.ofNat (3 * q + i)))) s4 s5 s6 s7 s8 s9 s10 s11 s12 s13 s14 s15 s16 s17) τ) = (true, s2, (.im (.int (.ofNat (3 * q + i)))), τ)
  | 0, _ => List.map_inj_left.mp (show (n3.map fun i => outG 14 (segK (row s2 (.im (.int (.ofNat (3 * 0 + i)))) s4 s5 s6 s7 s8 s9 s10 s11 s12 s13 s14 s15 s16 s17) τ)) = n3.map fun i => (true, s2, (.im (.int (.ofNat (3 * 0 + i)))), τ) from cK0 s2 s4 s5 s6 s7 s8 s9 s10 s11 s12 s13 s14 s15 s16 s17 τ)
  | 1, _ => List.map_inj_left.mp (show (n3.map fun i => outG 14 (segK (row s2 (.im (.int (.ofNat (3 * 1 + i)))) s4 s5 s6 s7 s8 s9 s10 s11 s12 s13 s14 s15 s16 s17) τ)) = n3.map fun i => (true, s2, (.im (.int (.ofNat (3 * 1 + i)))), τ) from cK1 s2 s4 s5 s6 s7 s8 s9 s10 s11 s12 s13 s14 s15 s16 s17 τ)
  | q + 2, h => absurd h (by omega)
theorem cG0 (s3 s4 s5 s6 s7 s8 s10 s11 s12 s13 s14 s15 s16 s17 : Sl) (τ : Tp) : (n9.map fun i => outG 14 (segG (row (.im (.int (.ofNat 0))) s3 s4 s5 s6 s7 s8 (.im (.int (.ofNat i))) s10 s11 s12 s13 s14 s15 s16 s17) τ)) = [(true, (.im (.int (.ofNat 0))), s3, τ), (true, (.im (.int (.ofNat 0))), s3, τ), (true, (.im (.int (.ofNat 0))), s3, τ), (true, (.im (.int (.ofNat 0))), s3, τ), (true, (.im (.int (.ofNat 0))), s3, τ), (true, (.im (.int (.ofNat 0))), s3, τ), (true, (.im (.int (.ofNat 0))), s3, τ), (true, (.im (.int (.ofNat 0))), s3, τ), (true, (.im (.int (.ofNat 0))), s3, τ)] := by kernel_rfl
theorem cG1 (s3 s4 s5 s6 s7 s8 s10 s11 s12 s13 s14 s15 s16 s17 : Sl) (τ : Tp) : (n9.map fun i => outG 14 (segG (row (.im (.int (.ofNat 1))) s3 s4 s5 s6 s7 s8 (.im (.int (.ofNat i))) s10 s11 s12 s13 s14 s15 s16 s17) τ)) = [(true, (.im (.int (.ofNat 1))), s3, τ), (true, (.im (.int (.ofNat 1))), s3, τ), (true, (.im (.int (.ofNat 1))), s3, τ), (true, (.im (.int (.ofNat 1))), s3, τ), (true, (.im (.int (.ofNat 1))), s3, τ), (true, (.im (.int (.ofNat 1))), s3, τ), (true, (.im (.int (.ofNat 1))), s3, τ), (true, (.im (.int (.ofNat 1))), s3, τ), (true, (.im (.int (.ofNat 1))), s3, τ)] := by kernel_rfl
theorem cG2 (s3 s4 s5 s6 s7 s8 s10 s11 s12 s13 s14 s15 s16 s17 : Sl) (τ : Tp) : (n9.map fun i => outG 14 (segG (row (.im (.int (.ofNat 2))) s3 s4 s5 s6 s7 s8 (.im (.int (.ofNat i))) s10 s11 s12 s13 s14 s15 s16 s17) τ)) = [(true, (.im (.int (.ofNat 2))), s3, τ), (true, (.im (.int (.ofNat 2))), s3, τ), (true, (.im (.int (.ofNat 2))), s3, τ), (true, (.im (.int (.ofNat 2))), s3, τ), (true, (.im (.int (.ofNat 2))), s3, τ), (true, (.im (.int (.ofNat 2))), s3, τ), (true, (.im (.int (.ofNat 2))), s3, τ), (true, (.im (.int (.ofNat 2))), s3, τ), (true, (.im (.int (.ofNat 2))), s3, τ)] := by kernel_rfl
theorem cG3 (s3 s4 s5 s6 s7 s8 s10 s11 s12 s13 s14 s15 s16 s17 : Sl) (τ : Tp) : (n9.map fun i => outG 14 (segG (row (.im (.int (.ofNat 3))) s3 s4 s5 s6 s7 s8 (.im (.int (.ofNat i))) s10 s11 s12 s13 s14 s15 s16 s17) τ)) = [(true, (.im (.int (.ofNat 3))), s3, τ), (true, (.im (.int (.ofNat 3))), s3, τ), (true, (.im (.int (.ofNat 3))), s3, τ), (true, (.im (.int (.ofNat 3))), s3, τ), (true, (.im (.int (.ofNat 3))), s3, τ), (true, (.im (.int (.ofNat 3))), s3, τ), (true, (.im (.int (.ofNat 3))), s3, τ), (true, (.im (.int (.ofNat 3))), s3, τ), (true, (.im (.int (.ofNat 3))), s3, τ)] := by kernel_rfl
theorem cG4 (s3 s4 s5 s6 s7 s8 s10 s11 s12 s13 s14 s15 s16 s17 : Sl) (τ : Tp) : (n9.map fun i => outG 14 (segG (row (.im (.int (.ofNat 4))) s3 s4 s5 s6 s7 s8 (.im (.int (.ofNat i))) s10 s11 s12 s13 s14 s15 s16 s17) τ)) = [(true, (.im (.int (.ofNat 4))), s3, τ), (true, (.im (.int (.ofNat 4))), s3, τ), (true, (.im (.int (.ofNat 4))), s3, τ), (true, (.im (.int (.ofNat 4))), s3, τ), (true, (.im (.int (.ofNat 4))), s3, τ), (true, (.im (.int (.ofNat 4))), s3, τ), (true, (.im (.int (.ofNat 4))), s3, τ), (true, (.im (.int (.ofNat 4))), s3, τ), (true, (.im (.int (.ofNat 4))), s3, τ)] := by kernel_rfl
theorem cG5 (s3 s4 s5 s6 s7 s8 s10 s11 s12 s13 s14 s15 s16 s17 : Sl) (τ : Tp) : (n9.map fun i => outG 14 (segG (row (.im (.int (.ofNat 5))) s3 s4 s5 s6 s7 s8 (.im (.int (.ofNat i))) s10 s11 s12 s13 s14 s15 s16 s17) τ)) = [(true, (.im (.int (.ofNat 5))), s3, τ), (true, (.im (.int (.ofNat 5))), s3, τ), (true, (.im (.int (.ofNat 5))), s3, τ), (true, (.im (.int (.ofNat 5))), s3, τ), (true, (.im (.int (.ofNat 5))), s3, τ), (true, (.im (.int (.ofNat 5))), s3, τ), (true, (.im (.int (.ofNat 5))), s3, τ), (true, (.im (.int (.ofNat 5))), s3, τ), (true, (.im (.int (.ofNat 5))), s3, τ)] := by kernel_rfl
theorem cG6 (s3 s4 s5 s6 s7 s8 s10 s11 s12 s13 s14 s15 s16 s17 : Sl) (τ : Tp) : (n9.map fun i => outG 14 (segG (row (.im (.int (.ofNat 6))) s3 s4 s5 s6 s7 s8 (.im (.int (.ofNat i))) s10 s11 s12 s13 s14 s15 s16 s17) τ)) = [(true, (.im (.int (.ofNat 6))), s3, τ), (true, (.im (.int (.ofNat 6))), s3, τ), (true, (.im (.int (.ofNat 6))), s3, τ), (true, (.im (.int (.ofNat 6))), s3, τ), (true, (.im (.int (.ofNat 6))), s3, τ), (true, (.im (.int (.ofNat 6))), s3, τ), (true, (.im (.int (.ofNat 6))), s3, τ), (true, (.im (.int (.ofNat 6))), s3, τ), (true, (.im (.int (.ofNat 6))), s3, τ)] := by kernel_rfl
theorem cG7 (s3 s4 s5 s6 s7 s8 s10 s11 s12 s13 s14 s15 s16 s17 : Sl) (τ : Tp) : (n9.map fun i => outG 14 (segG (row (.im (.int (.ofNat 7))) s3 s4 s5 s6 s7 s8 (.im (.int (.ofNat i))) s10 s11 s12 s13 s14 s15 s16 s17) τ)) = [(true, (.im (.int (.ofNat 7))), s3, τ), (true, (.im (.int (.ofNat 7))), s3, τ), (true, (.im (.int (.ofNat 7))), s3, τ), (true, (.im (.int (.ofNat 7))), s3, τ), (true, (.im (.int (.ofNat 7))), s3, τ), (true, (.im (.int (.ofNat 7))), s3, τ), (true, (.im (.int (.ofNat 7))), s3, τ), (true, (.im (.int (.ofNat 7))), s3, τ), (true, (.im (.int (.ofNat 7))), s3, τ)] := by kernel_rfl
theorem cG8 (s3 s4 s5 s6 s7 s8 s10 s11 s12 s13 s14 s15 s16 s17 : Sl) (τ : Tp) : (n9.map fun i => outG 14 (segG (row (.im (.int (.ofNat 8))) s3 s4 s5 s6 s7 s8 (.im (.int (.ofNat i))) s10 s11 s12 s13 s14 s15 s16 s17) τ)) = [(true, (.im (.int (.ofNat 8))), s3, τ), (true, (.im (.int (.ofNat 8))), s3, τ), (true, (.im (.int (.ofNat 8))), s3, τ), (true, (.im (.int (.ofNat 8))), s3, τ), (true, (.im (.int (.ofNat 8))), s3, τ), (true, (.im (.int (.ofNat 8))), s3, τ), (true, (.im (.int (.ofNat 8))), s3, τ), (true, (.im (.int (.ofNat 8))), s3, τ), (true, (.im (.int (.ofNat 8))), s3, τ)] := by kernel_rfl
theorem cG9 (s3 s4 s5 s6 s7 s8 s10 s11 s12 s13 s14 s15 s16 s17 : Sl) (τ : Tp) : (n9.map fun i => outG 14 (segG (row (.im (.int (.ofNat 9))) s3 s4 s5 s6 s7 s8 (.im (.int (.ofNat i))) s10 s11 s12 s13 s14 s15 s16 s17) τ)) = [(true, (.im (.int (.ofNat 9))), s3, τ), (true, (.im (.int (.ofNat 9))), s3, τ), (true, (.im (.int (.ofNat 9))), s3, τ), (true, (.im (.int (.ofNat 9))), s3, τ), (true, (.im (.int (.ofNat 9))), s3, τ), (true, (.im (.int (.ofNat 9))), s3, τ), (true, (.im (.int (.ofNat 9))), s3, τ), (true, (.im (.int (.ofNat 9))), s3, τ), (true, (.im (.int (.ofNat 9))), s3, τ)] := by kernel_rfl
theorem cG10 (s3 s4 s5 s6 s7 s8 s10 s11 s12 s13 s14 s15 s16 s17 : Sl) (τ : Tp) : (n9.map fun i => outG 14 (segG (row (.im (.int (.ofNat 10))) s3 s4 s5 s6 s7 s8 (.im (.int (.ofNat i))) s10 s11 s12 s13 s14 s15 s16 s17) τ)) = [(true, (.im (.int (.ofNat 10))), s3, τ), (true, (.im (.int (.ofNat 10))), s3, τ), (true, (.im (.int (.ofNat 10))), s3, τ), (true, (.im (.int (.ofNat 10))), s3, τ), (true, (.im (.int (.ofNat 10))), s3, τ), (true, (.im (.int (.ofNat 10))), s3, τ), (true, (.im (.int (.ofNat 10))), s3, τ), (true, (.im (.int (.ofNat 10))), s3, τ), (true, (.im (.int (.ofNat 10))), s3, τ)] := by kernel_rfl
theorem cG11 (s3 s4 s5 s6 s7 s8 s10 s11 s12 s13 s14 s15 s16 s17 : Sl) (τ : Tp) : (n9.map fun i => outG 14 (segG (row (.im (.int (.ofNat 11))) s3 s4 s5 s6 s7 s8 (.im (.int (.ofNat i))) s10 s11 s12 s13 s14 s15 s16 s17) τ)) = [(true, (.im (.int (.ofNat 11))), s3, τ), (true, (.im (.int (.ofNat 11))), s3, τ), (true, (.im (.int (.ofNat 11))), s3, τ), (true, (.im (.int (.ofNat 11))), s3, τ), (true, (.im (.int (.ofNat 11))), s3, τ), (true, (.im (.int (.ofNat 11))), s3, τ), (true, (.im (.int (.ofNat 11))), s3, τ), (true, (.im (.int (.ofNat 11))), s3, τ), (true, (.im (.int (.ofNat 11))), s3, τ)] := by kernel_rfl
theorem cG_all (s3 s4 s5 s6 s7 s8 s10 s11 s12 s13 s14 s15 s16 s17 : Sl) (τ : Tp) : ∀ q : Nat, q < 12 → ∀ i ∈ n9, outG 14 (segG (row (.im (.int (.ofNat q))) s3 s4 s5 s6 s7 s8 (.im (.int (.ofNat i))) s10 s11 s12 s13 s14 s15 s16 s17) τ) = (true, (.im (.int (.ofNat q))), s3, τ)
  | 0, _ => List.map_inj_left.mp (show (n9.map fun i => outG 14 (segG (row (.im (.int (.ofNat 0))) s3 s4 s5 s6 s7 s8 (.im (.int (.ofNat i))) s10 s11 s12 s13 s14 s15 s16 s17) τ)) = n9.map fun i => (true, (.im (.int (.ofNat 0))), s3, τ) from cG0 s3 s4 s5 s6 s7 s8 s10 s11 s12 s13 s14 s15 s16 s17 τ)
  | 1, _ => List.map_inj_left.mp (show (n9.map fun i => outG 14 (segG (row (.im (.int (.ofNat 1))) s3 s4 s5 s6 s7 s8 (.im (.int (.ofNat i))) s10 s11 s12 s13 s14 s15 s16 s17) τ)) = n9.map fun i => (true, (.im (.int (.ofNat 1))), s3, τ) from cG1 s3 s4 s5 s6 s7 s8 s10 s11 s12 s13 s14 s15 s16 s17 τ)
  | 2, _ => List.map_inj_left.mp (show (n9.map fun i => outG 14 (segG (row (.im (.int (.ofNat 2))) s3 s4 s5 s6 s7 s8 (.im (.int (.ofNat i))) s10 s11 s12 s13 s14 s15 s16 s17) τ)) = n9.map fun i => (true, (.im (.int (.ofNat 2))), s3, τ) from cG2 s3 s4 s5 s6 s7 s8 s10 s11 s12 s13 s14 s15 s16 s17 τ)
  | 3, _ => List.map_inj_left.mp (show (n9.map fun i => outG 14 (segG (row (.im (.int (.ofNat 3))) s3 s4 s5 s6 s7 s8 (.im (.int (.ofNat i))) s10 s11 s12 s13 s14 s15 s16 s17) τ)) = n9.map fun i => (true, (.im (.int (.ofNat 3))), s3, τ) from cG3 s3 s4 s5 s6 s7 s8 s10 s11 s12 s13 s14 s15 s16 s17 τ)
  | 4, _ => List.map_inj_left.mp (show (n9.map fun i => outG 14 (segG (row (.im (.int (.ofNat 4))) s3 s4 s5 s6 s7 s8 (.im (.int (.ofNat i))) s10 s11 s12 s13 s14 s15 s16 s17) τ)) = n9.map fun i => (true, (.im (.int (.ofNat 4))), s3, τ) from cG4 s3 s4 s5 s6 s7 s8 s10 s11 s12 s13 s14 s15 s16 s17 τ)
  | 5, _ => List.map_inj_left.mp (show (n9.map fun i => outG 14 (segG (row (.im (.int (.ofNat 5))) s3 s4 s5 s6 s7 s8 (.im (.int (.ofNat i))) s10 s11 s12 s13 s14 s15 s16 s17) τ)) = n9.map fun i => (true, (.im (.int (.ofNat 5))), s3, τ) from cG5 s3 s4 s5 s6 s7 s8 s10 s11 s12 s13 s14 s15 s16 s17 τ)
  | 6, _ => List.map_inj_left.mp (show (n9.map fun i => outG 14 (segG (row (.im (.int (.ofNat 6))) s3 s4 s5 s6 s7 s8 (.im (.int (.ofNat i))) s10 s11 s12 s13 s14 s15 s16 s17) τ)) = n9.map fun i => (true, (.im (.int (.ofNat 6))), s3, τ) from cG6 s3 s4 s5 s6 s7 s8 s10 s11 s12 s13 s14 s15 s16 s17 τ)
  | 7, _ => List.map_inj_left.mp (show (n9.map fun i => outG 14 (segG (row (.im (.int (.ofNat 7))) s3 s4 s5 s6 s7 s8 (.im (.int (.ofNat i))) s10 s11 s12 s13 s14 s15 s16 s17) τ)) = n9.map fun i => (true, (.im (.int (.ofNat 7))), s3, τ) from cG7 s3 s4 s5 s6 s7 s8 s10 s11 s12 s13 s14 s15 s16 s17 τ)
  | 8, _ => List.map_inj_left.mp (show (n9.map fun i => outG 14 (segG (row (.im (.int (.ofNat 8))) s3 s4 s5 s6 s7 s8 (.im (.int (.ofNat i))) s10 s11 s12 s13 s14 s15 s16 s17) τ)) = n9.map fun i => (true, (.im (.int (.ofNat 8))), s3, τ) from cG8 s3 s4 s5 s6 s7 s8 s10 s11 s12 s13 s14 s15 s16 s17 τ)
  | 9, _ => List.map_inj_left.mp (show (n9.map fun i => outG 14 (segG (row (.im (.int (.ofNat 9))) s3 s4 s5 s6 s7 s8 (.im (.int (.ofNat i))) s10 s11 s12 s13 s14 s15 s16 s17) τ)) = n9.map fun i => (true, (.im (.int (.ofNat 9))), s3, τ) from cG9 s3 s4 s5 s6 s7 s8 s10 s11 s12 s13 s14 s15 s16 s17 τ)
  | 10, _ => List.map_inj_left.mp (show (n9.map fun i => outG 14 (segG (row (.im (.int (.ofNat 10))) s3 s4 s5 s6 s7 s8 (.im (.int (.ofNat i))) s10 s11 s12 s13 s14 s15 s16 s17) τ)) = n9.map fun i => (true, (.im (.int (.ofNat 10))), s3, τ) from cG10 s3 s4 s5 s6 s7 s8 s10 s11 s12 s13 s14 s15 s16 s17 τ)
  | 11, _ => List.map_inj_left.mp (show (n9.map fun i => outG 14 (segG (row (.im (.int (.ofNat 11))) s3 s4 s5 s6 s7 s8 (.im (.int (.ofNat i))) s10 s11 s12 s13 s14 s15 s16 s17) τ)) = n9.map fun i => (true, (.im (.int (.ofNat 11))), s3, τ) from cG11 s3 s4 s5 s6 s7 s8 s10 s11 s12 s13 s14 s15 s16 s17 τ)
  | q + 12, h => absurd h (by omega)
theorem cJ0 (s2 s3 s4 s5 s6 s7 s8 s9 s10 s11 s14 s15 s16 s17 : Sl) (τ : Tp) : (n12.map fun i => outG 14 (segJ (row s2 s3 s4 s5 s6 s7 s8 s9 s10 s11 (.im (.int (.ofNat (1 + 0)))) (.im (.int (.ofNat (1 + i)))) s14 s15 s16 s17) τ)) = [(true, s2, s3, τ), (true, s2, s3, τ), (true, s2, s3, τ), (true, s2, s3, τ), (true, s2, s3, τ), (true, s2, s3, τ), (true, s2, s3, τ), (true, s2, s3, τ), (true, s2, s3, τ), (true, s2, s3, τ), (true, s2, s3, τ), (true, s2, s3, τ)] := by kernel_rfl
theorem cJ1 (s2 s3 s4 s5 s6 s7 s8 s9 s10 s11 s14 s15 s16 s17 : Sl) (τ : Tp) : (n12.map fun i => outG 14 (segJ (row s2 s3 s4 s5 s6 s7 s8 s9 s10 s11 (.im (.int (.ofNat (1 + 1)))) (.im (.int (.ofNat (1 + i)))) s14 s15 s16 s17) τ)) = [(true, s2, s3, τ), (true, s2, s3, τ), (true, s2, s3, τ), (true, s2, s3, τ), (true, s2, s3, τ), (true, s2, s3, τ), (true, s2, s3, τ), (true, s2, s3, τ), (true, s2, s3, τ), (true, s2, s3, τ), (true, s2, s3, τ), (true, s2, s3, τ)] := by kernel_rfl
theorem cJ2 (s2 s3 s4 s5 s6 s7 s8 s9 s10 s11 s14 s15 s16 s17 : Sl) (τ : Tp) : (n12.map fun i => outG 14 (segJ (row s2 s3 s4 s5 s6 s7 s8 s9 s10 s11 (.im (.int (.ofNat (1 + 2)))) (.im (.int (.ofNat (1 + i)))) s14 s15 s16 s17) τ)) = [(true, s2, s3, τ), (true, s2, s3, τ), (true, s2, s3, τ), (true, s2, s3, τ), (true, s2, s3, τ), (true, s2, s3, τ), (true, s2, s3, τ), (true, s2, s3, τ), (true, s2, s3, τ), (true, s2, s3, τ), (true, s2, s3, τ), (true, s2, s3, τ)] := by kernel_rfl
theorem cJ_all (s2 s3 s4 s5 s6 s7 s8 s9 s10 s11 s14 s15 s16 s17 : Sl) (τ : Tp) : ∀ q : Nat, q < 3 → ∀ i ∈ n12, outG 14 (segJ (row s2 s3 s4 s5 s6 s7 s8 s9 s10 s11 (.im (.int (.ofNat (1 + q)))) (.im (.int (.ofNat (1 + i)))) s14 s15 s16 s17) τ) = (true, s2, s3, τ)
  | 0, _ => List.map_inj_left.mp (show (n12.map fun i => outG 14 (segJ (row s2 s3 s4 s5 s6 s7 s8 s9 s10 s11 (.im (.int (.ofNat (1 + 0)))) (.im (.int (.ofNat (1 + i)))) s14 s15 s16 s17) τ)) = n12.map fun i => (true, s2, s3, τ) from cJ0 s2 s3 s4 s5 s6 s7 s8 s9 s10 s11 s14 s15 s16 s17 τ)
  | 1, _ => List.map_inj_left.mp (show (n12.map fun i => outG 14 (segJ (row s2 s3 s4 s5 s6 s7 s8 s9 s10 s11 (.im (.int (.ofNat (1 + 1)))) (.im (.int (.ofNat (1 + i)))) s14 s15 s16 s17) τ)) = n12.map fun i => (true, s2, s3, τ) from cJ1 s2 s3 s4 s5 s6 s7 s8 s9 s10 s11 s14 s15 s16 s17 τ)
  | 2, _ => List.map_inj_left.mp (show (n12.map fun i => outG 14 (segJ (row s2 s3 s4 s5 s6 s7 s8 s9 s10 s11 (.im (.int (.ofNat (1 + 2)))) (.im (.int (.ofNat (1 + i)))) s14 s15 s16 s17) τ)) = n12.map fun i => (true, s2, s3, τ) from cJ2 s2 s3 s4 s5 s6 s7 s8 s9 s10 s11 s14 s15 s16 s17 τ)
  | q + 3, h => absurd h (by omega)
/-! ### fractions and polynomials of this law -/
theorem trimOk : Rt.TrimOk u_trimmed_φ := fun l hl => Rt.trimmed_φ (runM_eq u_trimmed_ms_eq) hl
theorem addOk : Rt.AddOk u_add_φ := Rt.add_ok (t := 2) (p := 6) (runM_eq u_add_ms_eq) trimOk rfl
theorem scaOk : Rt.ScaOk u_scale_φ := Rt.sca_ok (t := 3) (p := 5) (runM_eq u_scale_ms_eq) trimOk rfl
theorem subOk : Rt.SubOk u_subtract_φ := Rt.sub_ok (ad := 1) (sc := 0) (runM_eq u_subtract_ms_eq) scaOk addOk
theorem mulOk : Rt.MulOk u_multiply_φ := Rt.mul_ok (pl := 9) (ti := 7) (tr := 5) (runM_eq u_multiply_ms_eq) rfl rfl trimOk
theorem riseOk : Rt.RiseOk u_rise_of_φ := Rt.rise_ok (su := 5) (co := 3) (ad := 3) (mu := 0) (tr := 6) (Φ' := Φof u_compose_φs) (runM_eq u_rise_of_ms_eq) subOk (runM_eq u_compose_ms_eq) addOk mulOk trimOk
theorem degOk : Rt.DgOk u_degree_φ := fun a => by
  have h : u_degree_φ = runF (Φof u_degree_φs) 1000 1 1 [.ret (.bin .sub (.blt .len [(.var 0)]) (.cst (.int 1)))] := runM_eq u_degree_ms_eq
  rw [h]
  unfold runF
  rw [if_pos (show [Rt.P a].length = 1 from rfl), evSsK_eq]
  have p : Nx.EvD (Φof u_degree_φs) (Ψof []) τ0 (start0 1 [Rt.P a]) (.bin .sub (.blt .len [(.var 0)]) (.cst (.int 1))) .S (.int ((a.length : Int) - 1)) := by
    refine Nx.ev_to ?_ (Nx.ev_sub (Nx.ev_blt (Nx.ea_cons (Nx.ev_var (i := 0) (d := Rt.P a) rfl) Nx.ea_nil) (Nx.bl_lenT (l := a.map Rt.enc))) Nx.ev_cst)
    rw [Ev.subZ_eq, Nx.lenZ_eq, List.length_map]
  unfold Nx.EvD at p
  rw [evSs, evS, p]; rfl
theorem chs : ∀ k : Nat, k < 6 → u_choose_poly_φ [.int (.ofNat k)] = some ⟨.S, Rt.P (Rt.chL k)⟩
  | 0, _ => by kernel_rfl
  | 1, _ => by kernel_rfl
  | 2, _ => by kernel_rfl
  | 3, _ => by kernel_rfl
  | 4, _ => by kernel_rfl
  | 5, _ => by kernel_rfl
  | k + 6, h => absurd h (by omega)
theorem chOk : Rt.CpOk u_choose_poly_φ := fun k hk => chs k hk
theorem from_lst {cs : List Int} (hl : cs.length ≤ 6) (hc : ∀ c ∈ cs, c.natAbs ≤ 10) : ∃ c, u_from_rises_φ [Rt.rowD cs] = some ⟨.S, Rt.P c⟩ ∧ Rt.Pl c (Rt.Wk 0 cs) 6 7200 := Rt.from_ok (ad := 9) (sc := 8) (cp := 2) (runM_eq u_from_rises_ms_eq) addOk scaOk chOk hl hc
theorem rises_lst {a : List Rat} {ds : List Int} (hl : ds.length + 1 ≤ 6) (hc : ∀ c ∈ ds, c.natAbs ≤ 10) (pa : Rt.Pl a (Rt.Wk 0 (ds ++ [1])) 6 7200) : u_rises_φ [Rt.P a] = some ⟨.S, Rt.rowD (ds ++ [1])⟩ := Rt.rises_ok (dg := 9) (ri := 0) (runM_eq u_rises_ms_eq) degOk riseOk hl hc pa
theorem whole_lst {a : List Rat} {cs : List Int} (h : u_rises_φ [Rt.P a] = some ⟨.S, Rt.rowD cs⟩) : u_is_whole_φ [Rt.P a] = some ⟨.S, .none⟩ := Rt.whole_ok (rs := 1) (runM_eq u_is_whole_ms_eq) h
/-! ### the joints -/
theorem seg_of {seg : MS} {i m : Nat} (eq : seg = evSsK Φl Ψl 1000 ((u_law_code.drop i).take m)) {ρ : Rho} {τ : Tp} {a b : Sl} (h : outG 14 (seg ρ τ) = (true, a, b, τ)) :
    ∃ s4 s5 s6 s7 s8 s9 s10 s11 s12 s13 s14 s15 s16 s17, evSs Φl Ψl 1000 ρ τ (u_law_code.drop i) = evSs Φl Ψl 1000 (row a b s4 s5 s6 s7 s8 s9 s10 s11 s12 s13 s14 s15 s16 s17) τ (u_law_code.drop (i + m)) := by
  obtain ⟨r, hr, e⟩ := outG_of h
  obtain ⟨s4, s5, s6, s7, s8, s9, s10, s11, s12, s13, s14, s15, s16, s17, rfl⟩ := len14 hr
  refine ⟨s4, s5, s6, s7, s8, s9, s10, s11, s12, s13, s14, s15, s16, s17, ?_⟩
  rw [eq, evSsK_eq] at e
  have hc : u_law_code.drop i = (u_law_code.drop i).take m ++ u_law_code.drop (i + m) := by
    rw [← List.drop_drop, List.take_append_drop]
  rw [hc]
  exact evSs_app e
theorem draw_of {ρ : Rho} {τ : Tp} {i j : Nat} {m : Int} (hp : ρ[1]? = some .tp) (h0 : 0 < m) (h1 : m < 1073741824) (hc : u_law_code.drop i = .set (.nm j) (.callT 0 1 [.cst (.int m)]) :: u_law_code.drop (i + 1)) :
    ∃ n : Nat, (n : Int) < m ∧ ∃ τ', evSs Φl Ψl 1000 ρ τ (u_law_code.drop i) = evSs Φl Ψl 1000 (ρ.set j (.im (.int (.ofNat n)))) τ' (u_law_code.drop (i + 1)) := by
  have hr := takeM_range τ h0
  obtain ⟨n, hn⟩ := Int.eq_ofNat_of_zero_le hr.1
  refine ⟨n, by omega, (takeM τ m).2, ?_⟩
  rw [hc, evSs_cons (draw hp h0 h1), hn]; rfl
theorem draw1_of {ρ : Rho} {τ : Tp} {i j : Nat} {m : Int} (hp : ρ[1]? = some .tp) (h0 : 0 < m) (h1 : m < 1073741824) (hc : u_law_code.drop i = .set (.nm j) (.bin .add (.cst (.int 1)) (.callT 0 1 [.cst (.int m)])) :: u_law_code.drop (i + 1)) :
    ∃ n : Nat, (n : Int) < m ∧ ∃ τ', evSs Φl Ψl 1000 ρ τ (u_law_code.drop i) = evSs Φl Ψl 1000 (ρ.set j (.im (.int (.ofNat (1 + n))))) τ' (u_law_code.drop (i + 1)) := by
  have hr := takeM_range τ h0
  obtain ⟨n, hn⟩ := Int.eq_ofNat_of_zero_le hr.1
  refine ⟨n, by omega, (takeM τ m).2, ?_⟩
  rw [hc, evSs_cons (draw_add hp h0 h1), hn]
  rw [show (1 : Int) + (n : Int) = Int.ofNat (1 + n) by rw [Int.ofNat_eq_natCast, Int.natCast_add]; rfl]
/-! ### the drawn numbers -/
theorem drawn {ρ : Rho} (hp : ρ[1]? = some .tp) (hl : 5 < ρ.length) : ∀ (m : Nat) (i : Int) (τ : Tp), ∃ (xs : List Int) (τ' : Tp), xs.length = m ∧ (∀ x ∈ xs, x.natAbs ≤ 10) ∧
    compL (fun ρ τ => ev Φl Ψl ρ τ (.tup [(.bin .sub (.callT 0 1 [(.cst (.int 9))]) (.cst (.int 4))), (.cst (.int 1))])) (fun ρ τ => evAll Φl Ψl ρ τ []) ρ (.nm 5) (rngD i m) τ = some (xs.map Rt.en1, τ')
  | 0, i, τ => ⟨[], τ, rfl, by simp, rfl⟩
  | m + 1, i, τ => by
    obtain ⟨xs, τ', h1, h2, h3⟩ := drawn hp hl m (i + 1) (takeM τ 9).2
    have hr := takeM_range τ (m := 9) (by decide)
    simp only [evAll] at h3
    refine ⟨((takeM τ 9).1 - 4) :: xs, τ', by rw [List.length_cons, h1], fun x hx => ?_, ?_⟩
    · rcases List.mem_cons.mp hx with e | e
      · rw [e]; omega
      · exact h2 x e
    · have hp' : (ρ.set 5 (.im (.int i)))[1]? = some .tp := by rw [List.getElem?_set_ne (by decide)]; exact hp
      have e1 : ev Φl Ψl (ρ.set 5 (.im (.int i))) τ (.tup [(.bin .sub (.callT 0 1 [(.cst (.int 9))]) (.cst (.int 4))), (.cst (.int 1))]) = some (⟨.S, Rt.en1 ((takeM τ 9).1 - 4)⟩, (takeM τ 9).2) := by
        have hs : shortL [PyData.int ((takeM τ 9).1 - 4), PyData.int 1] = true := rfl
        simp [ev, evs, Ψof, takeF, clean, noList, hp', binD, stb, hs]
      simp only [rngD, compL, tgD, Option.bind_some, evAll, if_true, e1, stb, h3, Option.map_some]
      rfl
theorem row_sh (cs : List Int) : Nx.shK (Rt.rowD cs) 8 = true := by
  have : ∀ cs : List Int, @PyData.rec_1 (fun _ => Nat → Bool) (fun _ => Nat → Bool) (fun _ => PUnit) (fun _ => PUnit) (fun _ => true) (fun _ _ => true) (fun _ _ => true) (fun x _ => PyData.canLay0 (.str x)) (fun _ ih n => @Nat.rec (fun _ => Bool) false (fun n _ => ih n) n) (fun _ ih n => @Nat.rec (fun _ => Bool) false (fun n _ => ih n) n) (fun _ _ _ => false) (fun _ => true) (fun _ _ a b n => @Bool.rec (fun _ => Bool) false (b n) (a n)) ⟨⟩ (fun _ _ _ _ => ⟨⟩) (fun _ _ _ _ => ⟨⟩) (cs.map Rt.en1) 7 = true := by
    intro cs
    induction cs with
    | nil => rfl
    | cons c cs ih => exact ih
  exact this cs
theorem row_eq (cs : List Int) : Nx.eqK (Rt.rowD cs) (Rt.rowD cs) = true := by
  rw [Nx.eqK_eq]
  simp only [PyData.eqv]
  induction cs with
  | nil => rfl
  | cons c cs ih =>
    simp only [List.map_cons, PyData.eqvAll, PyData.eqv, beq_self_eq_true, Bool.and_self, Bool.true_and]
    exact ih
theorem last2 {n k : Nat} (hk : k < 6) (τ : Tp) (s4 s5 s6 s7 s8 s9 s10 s11 s12 s13 s14 s15 s16 s17 : Sl) :
    ∃ τ', evSs Φl Ψl 1000 (row (.im (.int (.ofNat n))) (.im (.int (.ofNat k))) s4 s5 s6 s7 s8 s9 s10 s11 s12 s13 s14 s15 s16 s17) τ (u_law_code.drop 30) = some (.rt ⟨.S, .bool true⟩ τ') := by
  obtain ⟨xs, τ', h1, h2, h3⟩ := drawn (ρ := wipeR (row (.im (.int (.ofNat n))) (.im (.int (.ofNat k))) s4 s5 s6 s7 s8 s9 s10 s11 s12 s13 s14 s15 s16 s17) [5]) rfl (by show 5 < 18; decide) k 0 τ
  refine ⟨τ', ?_⟩
  have hit : itD 1 [.int (.ofNat k)] = some (rngD 0 k) := Rt.rng_ev (n := k) (by omega)
  have e1 : ev Φl Ψl (row (.im (.int (.ofNat n))) (.im (.int (.ofNat k))) s4 s5 s6 s7 s8 s9 s10 s11 s12 s13 s14 s15 s16 s17) τ (.comp (.tup [(.bin .sub (.callT 0 1 [(.cst (.int 9))]) (.cst (.int 4))), (.cst (.int 1))]) (.nm 5) 1 [(.var 3)] []) = some (⟨.F, .list (xs.map Rt.en1)⟩, τ') := by
    refine Rt.comp0 (rs := [⟨.S, .int (.ofNat k)⟩]) (its' := rngD 0 k) ?_ hit h3 (Rt.shortL_of (by rw [List.length_map]; omega))
    simp only [evs, ev, List.getElem?_cons_zero, List.getElem?_cons_succ, Option.bind_some, Option.map_some]
  have e2 : Nx.EvD Φl Ψl τ' (row (.im (.int (.ofNat n))) (.im (.int (.ofNat k))) s4 s5 s6 s7 s8 s9 s10 s11 s12 s13 s14 s15 s16 s17) (.lst [(.tup [(.cst (.int 1)), (.cst (.int 1))])]) .F (.list [Rt.en1 1]) :=
    Nx.ev_lst (ds := [Rt.en1 1]) (Nx.ea_cons (Nx.ev_tup (ds := [.int 1, .int 1]) (Nx.ea_cons Nx.ev_cst (Nx.ea_cons Nx.ev_cst Nx.ea_nil)) rfl rfl) Nx.ea_nil) rfl rfl
  unfold Nx.EvD at e2
  have e3 : binD .add (.list (xs.map Rt.en1)) (.list [Rt.en1 1]) = some ⟨.F, .list ((xs ++ [1]).map Rt.en1)⟩ := by
    have : shortL (xs.map Rt.en1 ++ [Rt.en1 1]) = true := Rt.shortL_of (by rw [List.length_append, List.length_map]; show xs.length + 1 < _; omega)
    simp only [binD, this, if_true, List.map_append, List.map_cons, List.map_nil]
  have e4 : evS Φl Ψl 1000 (row (.im (.int (.ofNat n))) (.im (.int (.ofNat k))) s4 s5 s6 s7 s8 s9 s10 s11 s12 s13 s14 s15 s16 s17) τ (.set (.nm 15) (.blt .tuple [(.bin .add (.comp (.tup [(.bin .sub (.callT 0 1 [(.cst (.int 9))]) (.cst (.int 4))), (.cst (.int 1))]) (.nm 5) 1 [(.var 3)] []) (.lst [(.tup [(.cst (.int 1)), (.cst (.int 1))])]))])) = some (.nx (row (.im (.int (.ofNat n))) (.im (.int (.ofNat k))) s4 s5 s6 s7 s8 s9 s10 s11 s12 s13 s14 (.im (Rt.rowD (xs ++ [1]))) s16 s17) τ') := by
    rw [evS, ev, evs, ev, e1, Option.bind_some, e2, Option.bind_some, e3]; rfl
  obtain ⟨c, f1, f2⟩ := from_lst (cs := xs ++ [1]) (by rw [List.length_append]; show xs.length + 1 ≤ 6; omega) (fun x hx => by
    rcases List.mem_append.mp hx with h | h
    · exact h2 x h
    · rw [List.mem_singleton.mp h]; decide)
  have f3 := rises_lst (ds := xs) (by omega) h2 f2
  have f4 := whole_lst f3
  show evSs Φl Ψl 1000 _ τ (_ :: [_]) = _
  rw [evSs_cons e4]
  have g1 : Nx.EvD Φl Ψl τ' (row (.im (.int (.ofNat n))) (.im (.int (.ofNat k))) s4 s5 s6 s7 s8 s9 s10 s11 s12 s13 s14 (.im (Rt.rowD (xs ++ [1]))) s16 s17) (.call 2 [(.var 15)]) .S (Rt.P c) := Nx.ev_call (r := ⟨.S, Rt.P c⟩) (Nx.ea_cons (Nx.ev_var (d := Rt.rowD (xs ++ [1])) rfl) Nx.ea_nil) (show Φl 2 [Rt.rowD (xs ++ [1])] = _ from f1) (Rt.clean_P c)
  have g2 : Nx.EvD Φl Ψl τ' (row (.im (.int (.ofNat n))) (.im (.int (.ofNat k))) s4 s5 s6 s7 s8 s9 s10 s11 s12 s13 s14 (.im (Rt.rowD (xs ++ [1]))) s16 s17) (.con (.cmp .eq (.call 3 [(.call 2 [(.var 15)])]) (.var 15)) (.isN (.call 1 [(.call 2 [(.var 15)])]))) .S (.bool true) := by
    refine Nx.ev_to ?_ (Nx.ev_con (x := Nx.eqK (Rt.rowD (xs ++ [1])) (Rt.rowD (xs ++ [1]))) (y := Nx.isNn .none) (Nx.ev_cmp (Nx.ev_call (r := ⟨.S, Rt.rowD (xs ++ [1])⟩) (Nx.ea_cons g1 Nx.ea_nil) (show Φl 3 [Rt.P c] = _ from f3) (Rt.rowD_clean _)) (Nx.ev_var (d := Rt.rowD (xs ++ [1])) rfl) (Nx.cmpD_eq (row_sh _) (row_sh _))) (fun _ => Nx.ev_isN (Nx.ev_call (r := ⟨.S, .none⟩) (Nx.ea_cons g1 Nx.ea_nil) (show Φl 1 [Rt.P c] = _ from f4) rfl)))
    rw [row_eq]; rfl
  unfold Nx.EvD at g2
  show evSs Φl Ψl 1000 _ τ' [.ret _] = _
  rw [evSs, evS, g2]; rfl
theorem n3q {n : Nat} : n = 3 * (n / 3) + n % 3 := (Nat.div_add_mod n 3).symm
theorem lawHolds : LawHolds := by
  intro ns seed
  refine ⟨1000, ?_⟩
  have e0 : (.un :: .tp :: List.replicate 16 .un : Rho) = row .un .un .un .un .un .un .un .un .un .un .un .un .un .un .un .un := rfl
  show ∃ τ', evSs Φl Ψl 1000 (row .un .un .un .un .un .un .un .un .un .un .un .un .un .un .un .un) ⟨ns, 0, 0, seed⟩ (u_law_code.drop 0) = some (.rt ⟨.S, .bool true⟩ τ')
  obtain ⟨n, hn, τ1, d1⟩ := draw_of (ρ := row .un .un .un .un .un .un .un .un .un .un .un .un .un .un .un .un) (τ := ⟨ns, 0, 0, seed⟩) (i := 0) (j := 2) (m := 12) rfl (by decide) (by decide) rfl
  rw [d1]
  obtain ⟨k, hk, τ2, d2⟩ := draw_of (ρ := row (.im (.int (.ofNat n))) .un .un .un .un .un .un .un .un .un .un .un .un .un .un .un) (τ := τ1) (i := 1) (j := 3) (m := 6) rfl (by decide) (by decide) rfl
  show ∃ τ', evSs Φl Ψl 1000 (row (.im (.int (.ofNat n))) .un .un .un .un .un .un .un .un .un .un .un .un .un .un .un) τ1 (u_law_code.drop 1) = _
  rw [d2]
  have hn' : n < 12 := by omega
  have hk' : k < 6 := by omega
  show ∃ τ', evSs Φl Ψl 1000 (row (.im (.int (.ofNat n))) (.im (.int (.ofNat k))) .un .un .un .un .un .un .un .un .un .un .un .un .un .un) τ2 (u_law_code.drop 2) = _
  obtain ⟨_, _, _, _, _, _, _, _, _, _, _, _, _, _, e⟩ := seg_of (i := 2) (m := 4) segA_eq (cA_all .un .un .un .un .un .un .un .un .un .un .un .un .un .un τ2 n hn' k (n6_mem hk'))
  rw [e]
  have cB : ∀ s4 s5 s6 s7 s8 s9 s10 s11 s12 s13 s14 s15 s16 s17 τ, outG 14 (segB (row (.im (.int (.ofNat n))) (.im (.int (.ofNat k))) s4 s5 s6 s7 s8 s9 s10 s11 s12 s13 s14 s15 s16 s17) τ) = (true, .im (.int (.ofNat n)), .im (.int (.ofNat k)), τ) := by
    intro s4 s5 s6 s7 s8 s9 s10 s11 s12 s13 s14 s15 s16 s17 τ
    have := cB_all (.im (.int (.ofNat k))) s4 s5 s6 s7 s8 s9 s10 s11 s12 s13 s14 s15 s16 s17 τ (n / 3) (by omega) (n % 3) (n3_mem (by omega))
    rw [← n3q] at this; exact this
  have cE : ∀ s4 s5 s6 s7 s8 s9 s10 s11 s12 s13 s14 s15 s16 s17 τ, outG 14 (segE (row (.im (.int (.ofNat n))) (.im (.int (.ofNat k))) s4 s5 s6 s7 s8 s9 s10 s11 s12 s13 s14 s15 s16 s17) τ) = (true, .im (.int (.ofNat n)), .im (.int (.ofNat k)), τ) := by
    intro s4 s5 s6 s7 s8 s9 s10 s11 s12 s13 s14 s15 s16 s17 τ
    have := cE_all (.im (.int (.ofNat k))) s4 s5 s6 s7 s8 s9 s10 s11 s12 s13 s14 s15 s16 s17 τ (n / 3) (by omega) (n % 3) (n3_mem (by omega))
    rw [← n3q] at this; exact this
  have cI : ∀ s4 s5 s6 s7 s8 s9 s10 s11 s12 s13 s14 s15 s16 s17 τ, outG 14 (segI (row (.im (.int (.ofNat n))) (.im (.int (.ofNat k))) s4 s5 s6 s7 s8 s9 s10 s11 s12 s13 s14 s15 s16 s17) τ) = (true, .im (.int (.ofNat n)), .im (.int (.ofNat k)), τ) := by
    intro s4 s5 s6 s7 s8 s9 s10 s11 s12 s13 s14 s15 s16 s17 τ
    have := cI_all (.im (.int (.ofNat k))) s4 s5 s6 s7 s8 s9 s10 s11 s12 s13 s14 s15 s16 s17 τ (n / 3) (by omega) (n % 3) (n3_mem (by omega))
    rw [← n3q] at this; exact this
  have cF : ∀ s4 s5 s6 s7 s8 s9 s10 s11 s12 s13 s14 s15 s16 s17 τ, outG 14 (segF (row (.im (.int (.ofNat n))) (.im (.int (.ofNat k))) s4 s5 s6 s7 s8 s9 s10 s11 s12 s13 s14 s15 s16 s17) τ) = (true, .im (.int (.ofNat n)), .im (.int (.ofNat k)), τ) := by
    intro s4 s5 s6 s7 s8 s9 s10 s11 s12 s13 s14 s15 s16 s17 τ
    have := cF_all (.im (.int (.ofNat n))) s4 s5 s6 s7 s8 s9 s10 s11 s12 s13 s14 s15 s16 s17 τ (k / 3) (by omega) (k % 3) (n3_mem (by omega))
    rw [← n3q] at this; exact this
  have cK : ∀ s4 s5 s6 s7 s8 s9 s10 s11 s12 s13 s14 s15 s16 s17 τ, outG 14 (segK (row (.im (.int (.ofNat n))) (.im (.int (.ofNat k))) s4 s5 s6 s7 s8 s9 s10 s11 s12 s13 s14 s15 s16 s17) τ) = (true, .im (.int (.ofNat n)), .im (.int (.ofNat k)), τ) := by
    intro s4 s5 s6 s7 s8 s9 s10 s11 s12 s13 s14 s15 s16 s17 τ
    have := cK_all (.im (.int (.ofNat n))) s4 s5 s6 s7 s8 s9 s10 s11 s12 s13 s14 s15 s16 s17 τ (k / 3) (by omega) (k % 3) (n3_mem (by omega))
    rw [← n3q] at this; exact this
  obtain ⟨_, _, _, _, _, _, _, _, _, _, _, _, _, _, e⟩ := seg_of (i := 6) (m := 4) segB_eq (cB _ _ _ _ _ _ _ _ _ _ _ _ _ _ τ2)
  rw [e]
  obtain ⟨_, _, _, _, _, _, _, _, _, _, _, _, _, _, e⟩ := seg_of (i := 10) (m := 3) segD_eq (cD_all _ _ _ _ _ _ _ _ _ _ _ _ _ _ τ2 n hn' k (n6_mem hk'))
  rw [e]
  obtain ⟨_, _, _, _, _, _, _, _, _, _, _, _, _, _, e⟩ := seg_of (i := 13) (m := 1) segE_eq (cE _ _ _ _ _ _ _ _ _ _ _ _ _ _ τ2)
  rw [e]
  obtain ⟨_, _, _, _, _, _, _, _, _, _, _, _, _, _, e⟩ := seg_of (i := 14) (m := 4) segF_eq (cF _ _ _ _ _ _ _ _ _ _ _ _ _ _ τ2)
  rw [e]
  rename_i a4 a5 a6 a7 a8 a9 a10 a11 a12 a13 a14 a15 a16 a17
  obtain ⟨x, hx, τ3, d3⟩ := draw_of (ρ := row (.im (.int (.ofNat n))) (.im (.int (.ofNat k))) a4 a5 a6 a7 a8 a9 a10 a11 a12 a13 a14 a15 a16 a17) (τ := τ2) (i := 18) (j := 9) (m := 9) rfl (by decide) (by decide) rfl
  show ∃ τ', evSs Φl Ψl 1000 (row (.im (.int (.ofNat n))) (.im (.int (.ofNat k))) a4 a5 a6 a7 a8 a9 a10 a11 a12 a13 a14 a15 a16 a17) τ2 (u_law_code.drop 18) = _
  rw [d3]
  show ∃ τ', evSs Φl Ψl 1000 (row (.im (.int (.ofNat n))) (.im (.int (.ofNat k))) a4 a5 a6 a7 a8 (.im (.int (.ofNat x))) a10 a11 a12 a13 a14 a15 a16 a17) τ3 (u_law_code.drop 19) = _
  obtain ⟨_, _, _, _, _, _, _, _, _, _, _, _, _, _, e⟩ := seg_of (i := 19) (m := 4) segG_eq (cG_all (.im (.int (.ofNat k))) a4 a5 a6 a7 a8 a10 a11 a12 a13 a14 a15 a16 a17 τ3 n hn' x (n9_mem (by omega)))
  rw [e]
  obtain ⟨_, _, _, _, _, _, _, _, _, _, _, _, _, _, e⟩ := seg_of (i := 23) (m := 1) segH_eq (cH_all _ _ _ _ _ _ _ _ _ _ _ _ _ _ τ3 n hn' k (n6_mem hk'))
  rw [e]
  obtain ⟨_, _, _, _, _, _, _, _, _, _, _, _, _, _, e⟩ := seg_of (i := 24) (m := 1) segI_eq (cI _ _ _ _ _ _ _ _ _ _ _ _ _ _ τ3)
  rw [e]
  rename_i b4 b5 b6 b7 b8 b9 b10 b11 b12 b13 b14 b15 b16 b17
  obtain ⟨co, hco, τ4, d4⟩ := draw1_of (ρ := row (.im (.int (.ofNat n))) (.im (.int (.ofNat k))) b4 b5 b6 b7 b8 b9 b10 b11 b12 b13 b14 b15 b16 b17) (τ := τ3) (i := 25) (j := 12) (m := 3) rfl (by decide) (by decide) rfl
  show ∃ τ', evSs Φl Ψl 1000 (row (.im (.int (.ofNat n))) (.im (.int (.ofNat k))) b4 b5 b6 b7 b8 b9 b10 b11 b12 b13 b14 b15 b16 b17) τ3 (u_law_code.drop 25) = _
  rw [d4]
  obtain ⟨ma, hma, τ5, d5⟩ := draw1_of (ρ := row (.im (.int (.ofNat n))) (.im (.int (.ofNat k))) b4 b5 b6 b7 b8 b9 b10 b11 (.im (.int (.ofNat (1 + co)))) b13 b14 b15 b16 b17) (τ := τ4) (i := 26) (j := 13) (m := 12) rfl (by decide) (by decide) rfl
  show ∃ τ', evSs Φl Ψl 1000 (row (.im (.int (.ofNat n))) (.im (.int (.ofNat k))) b4 b5 b6 b7 b8 b9 b10 b11 (.im (.int (.ofNat (1 + co)))) b13 b14 b15 b16 b17) τ4 (u_law_code.drop 26) = _
  rw [d5]
  show ∃ τ', evSs Φl Ψl 1000 (row (.im (.int (.ofNat n))) (.im (.int (.ofNat k))) b4 b5 b6 b7 b8 b9 b10 b11 (.im (.int (.ofNat (1 + co)))) (.im (.int (.ofNat (1 + ma)))) b14 b15 b16 b17) τ5 (u_law_code.drop 27) = _
  obtain ⟨_, _, _, _, _, _, _, _, _, _, _, _, _, _, e⟩ := seg_of (i := 27) (m := 1) segJ_eq (cJ_all (.im (.int (.ofNat n))) (.im (.int (.ofNat k))) b4 b5 b6 b7 b8 b9 b10 b11 b14 b15 b16 b17 τ5 co (by omega) ma (n12_mem (by omega)))
  rw [e]
  obtain ⟨_, _, _, _, _, _, _, _, _, _, _, _, _, _, e⟩ := seg_of (i := 28) (m := 2) segK_eq (cK _ _ _ _ _ _ _ _ _ _ _ _ _ _ τ5)
  rw [e]
  exact last2 hk' τ5 _ _ _ _ _ _ _ _ _ _ _ _ _ _

end K52

open PySem PySem.W PyProof.Rows
set_option maxHeartbeats 0 in
theorem PySem.Challenge.cw_numberguild_k52_whole_counts_by_quotient_holds : PySem.Challenge.rw_numberguild_k52_whole_counts_by_quotient.Holds := by
  w_on; o_law; k_head; (case hw => w_witness2)
  k_fill
  refine L2.walk_of (l := PySem.Challenge.rw_numberguild_k52_whole_counts_by_quotient) (n := 63) (k := 44) (x := "script") (CX := fun _ => L2.CX0) (sp := fun w => Ev.spLaw _) rfl (by decide) rfl ⟨rfl, by decide, by decide⟩ (fun w h Y => PySem.W.kIn_of Y) ?F (fun _ _ a ns hl _ hS => ⟨a, ns, rfl, hS, hl, fun _ => rfl⟩) (fun _ _ _ _ _ h => h)
  case F =>
    intro w mg fa h KX G hmg
    refine' K52.all_mk K52.lawHolds KX G hmg ?a0 ?l0 ?c0 ?k0 ?a1 ?l1 ?c1 ?k1 ?a2 ?l2 ?c2 ?k2 ?a3 ?l3 ?c3 ?k3 ?a4 ?l4 ?c4 ?k4 ?a5 ?l5 ?c5 ?k5 ?a6 ?l6 ?c6 ?k6 ?a7 ?l7 ?c7 ?k7 ?a8 ?l8 ?c8 ?k8 ?a9 ?l9 ?c9 ?k9 ?a10 ?l10 ?c10 ?k10 ?a11 ?l11 ?c11 ?k11 ?a12 ?a12_1 ?l12 ?c12 ?k12 ?a13 ?l13 ?c13 ?k13 ?a14 ?l14 ?c14 ?k14 ?a15 ?l15 ?c15 ?k15 ?a16 ?l16 ?c16 ?k16 ?a17 ?l17 ?c17 ?k17 ?a18 ?l18 ?c18 ?k18 ?a19 ?l19 ?c19 ?k19 ?a20 ?l20 ?c20 ?k20 ?a21 ?l21 ?c21 ?k21 ?a22 ?l22 ?c22 ?k22 ?a23 ?l23 ?c23 ?k23 ?a24 ?l24 ?c24 ?k24 ?a25 ?l25 ?c25 ?k25 ?a26 ?l26 ?c26 ?k26 ?a27 ?l27 ?c27 ?k27 ?a28 ?l28 ?c28 ?k28 ?a29 ?l29 ?c29 ?k29 ?a30 ?l30 ?c30 ?k30 ?a31 ?l31 ?c31 ?k31 ?a32 ?l32 ?c32 ?k32 ?a33 ?l33 ?c33 ?k33 ?a34 ?l34 ?c34 ?k34 ?a35 ?l35 ?c35 ?k35 ?a36 ?l36 ?c36 ?k36 ?a37 ?l37 ?c37 ?k37 ?a38 ?l38 ?c38 ?k38 ?a39 ?l39 ?c39 ?k39 ?a40 ?l40 ?c40 ?k40 ?a41 ?l41 ?c41 ?k41 ?a42 ?l42 ?c42 ?k42 ?a43 ?l43 ?c43 ?k43 ?a44 ?l44 ?c44 ?k44 ?a45 ?l45 ?c45 ?k45 ?z_abs ?z_any ?z_enumerate ?z_int ?z_len ?z_list ?z_max ?z_min ?z_range ?z_set ?z_sorted ?z_sum ?z_tuple ?q_BASES ?r_BASES ?q_MOST_TERMS ?q_MOST_counting ?q_MOST_primes ?q_MOST_sums ?q_ONE ?r_ONE ?q_ZERO ?r_ZERO
    (case a0 => k_is); (case l0 => k_is); (case c0 => k_is); (case k0 => k_is); (case a1 => k_is); (case l1 => k_is); (case c1 => k_is); (case k1 => k_is); (case a2 => k_is); (case l2 => k_is); (case c2 => k_is); (case k2 => k_is); (case a3 => k_is); (case l3 => k_is); (case c3 => k_is); (case k3 => k_is); (case a4 => k_is); (case l4 => k_is); (case c4 => k_is); (case k4 => k_is); (case a5 => k_is); (case l5 => k_is); (case c5 => k_is); (case k5 => k_is); (case a6 => k_is); (case l6 => k_is); (case c6 => k_is); (case k6 => k_is); (case a7 => k_is); (case l7 => k_is); (case c7 => k_is); (case k7 => k_is); (case a8 => k_is); (case l8 => k_is); (case c8 => k_is); (case k8 => k_is); (case a9 => k_is); (case l9 => k_is); (case c9 => k_is); (case k9 => k_is); (case a10 => k_is); (case l10 => k_is); (case c10 => k_is); (case k10 => k_is); (case a11 => k_is); (case l11 => k_is); (case c11 => k_is); (case k11 => k_is); (case a12 => k_is); (case a12_1 => k_is); (case l12 => k_is); (case c12 => k_is); (case k12 => k_is); (case a13 => k_is); (case l13 => k_is); (case c13 => k_is); (case k13 => k_is); (case a14 => k_is); (case l14 => k_is); (case c14 => k_is); (case k14 => k_is); (case a15 => k_is); (case l15 => k_is); (case c15 => k_is); (case k15 => k_is); (case a16 => k_is); (case l16 => k_is); (case c16 => k_is); (case k16 => k_is); (case a17 => k_is); (case l17 => k_is); (case c17 => k_is); (case k17 => k_is); (case a18 => k_is); (case l18 => k_is); (case c18 => k_is); (case k18 => k_is); (case a19 => k_is); (case l19 => k_is); (case c19 => k_is); (case k19 => k_is); (case a20 => k_is); (case l20 => k_is); (case c20 => k_is); (case k20 => k_is); (case a21 => k_is); (case l21 => k_is); (case c21 => k_is); (case k21 => k_is); (case a22 => k_is); (case l22 => k_is); (case c22 => k_is); (case k22 => k_is); (case a23 => k_is); (case l23 => k_is); (case c23 => k_is); (case k23 => k_is); (case a24 => k_is); (case l24 => k_is); (case c24 => k_is); (case k24 => k_is); (case a25 => k_is); (case l25 => k_is); (case c25 => k_is); (case k25 => k_is); (case a26 => k_is); (case l26 => k_is); (case c26 => k_is); (case k26 => k_is); (case a27 => k_is); (case l27 => k_is); (case c27 => k_is); (case k27 => k_is); (case a28 => k_is); (case l28 => k_is); (case c28 => k_is); (case k28 => k_is); (case a29 => k_is); (case l29 => k_is); (case c29 => k_is); (case k29 => k_is); (case a30 => k_is); (case l30 => k_is); (case c30 => k_is); (case k30 => k_is); (case a31 => k_is); (case l31 => k_is); (case c31 => k_is); (case k31 => k_is); (case a32 => k_is); (case l32 => k_is); (case c32 => k_is); (case k32 => k_is); (case a33 => k_is); (case l33 => k_is); (case c33 => k_is); (case k33 => k_is); (case a34 => k_is); (case l34 => k_is); (case c34 => k_is); (case k34 => k_is); (case a35 => k_is); (case l35 => k_is); (case c35 => k_is); (case k35 => k_is); (case a36 => k_is); (case l36 => k_is); (case c36 => k_is); (case k36 => k_is); (case a37 => k_is); (case l37 => k_is); (case c37 => k_is); (case k37 => k_is); (case a38 => k_is); (case l38 => k_is); (case c38 => k_is); (case k38 => k_is); (case a39 => k_is); (case l39 => k_is); (case c39 => k_is); (case k39 => k_is); (case a40 => k_is); (case l40 => k_is); (case c40 => k_is); (case k40 => k_is); (case a41 => k_is); (case l41 => k_is); (case c41 => k_is); (case k41 => k_is); (case a42 => k_is); (case l42 => k_is); (case c42 => k_is); (case k42 => k_is); (case a43 => k_is); (case l43 => k_is); (case c43 => k_is); (case k43 => k_is); (case a44 => k_is); (case l44 => k_is); (case c44 => k_is); (case k44 => k_is); (case a45 => k_is); (case l45 => k_is); (case c45 => k_is); (case k45 => k_is); (case z_abs => k_is); (case z_any => k_is); (case z_enumerate => k_is); (case z_int => k_is); (case z_len => k_is); (case z_list => k_is); (case z_max => k_is); (case z_min => k_is); (case z_range => k_is); (case z_set => k_is); (case z_sorted => k_is); (case z_sum => k_is); (case z_tuple => k_is); (case q_BASES => k_is); (case r_BASES => k_is); (case q_MOST_TERMS => k_is); (case q_MOST_counting => k_is); (case q_MOST_primes => k_is); (case q_MOST_sums => k_is); (case q_ONE => k_is); (case r_ONE => k_is); (case q_ZERO => k_is); (case r_ZERO => k_is)
