import PyProof.Rows.All
import Wide.All
import OpenK.AllK
import Wide.FinOn
import HandS.ForMost
import HandS.Flow
import HandS.Conv
import HandS.Zip
import HandS.Style
import HandS.TupMul
import PyProof.TupleOfSeq
import PyProof.Rows.SortShell
import HandS.Base
import HandS.Call
import HandS.List
import HandS.Sort
import HandS.SortOrd
import HandS.SortInts
import HandS.ExcValue
import HandS.ExcOwn
import KE.SortData
import PyProof.Walk
import PyProof.WalkLemmas
import PyProof.RaisesAny
import PyProof.FactsSeq
import PyProof.SeqWrite
import PyProof.AutoSeq1
import HandS.TupAny
import HandS.Wide
import HandS.More
import HandS.Deep
import HandS.IsInst
import HandS.Star
import HandS.Dict
import PyProof.NeData
import KE.DataMinMax
import PyProof.SumAnyB
import KE.GoesEnum
import HandS.Iter
import HandS.HeadHook3
import PyProof.Walks
import PyProof.Rows.SetFrom
import HandS.Set
import HandS.SetFor
import HandS.Strs
import HandS.TupSets
import HandS.ListItems
import KE.KFromBytes
import KE.KSuper
import KE.KExcSuper
import HandS.Exc
import HandS.ExcField
import KE.KExcIs
import KE.KIsAll
import HandS.WordsExc
import PySem.Challenge.RW_roomahead_k08_whole_long_rows_of_deeds
set_option autoImplicit false
set_option linter.all false
set_option maxRecDepth 100000
namespace EnT
open PySem
open L2
open PyProof.Rows
open AutoSeq1 (wpAny_loadPart')
/-- a tuple's iterator at its start; what enumerate makes of the one at it -/
abbrev ti (l : Addr) : Obj := { cls := .type "tuple_iterator", data := .fields #[.ref l, .int 0 0] }
abbrev eo (it : Addr) : Obj := { cls := .type "enumerate", data := .fields #[.none, .bool false, .ref it, rawInt 0, .none, .none] }
/-- what enumerate makes of the tuple at l -/
theorem enum_new (l : Addr) (its : Array Value) (n : Nat) (dct : Option Addr) (sl : Array (Option Value)) :
    Meets (Builtin.«enumerate.__new__» ⟨[.type "enumerate", .ref l], []⟩) (fun _ R s => s.heap.get? l = some { cls := .type "tuple", dict := dct, data := .seq its n, slots := sl } ∧
      R (.ok (.ret (.ref (s.heap.push (ti l)).objs.size))) { s with heap := (s.heap.push (ti l)).push (eo s.heap.objs.size) }) :=
  .of_wp fun prog w A R s hyp => by
    obtain ⟨hp, g, d, tk, os⟩ := s
    obtain ⟨there, after⟩ := hyp
    have sube := sub_enumerate
    have isT : Heap.IsTuple (Shared.heap ⟨hp, g, d, tk, os⟩) l its := ⟨_, there, rfl, n, rfl⟩
    wp_walk using wpAny_loadPart' there
    apply wpAny_stack_any
    intro st
    apply wpAny_pure
    split
    · rename_i cl _ _ _ _ _
      cases (cl == Value.type "enumerate")
      all_goals
        wp_walk using wpAny_loadPart' there, wpAny_pyIter_tuple isT
        exact ⟨_, rfl, after⟩
    · wp_walk using wpAny_loadPart' there, wpAny_pyIter_tuple isT
      exact ⟨_, rfl, after⟩
/-- enumerate's object and the iterator below it, both new behind a heap -/
structure Laid (l : Addr) (h h' : Heap) : Prop where
  outer : IsEnum h' (h.objs.size + 1) h.objs.size 0 .none
  inner : h'.IsTupleIter h.objs.size l 0
  grown : h'.objs.size = h.objs.size + 2
  kept : ∀ (b : Addr) (o : Obj), h.get? b = some o → h'.get? b = some o
theorem laid_at (l : Addr) (h : Heap) : Laid l h ((h.push (ti l)).push (eo h.objs.size)) := by
  have one : (h.push (ti l)).objs.size = h.objs.size + 1 := Heap.size_push ..
  have last := Heap.get?_push_size (h.push (ti l)) (o := eo h.objs.size) rfl
  rw [one] at last
  exact { outer := last, inner := ⟨_, Heap.get?_push_of_some _ (Heap.get?_push_size _ rfl), rfl, rfl⟩, grown := by rw [Heap.size_push, one],
          kept := fun b o had => Heap.get?_push_of_some _ (Heap.get?_push_of_some _ had) }
theorem enum_call {prog : Program} {w : World} {A : Around} {E Q : Value → Shared → Prop} {s : Shared} {l : Addr} {its : Array Value} (isT : IsTup s.heap l its)
    (fin : ∀ h', Laid l s.heap h' → Q (.ref (s.heap.objs.size + 1)) { s with heap := h' }) : wpAny (model prog w) A (call (.type "enumerate") [Value.ref l]) Q E s := by
  obtain ⟨o, there, isC, n, isD⟩ := isT
  have whole : o = ⟨.type "tuple", o.dict, .seq its n, o.slots⟩ := by
    cases o
    cases isC
    cases isD
    rfl
  rw [whole] at there
  have made := laid_at l s.heap
  have place : (s.heap.push (ti l)).objs.size = s.heap.objs.size + 1 := Heap.size_push ..
  have answer := fin _ made
  rw [← place] at answer
  refine callType_new F.called_enumerate (by decide) (F.typeCall_enumerate_1 _) (F.newCall_enumerate_1 _) (fun obj => F.args_object_init_2 obj _)
    F.entry_enumerate_new (enum_new l its n o.dict o.slots) ⟨there, ?_⟩
  refine ⟨⟨eo s.heap.objs.size, ?_, rfl⟩, answer⟩
  have q := made.outer
  rw [← place] at q
  exact q
theorem draws {prog : Program} {w : World} {A : Around} (hh : A.handled = none) (it l : Addr) (hne : l ≠ it) (its : Array Value) :
    Draws prog w A it [it, l] its.size (fun i v => its[i]? = some v) (fun i h => h.IsTupleIter it l i ∧ h.IsTuple l its) where
  live := fun _ _ st => let ⟨o, ho, _⟩ := st.1; ⟨o, ho⟩
  frame := fun _ _ _ st k => ⟨st.1.at fun o e => k it (by simp) o e, let ⟨o, ho, r⟩ := st.2; ⟨o, k l (by simp) o ho, r⟩⟩
  item := fun i s Q E hi st hQ => by
    refine RZ.nextOf_tuple_item st.1 st.2 (x := its[i]) (by simp [hi]) fun h' hit' same => ?_
    exact hQ _ h' s.toks (by simp [hi]) ⟨hit', let ⟨o, ho, r⟩ := st.2; ⟨o, same.extBut l o hne ho, r⟩⟩ same
  done := fun s Q E st hE => RZ.nextOf_tuple_end hh st.1 st.2 (by simp) hE
/-- the tuple at a, each item in a new pair -/
def It' (K : PySem.W.Frag) (a : Addr) : It :=
  ⟨fun i H => ∃ (xs : List V) (x : V), SqT K H a xs ∧ xs[i]? = some x, fun i H v H' => ∃ T x, v = .ref T ∧ H T = none ∧ H' = upd H T (.tup [.int (i : Nat), x]) ∧ ∀ xs, SqT K H a xs → xs[i]? = some x,
    fun i H => ∃ xs : List V, SqT K H a xs ∧ xs.length = i⟩
theorem turn {P : Program} {w : World} {K : PySem.W.Frag} {elts : List Expr} {kk : Nat} {tpos : Pos} (a e it : Addr) (hea : e ≠ a) (hia : it ≠ a) (hei : e ≠ it) :
    Turn P w K (.Tuple elts kk tpos) (It' K a) [e, it] e (fun i h => (∃ old, IsEnum h e it ((i : Nat) : Int) old) ∧ h.IsTupleIter it a i) where
  mem := by simp
  obj := fun i h st b hb => by
    obtain ⟨⟨old, he⟩, o, ho, hc, hd⟩ := st
    rcases (by simpa using hb : b = e ∨ b = it) with z | z
    · subst z
      exact ⟨_, he, fun v q => nomatch q⟩
    · subst z
      exact ⟨o, ho, fun v q => by rw [hd] at q; cases q⟩
  keep := fun i h h' st k => let ⟨⟨old, he⟩, hi⟩ := st; ⟨⟨old, k e (by simp) _ he⟩, hi.at fun o q => k it (by simp) o q⟩
  item := by
    intro X hP hw hK calm i pins s σ H E I fresh st go
    subst hP hw hK
    obtain ⟨⟨old, he⟩, hit⟩ := st
    obtain ⟨xs, x, hq, hx⟩ := go
    obtain ⟨its, rv, p, hz⟩ := I.tuple hq
    obtain ⟨u, hu, ru⟩ := rv.get hx
    have lte : e < s.heap.objs.size := Heap.lt_size he
    have lti : it < s.heap.objs.size := by obtain ⟨_, q, _⟩ := hit; exact Heap.lt_size q
    have lt2 : i < its.toArray.size := by have := (List.getElem?_eq_some_iff.mp hu).1; simpa using this
    refine wpAny_pyNext_enum_itemD (draws (A := X.A.in1) (show X.A.in1.handled = none from I.ok.hd calm) it a (Ne.symm hia) its.toArray) he ⟨hit, p⟩ lt2 hei (by simp [hei, hea]) fun y h' tk hy out st' hT hsz hk => ?_
    have hy' : y = u := by
      have q : its.toArray[i]? = some u := by simpa using hu
      rw [q] at hy
      exact (Option.some.inj hy).symm
    subst hy'
    refine ⟨_, rfl, wpAny_letOwnedTupleGo_enum (s := { s with heap := h', toks := tk + 1 }) out fun h'' he' sb => ?_⟩
    have there : h''.get? s.heap.objs.size = some { cls := .type "tuple", data := .seq #[.int i tk, y] } := (sb.2 _ (Nat.ne_of_gt lte)).trans hT
    have two : Vals [V.int (i : Nat), x] [.int i tk, y] := .cons ⟨_, rfl⟩ (.cons ru .nil)
    have short : [V.int (i : Nat), x].length ≤ sizeLine := by
      rw [sizeLine_eq]
      simp
    have I1 : Inv X pins σ (upd H s.heap.objs.size (.tup [.int (i : Nat), x])) { s with heap := h'', toks := tk + 1 } :=
      I.turnedNew (ch := [e, it]) (fun b ob hb q => (sb.2 b (fun z => hb (by simp [z]))).trans (hk b ob (fun z => hb (by simp [z])) (fun z => hb (by simp [z])) q)) fresh (Nat.le_refl _) ⟨short, _, two, _, there, rfl, _, rfl⟩
    refine ⟨.ref s.heap.objs.size, _, I1, rfl, ⟨_, x, rfl, I.hok.fresh (Nat.le_refl _), rfl, fun ys hys => by rw [I.tuple_inj hys hq]; exact hx⟩, ⟨⟨y, ?_⟩, st'.1.at fun o q => (sb.2 it (Ne.symm hei)).trans q⟩, fun b hb => ?_⟩
    · rw [show ((i + 1 : Nat) : Int) = (i : Int) + 1 by omega]
      exact he'
    · have ltb : b < s.heap.objs.size := by
        rcases (by simpa using hb : b = e ∨ b = it) with z | z
        · rw [z]; exact lte
        · rw [z]; exact lti
      rw [upd_ne (Nat.ne_of_lt ltb)]
      exact (fresh b hb).1
  done := by
    intro X hP hw hK calm i pins s σ H E I fresh st stop
    subst hP hw hK
    obtain ⟨⟨old, he⟩, hit⟩ := st
    obtain ⟨xs, hq, hx⟩ := stop
    obtain ⟨its, rv, p, hz⟩ := I.tuple hq
    obtain ⟨f0, f1, f2, f3, f4, f5⟩ := fresh it (by simp)
    have hl := rv.length
    have hn : i = its.toArray.size := by simp; omega
    subst hn
    exact wpAny_pyNext_enum_endD (draws (A := X.A.in1) (show X.A.in1.handled = none from I.ok.hd calm) it a (Ne.symm hia) its.toArray) he ⟨hit, p⟩ fun h' eb => ⟨rfl, I.turned (t' := s.toks) (fun b o hb q => eb b o hb q) f0 f1 f3 f4 f5⟩
  self := by
    rintro A i s Q E ⟨⟨old, isE⟩, _⟩ h
    exact wpAny_pyIter_enum isE h
/-- enumerate of a list or of a tuple -/
def iEn (K : PySem.W.Frag) (ta : TA) : TI := fun σ H R => ta σ H fun vs H1 => ∃ a xs, vs = [.ref a] ∧ ((SqL K H1 a xs ∧ R (Ite K a) H1) ∨ (SqT K H1 a xs ∧ R (It' K a) H1))
theorem pi_en {X : Cx} {e : Expr} {ta : TA} {p pos tpos : Pos} {elts : List Expr} {kk : Nat} (hg : Gl X "enumerate") (hm : X.mg "enumerate" = none) (ha : PA X [e] ta) (hs : starEach [e] X.env = [(false, eval e X.env)] := by rfl) :
    PI X (.Tuple elts kk tpos) (.Call (.Name "enumerate" p) [e] [] pos) (iEn X.K ta) := by
  refine ⟨fun pins s σ H R I h => ?_⟩
  refine Call_ (ld_blt I hg hm boot_enumerate (PyProof.Rows.callWith_type1 (thn (ha.run pos pins s σ H _ I h) fun us s1 hyp => ?_) hs rfl))
  obtain ⟨vs, H1, I1, r1, a, xs, ex, hq⟩ := hyp
  subst ex
  cases r1 with
  | cons r rr =>
    cases rr
    cases r
    have fr : ∀ b, b ∈ [s1.heap.objs.size + 1, s1.heap.objs.size] → FpOk X pins H1 b := fun b hb => by
      have hle : s1.heap.objs.size ≤ b := by
        rcases (by simpa using hb : b = s1.heap.objs.size + 1 ∨ b = s1.heap.objs.size) with z | z
        · rw [z]; exact Nat.le_add_right _ _
        · rw [z]; exact Nat.le_refl _
      exact I1.fpOk hle (I1.hok.fresh hle)
    cases hq with
    | inl isL =>
      obtain ⟨_, _, its⟩ := I1.list isL.1
      refine call_enumerate_list its.1.isList fun h' isE isI _ kept => wpAny_pyIter_enum isE ?_
      refine ⟨s1.heap.objs.size + 1, [s1.heap.objs.size + 1, s1.heap.objs.size], _, _, H1, rfl, I1.kept (t' := s1.toks) kept, turn_enum a (s1.heap.objs.size + 1) s1.heap.objs.size, ?_, fr, isL.2⟩
      exact ⟨⟨.none, isE⟩, isI, Nat.succ_ne_self _⟩
    | inr isT =>
      obtain ⟨_, _, its⟩ := I1.tuple isT.1
      have below : a < s1.heap.objs.size := its.1.elim fun o h => Heap.lt_size h.1
      refine enum_call its.1 fun h' made => wpAny_pyIter_enum made.outer ?_
      have apart1 : s1.heap.objs.size + 1 ≠ a := Nat.ne_of_gt (Nat.lt_succ_of_lt below)
      have apart2 : s1.heap.objs.size ≠ a := Nat.ne_of_gt below
      exact ⟨s1.heap.objs.size + 1, [s1.heap.objs.size + 1, s1.heap.objs.size], _, _, H1, rfl, I1.kept (t' := s1.toks) made.kept, turn a (s1.heap.objs.size + 1) s1.heap.objs.size apart1 apart2 (Nat.succ_ne_self _), ⟨⟨.none, made.outer⟩, made.inner⟩, fr, isT.2⟩
end EnT
set_option autoImplicit false
set_option linter.all false
set_option maxRecDepth 100000
namespace RevT
open PySem
open L2
open HT
open PyProof.Rows
theorem fm_congr {α β : Type} {f g : α → Option β} : ∀ {l : List α}, (∀ x, x ∈ l → f x = g x) → l.filterMap f = l.filterMap g
  | [], _ => rfl
  | x :: l, h => by
    rw [List.filterMap_cons, List.filterMap_cons, h x (List.mem_cons_self ..), fm_congr fun y hy => h y (List.mem_cons_of_mem _ hy)]
theorem fm_all {α : Type} : ∀ l : List α, (List.range l.length).filterMap (fun m => l[m]?) = l
  | [] => rfl
  | x :: l => by
    rw [List.length_cons, List.range_succ_eq_map, List.filterMap_cons]
    simp only [List.getElem?_cons_zero]
    rw [List.filterMap_map]
    congr 1
    exact fm_all l
theorem turned_at (xs : Array Value) : ((List.range xs.size).filterMap fun (m : Nat) => xs[(((xs.size : Int) - 1) + (m : Int) * (-1)).toNat]?).toArray = xs.toList.reverse.toArray := by
  rw [fm_congr (g := fun m => xs.toList.reverse[m]?) fun m hm => ?_]
  · have := fm_all xs.toList.reverse
    rw [List.length_reverse, Array.length_toList] at this
    rw [this]
  · have hm' := List.mem_range.mp hm
    rw [List.getElem?_reverse (by simpa using hm')]
    rw [show (((xs.size : Int) - 1) + (m : Int) * (-1)).toNat = xs.size - 1 - m by omega]
    simp
section
variable {prog : Program} {w : World} {A : Around} {E : Value → Shared → Prop} {s : Shared} {sl : Addr} {back : Value}
/-- from the last place down: as many places as there are items -/
theorem whole_down (n : Nat) : Builtin.Slice.sliceAdjust none none (-1) (n : Int) = ((n : Int) - 1, -1) ∧ Builtin.Slice.slicePlaces ((n : Int) - 1) (-1) (-1) = n := by
  refine ⟨rfl, ?_⟩
  rcases Nat.eq_zero_or_pos n with z | z
  · subst z
    rfl
  · simp only [Builtin.Slice.slicePlaces]
    rw [if_neg (by decide)]
    simp only [show (-(-1 : Int)) = 1 from rfl, Int.ediv_one]
    split <;> omega
/-- what the slice [::-1] tells of a row of n -/
theorem slice_down {n : Nat} {Q : Int × Int × Nat → Shared → Prop} (isS : s.heap.IsSliceOf sl .none .none back) (step : IsPart back (some (-1))) (want : Q ((n : Int) - 1, -1, n) s) :
    wpAny (model prog w) A (Builtin.Slice.sliceApplied (.ref sl) (pure (n : Int))) Q E s := by
  have fields : ∀ (T : Value × Value × Value → Shared → Prop), T (.none, .none, back) s → wpAny (model prog w) A (Builtin.Slice.sliceFields (.ref sl)) T E s := by
    intro T t
    obtain ⟨o, there, _, data⟩ := isS
    exact wpAny_bind (wpAny_field there data (x := .none) rfl (wpAny_bind (wpAny_field there data (x := .none) rfl (wpAny_bind (wpAny_field there data (x := back) rfl (wpAny_pure t))))))
  unfold Builtin.Slice.sliceApplied
  apply wpAny_bind
  apply fields
  apply wpAny_bind
  apply slicePart_ step
  simp only [show ((-1 : Int) == 0) = false from rfl, Bool.false_eq_true, if_false]
  apply wpAny_bind
  apply slicePart_none
  apply wpAny_bind
  apply slicePart_none
  apply wpAny_bind
  apply wpAny_pure
  obtain ⟨ends, places⟩ := whole_down n
  rw [Option.getD_some, ends, places]
  exact wpAny_pure want
/-- t[::-1] makes a new tuple -/
theorem item_rev {t : Addr} {vals : Array Value} {Q : Value → Shared → Prop} (isT : IsTup s.heap t vals) (isS : s.heap.IsSliceOf sl .none .none back) (step : IsPart back (some (-1))) (room : vals.size ≤ sizeLine)
    (want : Q (.ref s.heap.objs.size) { s with heap := s.heap.push { cls := .type "tuple", data := .seq vals.toList.reverse.toArray } }) : wpAny (model prog w) A (getItem (.ref t) (.ref sl)) Q E s := by
  have kindS : s.TypeIs (.ref sl) "slice" := isS.elim fun o h => ⟨o, h.1, h.2.1⟩
  have fits : sizeOk (.seq vals.toList.reverse.toArray) := by
    simpa [sizeOk] using room
  have other : ((((vals.size : Int) - 1) == 0 && (-1 : Int) == 1) && vals.size == vals.size) = false := by
    rw [show ((-1 : Int) == 1) = false from rfl, Bool.and_false, Bool.false_and]
  unfold getItem
  apply wpAny_holding
  apply wpAny_bind
  apply wpAny_sequenceKey isT.typeIs (by decide)
  apply wpAny_bind
  refine wpAny_callSpecial?_slot isT.typeIs slot_tuple_getitem (wpAny_call_entry slot_tuple_getitem isT.typeIs entry_tuple_getitem ?_ (args_tuple_getitem _ _))
  have rest : ∀ (T : Value → Shared → Prop), T (.ref s.heap.objs.size) { s with heap := s.heap.push { cls := .type "tuple", data := .seq vals.toList.reverse.toArray } } →
      wpAny (model prog w) A.in1 (Builtin.Tuple.tupleExact (((List.range vals.size).filterMap fun (m : Nat) => vals[(((vals.size : Int) - 1) + (m : Int) * (-1)).toNat]?).toArray)) T E s := by
    intro T q
    rw [turned_at]
    exact wpAny_newObj_type q fits
  change wpAny _ _ (Builtin.Tuple.tupleItemsOf (.ref t) >>= _) _ _ _
  apply wpAny_bind
  apply tupleItemsOf_ isT
  apply wpAny_bind
  apply wpAny_typeOf kindS
  simp only [show (Value.type "slice" == Value.type "slice") = true from rfl, if_true]
  apply wpAny_bind
  apply slice_down isS step
  simp only [other, Bool.false_eq_true, if_false]
  apply wpAny_bind
  apply rest
  exact wpAny_pure ⟨_, rfl, wpAny_pure want⟩
end
section
variable {X : Cx}
/-- x[::-1], x a list or a tuple -/
def tRev (K : PySem.W.Frag) (te : TE) : TE := fun σ H Q => te σ H fun x H1 => ∃ a xs, x = .ref a ∧ ((SqL K H1 a xs ∧ ∀ p, H1 p = none → Q (.ref p) (upd H1 p (.lst xs.reverse))) ∨ (SqT K H1 a xs ∧ ∀ p, H1 p = none → Q (.ref p) (upd H1 p (.tup xs.reverse))))
theorem pe_rev {e : Expr} {te : TE} {k : Nat} {p1 p2 p3 pos : Pos} (he : PE X e te) : PE X (.Subscript e (.Slice none none (some (.UnaryOp .USub (.Constant (.int 1) k p1) p2)) p3) pos) (tRev X.K te) := by
  refine ⟨fun pins s σ H Q I h => ?_⟩
  refine Subscript_ (thn (he.run pins s σ H _ I h) fun v s1 hyp => ?_)
  obtain ⟨x, H1, I1, r1, a, xs, ex, hx⟩ := hyp
  subst ex
  cases r1
  have step : PO X (some (.UnaryOp .USub (.Constant (.int 1) k p1) p2)) (tPart (tUn (rU fun i => .int (-i)) (tC (.int 1)))) := po_some (pe_un un_neg pe_int)
  refine wpAny_Slice (thn (po_none.run pins s1 σ H1 (fun o H2 => o = none ∧ H2 = H1) I1 ⟨rfl, rfl⟩) fun vl s2 hyp => ?_)
  obtain ⟨o2, H2, I2, pl, z1, z2⟩ := hyp
  subst z1 z2
  refine thn (po_none.run pins s2 σ H2 (fun o H3 => o = none ∧ H3 = H2) I2 ⟨rfl, rfl⟩) fun vu s3 hyp => ?_
  obtain ⟨o3, H3, I3, pu, z1, z2⟩ := hyp
  subst z1 z2
  refine thn (step.run pins s3 σ H3 (fun o H4 => o = some (-1) ∧ H4 = H3) I3 ⟨1, rfl, -1, rfl, rfl, rfl⟩) fun vs s4 hyp => ?_
  obtain ⟨o4, H4, I4, ps, z1, z2⟩ := hyp
  subst z1 z2
  have I5 : L2.Inv X pins σ H4 { s4 with heap := s4.heap.push { cls := .type "slice", data := .fields #[vl, vu, vs] } } := I4.kept (t' := s4.toks) fun b ob q => Heap.get?_push_of_some _ q
  show wpAny (model X.prog X.w) X.A (subscriptTail e (.Slice none none (some (.UnaryOp .USub (.Constant (.int 1) k p1) p2)) p3) (.ref a) (.ref s4.heap.objs.size)) (EP X pins σ Q) X.xe
    { s4 with heap := s4.heap.push { cls := .type "slice", data := .fields #[vl, vu, vs] } }
  rcases hx with ⟨hx, q⟩ | ⟨hx, q⟩
  · obtain ⟨its, r, ht, hz⟩ := I5.list hx
    have hlen := r.length
    refine tail_any (ops := [.ref a, .ref s4.heap.objs.size]) ht.isList.typeIs (PySem.slot_list_getitem.lookup) ?_ (by with_unfolding_all rfl)
    refine wpAny_getItem_list_slice ht.isList (Heap.IsSliceOf.new _ vl vu vs) pl pu ps (by decide) ?_ (by rw [List.size_toArray]; omega)
    rw [PySem.W.krv_pick]
    exact ⟨.ref _, _, I5.laid (t' := s4.toks) (o := .lst xs.reverse) (fun b ob q => Heap.get?_push_of_some _ q) (Nat.le_refl _) ⟨by rw [List.length_reverse]; exact hz, _, 0, r.reverse, Heap.get?_push_size _ rfl⟩, rfl, q _ (I5.hok.fresh (Nat.le_refl _))⟩
  · obtain ⟨its, r, ht, hz⟩ := I5.tuple hx
    have hlen := r.length
    cases pl
    cases pu
    refine tail_any (ops := [.ref a, .ref s4.heap.objs.size]) ht.typeIs (slot_tuple_getitem.lookup) ?_ (by with_unfolding_all rfl)
    refine item_rev ht (Heap.IsSliceOf.new _ .none .none vs) ps (by rw [List.size_toArray]; omega) ?_
    exact ⟨.ref _, _, I5.laid (t' := s4.toks) (o := .tup xs.reverse) (fun b ob q => Heap.get?_push_of_some _ q) (Nat.le_refl _) ⟨by rw [List.length_reverse]; exact hz, _, r.reverse, ⟨_, Heap.get?_push_size _ rfl, rfl, 0, rfl⟩⟩, rfl, q _ (I5.hok.fresh (Nat.le_refl _))⟩
end
end RevT
set_option autoImplicit false
set_option linter.all false
set_option maxRecDepth 100000
set_option maxHeartbeats 4000000
namespace RepT
open PySem PySem.Spec
open L2
open PyProof.Rows (IsTup)
/-- the tuple's object -/
abbrev tupO (dct : Option Addr) (vals : Array Value) (cap : Nat) (slots : Array (Option Value)) : Obj := ⟨.type "tuple", dct, .seq vals cap, slots⟩
/-- what such a product is: the tuple itself, or a new one without items -/
def few (l : Addr) (vals : Array Value) (k : Int) (s : Shared) : Value × Shared :=
  if vals.isEmpty || k == 1 then (.ref l, s) else (.ref s.heap.objs.size, { s with heap := s.heap.push { cls := .type "tuple", data := .seq #[] } })
theorem mul_few {l : Addr} {dct : Option Addr} {vals : Array Value} {cap : Nat} {slots : Array (Option Value)} {k : Int} {tk : Tok} (lo : -(2 ^ 63) ≤ k) (hi : k < 2 ^ 63) (small : vals = #[] ∨ k ≤ 1) :
    Meets (Builtin.«tuple.__mul__» ⟨[.ref l, .int k tk], []⟩) fun _ Want s => s.heap.get? l = some (tupO dct vals cap slots) ∧ Want (.ok (.ret (few l vals k s).1)) (few l vals k s).2 := by
  apply Meets.of_wp
  rintro prog w A Want ⟨heap, gens, dict, toks, os⟩ ⟨there, want⟩
  have range : ¬ ((decide (k < -(2 ^ 63)) || decide (k ≥ 2 ^ 63)) = true) := by
    simp only [Bool.or_eq_true, decide_eq_true_eq]
    omega
  have key := AutoSeq1.idx_int
  wp_walk using AutoSeq1.wpAny_loadPart' there
  apply wpAny_ite_false (decide_eq_false range)
  wp_walk using AutoSeq1.wpAny_loadPart' there
  cases same : (vals.isEmpty || k == 1) with
  | true =>
    apply wpAny_ite_true (decide_eq_true rfl)
    wp_walk using AutoSeq1.wpAny_loadPart' there
    simp only [few, same, if_true] at want
    exact ⟨_, rfl, want⟩
  | false =>
    have none_left : (decide (k ≤ 0) || vals.isEmpty) = true := by
      rcases small with rfl | le
      · simp
      · have ne1 : k ≠ 1 := fun e => by rw [e] at same; simp at same
        rw [decide_eq_true (show k ≤ 0 by omega), Bool.true_or]
    apply wpAny_ite_false (decide_eq_false Bool.false_ne_true)
    wp_walk using AutoSeq1.wpAny_loadPart' there
    simp only [few, same] at want
    exact ⟨_, rfl, want⟩
/-- once, or without items: the same object -/
def rRep1 (K : PySem.W.Frag) : R2 := fun x y H Q => ∃ l k xs, x = .ref l ∧ y = .int k ∧ SqT K H l xs ∧ (xs = [] ∨ k = 1) ∧ -(2 ^ 63) ≤ k ∧ k < 2 ^ 63 ∧ Q (.ref l) H
/-- not once: a new one without items -/
def rRep0 (K : PySem.W.Frag) : R2 := fun x y H Q => ∃ l k xs, x = .ref l ∧ y = .int k ∧ SqT K H l xs ∧ xs ≠ [] ∧ k ≤ 0 ∧ -(2 ^ 63) ≤ k ∧ ∀ p, H p = none → Q (.ref p) (upd H p (.tup []))
section
variable {X : Cx} {pins : List (Addr × Obj)} {s : Shared} {σ : L2.St} {H : Hp} {l : Addr} {xs : List V} {k : Int} {tk : Tok} {Want : Value → Shared → Prop} {E : Value → Shared → Prop}
/-- the product by what tuple.__mul__ answers -/
theorem times_few (I : Inv X pins σ H s) (tup : SqT X.K H l xs) (lo : -(2 ^ 63) ≤ k) (hi : k < 2 ^ 63) (small : xs = [] ∨ k ≤ 1)
    (want : ∀ vals : Array Value, vals.isEmpty = xs.isEmpty → Want (few l vals k s).1 (few l vals k s).2) : wpAny (model X.prog X.w) X.A (binaryOp .Mult (.ref l) (.int k tk)) Want E s := by
  obtain ⟨us, same, isT, _⟩ := I.tuple tup
  have kind : s.TypeIs (.ref l) "tuple" := isT.typeIs
  obtain ⟨o, there, isC, cap, isD⟩ := isT
  have whole : o = tupO o.dict us.toArray cap o.slots := by
    cases o
    cases isC
    cases isD
    rfl
  rw [whole] at there
  have empty : us.toArray.isEmpty = xs.isEmpty := by
    cases same <;> rfl
  have small' : us.toArray = #[] ∨ k ≤ 1 := small.imp_left fun e => by
    subst e
    cases same
    rfl
  have product : wpAny (model X.prog X.w) X.A (call (.builtin "tuple.__mul__") [.ref l, .int k tk]) Want E s := call_meets F.slot_tuple_mul kind F.entry_tuple_mul (F.args_tuple_mul_2 (.ref l) (.int k tk)) (mul_few lo hi small') ⟨there, want _ empty⟩
  have declined := call_meets (prog := X.prog) (w := X.w) (A := X.A) (E := E) F.slot_int_rmul (typeIs_int s k tk) F.entry_int_rmul (F.args_int_rmul_2 (.int k tk) (.ref l)) (int_rmul_tuple k tk l us.toArray cap o.dict o.slots)
    (Q := fun v s' => v = .notImplemented ∧ s'.TypeIs (.ref l) "tuple" ∧ wpAny (model X.prog X.w) X.A (call (.builtin "tuple.__mul__") [.ref l, .int k tk]) Want E s') ⟨there, rfl, kind, product⟩
  exact wpAny_binaryOp_repeat_ref (by decide) kind (fun at_ => typeIs_int at_ k tk) noFill_tuple_mul F.fills_int_mul F.slot_int_rmul repeat_tuple F.slot_int_index.lookup declined
theorem op_rep1 : OpR X (binaryOp .Mult) (rRep1 X.K) := by
  rintro pins s σ H _ _ v u Q I rx ry ⟨l, k, xs, rfl, rfl, tup, once, lo, hi, q⟩
  obtain rfl : v = .ref l := by cases rx; rfl
  obtain ⟨tk, rfl⟩ := ry
  refine times_few I tup lo hi (once.imp_right fun e => by omega) fun vals empty => ?_
  have itself : (vals.isEmpty || k == 1) = true := by
    rw [empty]
    rcases once with e | e <;> rw [e] <;> simp
  simp only [few, itself, if_true]
  exact ⟨_, _, I, rx, q⟩
theorem op_rep0 : OpR X (binaryOp .Mult) (rRep0 X.K) := by
  rintro pins s σ H _ _ v u Q I rx ry ⟨l, k, xs, rfl, rfl, tup, some_, none_, lo, q⟩
  obtain rfl : v = .ref l := by cases rx; rfl
  obtain ⟨tk, rfl⟩ := ry
  refine times_few I tup lo (by omega) (.inr (by omega)) fun vals empty => ?_
  have fresh : (vals.isEmpty || k == 1) = false := by
    rw [empty, show (k == 1) = false from beq_false_of_ne (by omega), Bool.or_false]
    cases xs
    · exact absurd rfl some_
    · rfl
  simp only [few, fresh, Bool.false_eq_true, if_false]
  have made : ObjOk X.prog X.w (upd H s.heap.objs.size (.tup [])) (s.heap.push { cls := .type "tuple", data := .seq #[] }) s.heap.objs.size (.tup []) := ⟨Nat.zero_le _, [], .nil, IsTup.new _ _⟩
  exact ⟨.ref s.heap.objs.size, _, I.laid (t' := s.toks) (fun _ _ had => Heap.get?_push_of_some _ had) (Nat.le_refl _) made, rfl, q _ (I.hok.fresh (Nat.le_refl _))⟩
end
end RepT
set_option autoImplicit false
set_option linter.all false
set_option maxRecDepth 100000
set_option maxHeartbeats 4000000
namespace L2
open PySem PySem.Spec PyProof.Rows
/-- what is asked behind sorting: a new list at some place, its ints in order, older things kept -/
def SortedOf (s : Shared) (ns : List Int) (Q : Value → Shared → Prop) : Prop := ∀ (p : Addr) (h' : Heap) (out : List Value) (e : Nat) (ms : List Int),
  s.heap.get? p = none → (∀ b o, s.heap.get? b = some o → h'.get? b = some o) → h'.get? p = some (seqObj "list" out.toArray e) → IntsAre out ms → ms.Perm ns → ms.Pairwise (· ≤ ·) → Q (.ref p) { s with heap := h' }
theorem tuple_in_order {prog : Program} {w : World} {A : Around} {E : Value → Shared → Prop} {s : Shared} {l : Addr} {us : List Value} {ns : List Int} {Q : Value → Shared → Prop} (tup : s.heap.IsTuple l us.toArray) (are : IntsAre us ns) (few : us.length ≤ sizeLine) (goal : SortedOf s ns Q) :
    wpAny (model prog w) A (call (.builtin "sorted") [.ref l]) Q E s := by
  obtain ⟨o, at_, cls, k, dat⟩ := tup
  apply Calls.call_function_entry kind_sorted plain_sorted entry_sorted (args_sorted1 _)
  unfold Builtin.«sorted»
  apply wpAny_bind (m := checkCount "sorted" 1 1 _)
  apply wpAny_pure
  apply wpAny_bind
  apply wpAny_collect_seq l (.inr rfl) at_ cls dat (hsz := by rw [List.size_toArray]; exact few)
  intro h1 kept
  apply wpAny_bind
  apply wpAny_newList (hsz := few)
  have here : (h1.push (seqObj "list" us.toArray 0)).get? h1.objs.size = some (seqObj "list" us.toArray 0) := Heap.get?_push_size _ rfl
  have bare : s.heap.get? h1.objs.size = none := by
    cases there : s.heap.get? h1.objs.size with
    | none => rfl
    | some b => exact absurd (Heap.lt_size (kept _ _ there)) (Nat.lt_irrefl _)
  apply wpAny_bind
  apply wpAny_holding
  have sorting := fun (R : PySem.Fin → Shared → Prop) (then_ : ∀ out : List Value, SrtO.Srtd SrtO.ltIv out → SrtO.Stb SrtO.ltIv out us → R (.done (.ret .none)) { s with heap := sortedHeap (h1.push (seqObj "list" us.toArray 0)) h1.objs.size us out.toArray }) =>
    SrtO.list_sort_ord (prog := prog) (w := w) (A := A.in1.in1) (E := E) (s := { s with heap := h1.push (seqObj "list" us.toArray 0) }) (R := R) SrtO.swo_int here few (fun two => SrtO.ints_sortable are two) then_
  refine wpAny_call_entry slot_list_sort ⟨_, here, rfl⟩ entry_list_sort (sorting _ fun out sd sb => ?_) (args_list_sort _)
  · refine ⟨_, rfl, ?_⟩
    obtain ⟨o1, o2, o3⟩ := SrtO.ints_out are sd sb
    obtain ⟨e, at2⟩ := sortedHeap_at (out := out.toArray) here
    refine wpAny_pure ⟨_, rfl, goal h1.objs.size _ out e (out.map SrtO.iv) bare (fun b u hb => ?_) at2 o1 o2 o3⟩
    have hb1 := kept b u hb
    have lt := Heap.lt_size hb1
    exact (sortedHeap_old (Nat.ne_of_lt lt) (by rw [size_push']; exact Nat.lt_succ_of_lt lt)).trans (Heap.get?_push_of_some _ hb1)
/-- sorted(a tuple of ints) -/
def rSortedIT (K : PySem.W.Frag) : List V → Hp → VK → Prop := fun xs H Q => ∃ (t : Addr) (ns : List Int), xs = [V.ref t] ∧ SqT K H t (ns.map V.int) ∧
  ∀ (ms : List Int) (p : Addr), ms.Perm ns → ms.Pairwise (· ≤ ·) → H p = none → Q (.ref p) (upd H p (.lst (ms.map V.int)))
theorem cr_sortedIT {X : Cx} : CallR X (.builtin "sorted") (rSortedIT X.K) := by
  intro pins s σ H xs us Q I r ⟨t, ns, hx, hs, q⟩
  subst hx
  obtain ⟨its, rv, tup, few⟩ := I.tuple hs
  rw [Vals.ref1 r]
  have same := rv.length
  rw [List.length_map] at same few
  refine tuple_in_order tup rv.ints (by omega) fun p h' out e ms hp keep at_ are pm pw => ?_
  have size : (ms.map V.int).length ≤ sizeLine := by rw [List.length_map, pm.length_eq]; exact few
  have none_ : H p = none := I.hok.gone hp
  exact ⟨.ref p, upd H p (.lst (ms.map V.int)), I.laidN (t' := s.toks) keep hp none_ ⟨size, out, e, vals_of_ints are, at_⟩, rfl, q ms p pm pw none_⟩
end L2
set_option autoImplicit false
set_option linter.all false
set_option maxRecDepth 100000
set_option maxHeartbeats 4000000
namespace L2
open PySem PySem.Spec PyProof.Rows PySem.W
/-- values beside what they read as, in order -/
def ordered (bs : List (V × PyData)) : List (V × PyData) := bs.mergeSort (dataLe false Prod.snd)
theorem ordered_perm (bs : List (V × PyData)) : (ordered bs).Perm bs := List.mergeSort_perm _ _
theorem each_both {K : PySem.W.Frag} {H : Hp} {P : Value → V × PyData → Prop} : ∀ {ws : List V} {us : List Value} {ds : List PyData}, Vals ws us → DpAll K H ws ds → (∀ v u d, RelV v u → Dp K H v d → P u (v, d)) → EachIs P us (ws.zip ds)
  | _, _, _, .nil, .nil, _ => .nil
  | _, _, _, .cons r rs, .cons d ds, h => .cons (h _ _ _ r d) (each_both rs ds h)
theorem vals_each : ∀ {us : List Value} {bs : List (V × PyData)}, EachIs (fun u (b : V × PyData) => RelV b.1 u) us bs → Vals (bs.map Prod.fst) us
  | _, _, .nil => .nil
  | _, _, .cons r rs => .cons r (vals_each rs)
theorem dpall_len {K : PySem.W.Frag} {H : Hp} : ∀ {ws : List V} {ds : List PyData}, DpAll K H ws ds → ws.length = ds.length
  | _, _, .nil => rfl
  | _, _, .cons _ r => congrArg (· + 1) (dpall_len r)
/-- sorted(a list of data, all alike) -/
def rSortedD (K : PySem.W.Frag) : List V → Hp → VK → Prop := fun xs H Q => ∃ (l : Addr) (ws : List V) (ds : List PyData), xs = [V.ref l] ∧ SqL K H l ws ∧ DpAll K H ws ds ∧ AllAlike ds ∧ Sortable ds ∧ (∀ d, d ∈ ds → d.depth ≤ 60) ∧
  ∀ p : Addr, H p = none → Q (.ref p) (upd H p (.lst ((ordered (ws.zip ds)).map Prod.fst)))
theorem cr_sortedD {X : Cx} (hu : X.A.units + 65 < cLine) : CallR X (.builtin "sorted") (rSortedD X.K) := by
  intro pins s σ H xs us Q I r ⟨l, ws, ds, hx, hs, hd, al, so, dp, q⟩
  subst hx
  obtain ⟨its, rv, pl, few⟩ := I.list hs
  rw [Vals.ref1 r]
  have len := dpall_len hd
  have zs : (ws.zip ds).map Prod.snd = ds := List.map_snd_zip (by omega)
  have zl : (ws.zip ds).length = ws.length := by rw [List.length_zip]; omega
  refine sorted_data (vs := its) (bs := ws.zip ds) (enc := Prod.snd) (R := fun u b => RelV b.1 u) pl.isList (each_both rv hd fun v u d h _ => h) (each_both rv hd fun v u d h k => Dp.reads I d v u k h) (by rw [zs]; exact al) (by rw [zs]; exact so) (by omega) (fun b hb => ?_) fun out ho eo => ?_
  · have : b.2 ∈ ds := (List.of_mem_zip hb).2
    have := dp _ this
    omega
  · obtain ⟨e, at_⟩ := sortedAll_at s.heap its out.toArray
    have hp : s.heap.get? (s.heap.objs.size + 1) = none := by
      cases there : s.heap.get? (s.heap.objs.size + 1) with
      | none => rfl
      | some b => exact absurd (Heap.lt_size there) (Nat.not_lt_of_le (Nat.le_succ _))
    have none_ : H (s.heap.objs.size + 1) = none := I.hok.gone hp
    have ol : ((ordered (ws.zip ds)).map Prod.fst).length ≤ sizeLine := by rw [List.length_map, (ordered_perm _).length_eq, zl]; exact few
    exact ⟨.ref (s.heap.objs.size + 1), upd H (s.heap.objs.size + 1) (.lst ((ordered (ws.zip ds)).map Prod.fst)), I.laidN (t' := s.toks) (fun _ _ => sortedAll_old) hp none_ ⟨ol, out, e, vals_each eo, at_⟩, rfl, q _ none_⟩
end L2
set_option autoImplicit false
set_option linter.all false
set_option maxRecDepth 100000
set_option maxHeartbeats 4000000
namespace ExtT
open PySem PySem.Spec
/-- the two objects, and the state behind -/
structure Both (l b : Addr) (front back : Array Value) (s : Shared) : Prop where
  list : ∃ cap, s.heap.get? l = some { cls := .type "list", data := .seq front cap }
  tup : ∃ dct cap slots, s.heap.get? b = some ⟨.type "tuple", dct, .seq back cap, slots⟩
def after (l : Addr) (back : Array Value) (s : Shared) : Shared := { s with heap := s.heap.update l (Obj.mapSeq (· ++ back)) }
theorem extend_tup {l b : Addr} {front back : Array Value} (room : front.size + back.size ≤ sizeLine) :
    Meets (Builtin.«list.extend» ⟨[.ref l, .ref b], []⟩) fun _ Want s => Both l b front back s ∧ Want (.ok (.ret .none)) (after l back s) := by
  apply Meets.of_wp
  rintro prog w A Want ⟨heap, gens, dict, toks, os⟩ ⟨⟨⟨cap, atL⟩, ⟨dct, cap2, slots, atB⟩⟩, want⟩
  have notLong : ¬ ((!front.isEmpty && Builtin.List.listTooLong (front.size + back.size)) = true) := by
    rw [L2.notLongL room]
    simp
  have room3 : front.size + back.size ≤ sizeLine + 1 := Nat.le_succ_of_le room
  have room1 : front.size ≤ sizeLine := Nat.le_trans (Nat.le_add_right _ _) room
  have room2 : (front ++ back).size ≤ sizeLine + 1 := by
    simp only [Array.size_append]
    omega
  have k0 := AutoSeq1.idx_int
  have k1 := AutoSeq1.sub_tuple_tuple
  have k2 := AutoSeq1.sub_tuple_list
  have k3 := AutoSeq1.sub_list_tuple
  have k4 := AutoSeq1.sub_list_list
  wp_walk using (wpAny_updateSeq atL rfl (hz := room1) (_hz' := room2)), AutoSeq1.wpAny_loadPart' atL, AutoSeq1.wpAny_loadPart' atB
  exact ⟨.none, rfl, want⟩
end ExtT
namespace L2
open PySem PySem.Spec PyProof.Rows HT
/-- list.extend of a tuple -/
def rExtendT (K : PySem.W.Frag) : V → List V → Hp → VK → Prop := fun x vs H Q => ∃ (l b : Addr) (xs zs : List V), x = .ref l ∧ vs = [.ref b] ∧ H l = some (.lst xs) ∧ SqT K H b zs ∧ xs.length + zs.length ≤ sizeLine ∧ Q .non (upd H l (.lst (xs ++ zs)))
theorem mt_extendT {X : Cx} : MtM X "list.extend" (rExtendT X.K) := by
  rintro pins s σ H _ _ v us Q I rx rv ⟨l, b, xs, zs, rfl, rfl, isL, isB, room, q⟩
  obtain rfl : v = .ref l := by cases rx; rfl
  obtain rfl : us = [.ref b] := by
    cases rv with
    | cons r1 r2 =>
      cases r1
      cases r2
      rfl
  obtain ⟨_, front, cap, sameF, _, atL⟩ := I.lstM isL
  obtain ⟨back, sameB, ⟨o, there, isC, cap2, isD⟩, _⟩ := I.tuple isB
  have whole : o = ⟨.type "tuple", o.dict, .seq back.toArray cap2, o.slots⟩ := by
    cases o
    cases isC
    cases isD
    rfl
  rw [whole] at there
  have both : ExtT.Both l b front.toArray back.toArray s := ⟨⟨cap, atL⟩, ⟨_, _, _, there⟩⟩
  have lens : front.toArray.size + back.toArray.size = xs.length + zs.length := by
    simp [sameF.length, sameB.length]
  have joined : xs.length + zs.length = (xs ++ zs).length := (List.length_append ..).symm
  refine call_meets F.slot_list_extend (both.list.elim fun _ at_ => ⟨_, at_, rfl⟩) F.entry_list_extend (F.args_list_extend_2 _ _) (ExtT.extend_tup (lens ▸ room)) ⟨both, ?_⟩
  have next := I.lset (t' := s.toks) (f := (· ++ back.toArray)) (its' := front ++ back) isL atL (by simp) (sameF.append sameB) (joined ▸ room)
  exact ⟨.non, _, next, rfl, q⟩
end L2
set_option autoImplicit false
set_option linter.all false
namespace Ev
open PySem
/-- data: tuples by value, mutable lists by their place in the store, the script -/
inductive D where
  | non | bl (b : Bool) | int (i : Int) | str (s : Str) | tup (xs : List D) | loc (n : Nat) | frz (xs : List D)
abbrev Ky := Sum Int Str
inductive Cell where
  | lst (xs : List D) | dct (kvs : List (Ky × D))
abbrev Env := List (Option D)
abbrev Sto := List Cell
structure Exn where
  cls : Str
  fs : List (Str × D)
inductive R (α : Type) where
  | ok (a : α) | err (e : Exn) (S : Sto) | no
def R.bi {α β : Type} : R α → (α → R β) → R β
  | .ok a, f => f a
  | .err e S, _ => .err e S
  | .no, _ => .no
@[simp] theorem bi_ok {α β : Type} (a : α) (f : α → R β) : (R.ok a).bi f = f a := (rfl)
@[simp] theorem bi_no {α β : Type} (f : α → R β) : (R.no : R α).bi f = .no := (rfl)
def opt {α : Type} : Option α → R α
  | some a => .ok a
  | none => .no
@[simp] theorem opt_some {α : Type} (a : α) : opt (some a) = .ok a := (rfl)
@[simp] theorem opt_none {α : Type} : opt (none : Option α) = .no := (rfl)
theorem bi_eq_ok {α β : Type} {m : R α} {f : α → R β} {b : β} (h : m.bi f = .ok b) : ∃ a, m = .ok a ∧ f a = .ok b := by
  cases m with
  | ok a => exact ⟨a, rfl, h⟩
  | err e S => cases h
  | no => cases h
theorem opt_eq_ok {α : Type} {m : Option α} {a : α} (h : opt m = .ok a) : m = some a := by
  cases m with
  | some b => cases h; rfl
  | none => cases h
def when (c : Prop) [Decidable c] {α : Type} (r : R α) : R α := if c then r else .no
theorem when_ok {c : Prop} [Decidable c] {α : Type} {r : R α} {a : α} (h : when c r = .ok a) : c ∧ r = .ok a := by
  unfold when at h
  by_cases hc : c
  · rw [if_pos hc] at h; exact ⟨hc, h⟩
  · rw [if_neg hc] at h; cases h
theorem when_pos {c : Prop} [Decidable c] {α : Type} {r : R α} (h : c) : when c r = r := if_pos h
def mapO {α β : Type} (f : α → Option β) : List α → Option (List β)
  | [] => some []
  | x :: xs => match f x, mapO f xs with
    | some y, some ys => some (y :: ys)
    | _, _ => none
/-- as data of the library -/
def toPy : Nat → Sto → D → Option PyData
  | 0, _, _ => none
  | n + 1, S, d => match d with
    | .non => some .none
    | .bl b => some (.bool b)
    | .int i => some (.int i)
    | .str s => if PyData.strOk s = true then some (.str s) else none
    | .tup xs => (mapO (toPy n S) xs).map .tuple
    | .frz xs => (mapO (toPy n S) xs).map .list
    | .loc k => match S[k]? with
      | some (.lst xs) => (mapO (toPy n S) xs).map .list
      | _ => none
/-- tuples that hold empty dicts, and no lists -/
def toPyQ : Nat → Sto → D → Option PyData
  | 0, _, _ => none
  | n + 1, S, d => match d with
    | .non => some .none
    | .bl b => some (.bool b)
    | .int i => some (.int i)
    | .str s => if PyData.strOk s = true then some (.str s) else none
    | .tup xs => (mapO (toPyQ n S) xs).map .tuple
    | .frz _ => none
    | .loc k => match S[k]? with
      | some (.dct []) => some (.dict [])
      | _ => none
mutual
def rl : PyData → Nat
  | .none => 4
  | .bool _ => 5
  | .int i => i.natAbs.log2 + 3
  | .str x => 10 * x.length + 2
  | .list xs => rlL xs + 3
  | .tuple xs => rlL xs + 3
  | .dict kvs => if kvs.isEmpty = true then 2 else 16777217
def rlL : List PyData → Nat
  | [] => 0
  | x :: xs => rl x + 2 + rlL xs
end
def scalD : D → D → Bool
  | .int _, .int _ => true
  | .bl _, .bl _ => true
  | .str _, .str _ => true
  | _, _ => false
def eqS : D → D → Bool
  | .int i, .int j => i == j
  | .bl i, .bl j => i == j
  | .str i, .str j => i == j
  | _, _ => false
/-- the items of a list or tuple -/
def items (S : Sto) : D → Option (List D)
  | .tup xs => some xs
  | .frz xs => some xs
  | .loc k => match S[k]? with
    | some (.lst xs) => some xs
    | _ => none
  | _ => none
def isLst (S : Sto) : D → Option (List D)
  | .loc k => match S[k]? with
    | some (.lst xs) => some xs
    | _ => none
  | _ => none
/-- two lists in the store, of unlike lengths -/
def lenU (S : Sto) (a b : D) : Bool := match isLst S a, isLst S b with
  | some xs, some ys => xs.length != ys.length
  | _, _ => false
def eqD (a b : D) (S : Sto) : R Bool :=
  if scalD a b = true then .ok (eqS a b) else if lenU S a b = true then .ok false else
  (opt (toPy 60 S a)).bi fun p => (opt (toPy 60 S b)).bi fun q => .ok (PyData.eqv p q)
/-- a list's or a tuple's items, not the script's -/
def lstTup (S : Sto) : D → Option (List D)
  | .tup xs => some xs
  | d => isLst S d
def dctO (S : Sto) : D → Option (List (Ky × D))
  | .loc k => match S[k]? with
    | some (.dct kvs) => some kvs
    | _ => none
  | _ => none
def keyO : D → Option Ky
  | .int i => some (.inl i)
  | .str y => some (.inr y)
  | _ => none
def kvGet {α : Type} (kvs : List (Ky × α)) (k : Ky) : Option α := (kvs.find? fun kv => decide (kv.1 = k)).map (·.2)
def kvPut {α : Type} (kvs : List (Ky × α)) (k : Ky) (v : α) : List (Ky × α) :=
  if (kvs.any fun kv => decide (kv.1 = k)) = true then kvs.map (fun kv => if kv.1 = k then (kv.1, v) else kv) else kvs ++ [(k, v)]
def kvMerge {α : Type} (kvs more : List (Ky × α)) : List (Ky × α) := more.foldl (fun acc kv => kvPut acc kv.1 kv.2) kvs
/-- a table's entries, one behind another -/
def twoUp : List D → Option (List (Ky × D))
  | [] => some []
  | [_] => none
  | k :: v :: r => match keyO k, twoUp r with
    | some y, some s => some ((y, v) :: s)
    | _, _ => none
def pairO : D → Option (Ky × D)
  | .tup [k, v] => (keyO k).map fun y => (y, v)
  | _ => none
def tru (d : D) (S : Sto) : R Bool := match d with
  | .non => .ok false
  | .bl b => .ok b
  | .int i => .ok (i != 0)
  | .str x => when (x.length ≤ 16777216) (.ok ((x.length : Int) != 0))
  | d => match dctO S d with
    | some kvs => .ok (!kvs.isEmpty)
    | none => (opt (items S d)).bi fun xs => .ok (!xs.isEmpty)
def nth {α : Type} (xs : List α) (i : Int) : Option α := L2.atI xs i
def flatD : D → Bool
  | .non => true
  | .bl _ => true
  | .int _ => true
  | .str _ => true
  | _ => false
def eqF : D → D → Bool
  | .non, .non => true
  | .bl a, .bl b => a == b
  | .bl a, .int b => (if a then 1 else 0) == b
  | .int a, .bl b => a == (if b then 1 else 0)
  | .int a, .int b => a == b
  | .str a, .str b => a == b
  | _, _ => false
def inD (x c : D) (S : Sto) : R Bool := match c with
  | .str z => match x with
    | .str y => .ok (!(Builtin.Str.occurrences z y 0 z.length 1).isEmpty)
    | _ => .no
  | c => match dctO S c with
    | some kvs => (opt (keyO x)).bi fun k => .ok (kvGet kvs k).isSome
    | none => (opt (items S c)).bi fun xs =>
    if flatD x = true ∧ xs.all flatD = true then .ok (xs.any fun y => eqF y x) else
    (opt (lstTup S c)).bi fun ys => (opt (toPy 59 S x)).bi fun d => (opt (mapO (toPy 59 S) ys)).bi fun ds => .ok (ds.any fun z => PyData.eqv z d)
def intsO : List D → Option (List Int) := mapO fun | .int i => some i | _ => none
def blsO : List D → Option (List Bool) := mapO fun | .bl i => some i | _ => none
/-- one pair of ints ahead of another -/
def ltP (a b : D) : R Bool := match a, b with
  | .tup [.int i, .int k], .tup [.int j, .int l] => .ok (decide (i < j ∨ (i = j ∧ k < l)))
  | _, _ => .no
def cmpD (o : CmpOp) (a b : D) (S : Sto) : R Bool := match o with
  | .Eq => eqD a b S
  | .NotEq => (eqD a b S).bi fun t => .ok (!t)
  | .In => inD a b S
  | .NotIn => (inD a b S).bi fun t => .ok (!t)
  | .Lt => match a, b with
    | .int i, .int j => .ok (decide (i < j))
    | a, b => ltP a b
  | .LtE => match a, b with
    | .int i, .int j => .ok (decide (i ≤ j))
    | _, _ => .no
  | .Gt => match a, b with
    | .int i, .int j => .ok (decide (j < i))
    | _, _ => .no
  | .GtE => match a, b with
    | .int i, .int j => .ok (decide (j ≤ i))
    | _, _ => .no
  | .Is => match b with
    | .non => match a with
      | .non => .ok true
      | _ => .ok false
    | _ => .no
  | .IsNot => match b with
    | .non => match a with
      | .non => .ok false
      | _ => .ok true
    | _ => .no
def small (i : Int) : Prop := -(2 ^ 64) < i ∧ i < 2 ^ 64
instance (i : Int) : Decidable (small i) := by unfold small; infer_instance
def binD (o : Operator) (a b : D) (S : Sto) : R (D × Sto) := match o with
  | .Add => match a, b with
    | .int i, .int j => .ok (.int (i + j), S)
    | .str i, .str j => when (i.length + j.length ≤ 16777216) (.ok (.str (i ++ j), S))
    | .tup xs, .tup ys => when (xs.length + ys.length ≤ 16777216) (.ok (.tup (xs ++ ys), S))
    | a, b => (opt (isLst S a)).bi fun xs => (opt (isLst S b)).bi fun ys => when (xs.length + ys.length ≤ 16777216) (.ok (.loc S.length, S ++ [.lst (xs ++ ys)]))
  | .Sub => match a, b with
    | .int i, .int j => .ok (.int (i - j), S)
    | _, _ => .no
  | .Mult => match a, b with
    | .int i, .int j => when (small i ∨ small j) (.ok (.int (i * j), S))
    | .tup xs, .int j => when (-(2 ^ 63) ≤ j ∧ j ≤ 1000 ∧ xs.length ≤ 1000) (.ok (.tup (List.replicate j.toNat xs).flatten, S))
    | a, .int j => (opt (isLst S a)).bi fun xs => when (-(2 ^ 63) ≤ j ∧ j < 2 ^ 63 ∧ xs.length * j.toNat ≤ 16777216) (.ok (.loc S.length, S ++ [.lst (List.replicate j.toNat xs).flatten]))
    | _, _ => .no
  | .FloorDiv => match a, b with
    | .int i, .int j => when (0 < j ∧ j < 2 ^ 64) (.ok (.int (i / j), S))
    | _, _ => .no
  | .Mod => match a, b with
    | .int i, .int j => when (0 < j) (.ok (.int (i % j), S))
    | _, _ => .no
  | .Pow => match a, b with
    | .int i, .int j => when (0 ≤ j ∧ j ≤ 1000000 ∧ i.natAbs < 2 ^ 64) (.ok (.int (i ^ j.toNat), S))
    | _, _ => .no
  | _ => .no
def unaD (o : UnaryOp) (a : D) : R D := match o with
  | .USub => match a with
    | .int i => .ok (.int (-i))
    | _ => .no
  | _ => .no
def subD (a i : D) (S : Sto) : R D := match i with
  | .int j => match a with
    | .str z => when (z.length ≤ 16777216) ((opt (nth z.cps.toList j)).bi fun c => .ok (.str ⟨#[c]⟩))
    | a => (opt (items S a)).bi fun xs => opt (nth xs j)
  | _ => .no
def subX (a i : D) (S : Sto) : R D := match dctO S a with
  | some kvs => (opt (keyO i)).bi fun k => opt (kvGet kvs k)
  | none => subD a i S
def setX (o i v : D) (S : Sto) : R Sto := match dctO S o with
  | some kvs => match o with
    | .loc k => (opt (keyO i)).bi fun y => when (kvs.length < 16777216) (.ok (S.set k (.dct (kvPut kvs y v))))
    | _ => .no
  | none => match o, i with
    | .loc k, .int n => (opt (isLst S (.loc k))).bi fun xs => (opt (L2.ixN xs.length n)).bi fun m => .ok (S.set k (.lst (xs.set m v)))
    | _, _ => .no
def cut {α : Type} (xs : List α) (lo hi : Option Int) : List α :=
  (xs.drop (HT.sIx xs.length 0 lo)).take (HT.sIx xs.length xs.length hi - HT.sIx xs.length 0 lo)
def slcD (a : D) (lo hi : Option Int) (S : Sto) : R (D × Sto) := match a with
  | .tup xs => .ok (.tup (cut xs lo hi), S)
  | .frz xs => .ok (.loc S.length, S ++ [.lst (cut xs lo hi)])
  | .loc k => match S[k]? with
    | some (.lst xs) => .ok (.loc S.length, S ++ [.lst (cut xs lo hi)])
    | _ => .no
  | _ => .no
/-- insertion, for sorted -/
def ins (x : Int) : List Int → List Int
  | [] => [x]
  | y :: ys => if x ≤ y then x :: y :: ys else y :: ins x ys
def isort : List Int → List Int
  | [] => []
  | x :: xs => ins x (isort xs)
/-- the one that stands best with all -/
def most (le : Int → Int → Bool) : List Int → Option Int
  | [] => none
  | x :: xs => match most le xs with
    | none => some x
    | some y => if le x y = true then some x else some y
/-- built-in functions and types, by name -/
inductive B where
  | len | abs | int | bool | str | repr | tuple | list | sorted | sum | any | all | max | min | dict
def rg (a b : Int) : List D := (List.range (b - a).toNat).map fun i => D.int (a + (i : Nat))
def rgD (a b : Int) : List D := (List.range (a - b).toNat).map fun i => D.int (a - (i : Nat))
def rgOk (a b : Int) : Prop := -(2 ^ 62) ≤ a ∧ a < 2 ^ 62 ∧ -(2 ^ 62) ≤ b ∧ b < 2 ^ 62 ∧ (b - a).toNat ≤ 16777216
instance (a b : Int) : Decidable (rgOk a b) := by unfold rgOk; infer_instance
def reprD (d : D) (S : Sto) : R Str := match toPy 60 S d with
  | some p => when (p.showable = true ∧ rl p ≤ 16777216) (.ok p.shown)
  | none => (opt (toPyQ 60 S d)).bi fun p => when (p.showable = true ∧ rl p ≤ 16777216) (.ok p.shown)
/-- a key, as a datum -/
def kyD : Ky → D
  | .inl i => .int i
  | .inr y => .str y
/-- a tuple that is not empty -/
def tupB : PyData → Bool
  | .tuple (_ :: _) => true
  | _ => false
/-- tuples that are alike, in order -/
def srtO (S : Sto) (xs : List D) : Option (List D) := (mapO (toPy 60 S) xs).bind fun ps =>
  if (ps.all fun p => ps.all fun q => PySem.W.alike p q) = true ∧ ps.all tupB = true then some (((xs.zip ps).mergeSort (PySem.W.dataLe false Prod.snd)).map Prod.fst) else none
/-- the same, the greatest first -/
def srvO (S : Sto) (xs : List D) : Option (List D) := (mapO (toPy 60 S) xs).bind fun ps =>
  if (ps.all fun p => ps.all fun q => PySem.W.alike p q) = true ∧ ps.all tupB = true then some (((xs.zip ps).mergeSort (PySem.W.dataLe true Prod.snd)).map Prod.fst) else none
def srvD (d : D) (S : Sto) : R (D × Sto) := (opt (isLst S d)).bi fun xs => (opt (srvO S xs)).bi fun ys => .ok (.loc S.length, S ++ [.lst ys])
def sorD (d : D) (xs : List D) (S : Sto) : R (D × Sto) := match intsO xs with
  | some ns => .ok (.loc S.length, S ++ [.lst ((isort ns).map .int)])
  | none => match d with
    | .loc _ => (opt (srtO S xs)).bi fun ys => .ok (.loc S.length, S ++ [.lst ys])
    | _ => .no
def onesB (bs : List Bool) : List Int := bs.map fun b => if b = true then 1 else 0
/-- the sum of numbers, or how many are true -/
def sumO (xs : List D) : Option Int := match intsO xs with
  | some ns => some ns.sum
  | none => (blsO xs).map fun bs => (onesB bs).sum
def bltD (b : B) (es : List D) (S : Sto) : R (D × Sto) := match b, es with
  | .len, [.str x] => when (x.length ≤ 16777216) (.ok (.int x.length, S))
  | .len, [d] => (opt (items S d)).bi fun xs => .ok (.int xs.length, S)
  | .abs, [.int i] => .ok (.int (if i < 0 then -i else i), S)
  | .int, [.int i] => .ok (.int i, S)
  | .int, [.bl b] => .ok (.int (if b then 1 else 0), S)
  | .bool, [.int i] => .ok (.bl (i != 0), S)
  | .bool, [.bl b] => .ok (.bl b, S)
  | .str, [.int i] => when (i.natAbs.log2 < 1920) (.ok (.str (toString i), S))
  | .repr, [d] => (reprD d S).bi fun x => .ok (.str x, S)
  | .tuple, [d] => (opt (items S d)).bi fun xs => .ok (.tup xs, S)
  | .list, [d] => match dctO S d with
    | some kvs => .ok (.loc S.length, S ++ [.lst (kvs.map fun kv => kyD kv.1)])
    | none => (opt (items S d)).bi fun xs => .ok (.loc S.length, S ++ [.lst xs])
  | .sorted, [d] => (opt (items S d)).bi fun xs => sorD d xs S
  | .sum, [d] => (opt (isLst S d)).bi fun xs => (opt (sumO xs)).bi fun n => .ok (.int n, S)
  | .any, [d] => (opt (isLst S d)).bi fun xs => (opt (blsO xs)).bi fun bs => .ok (.bl (bs.any id), S)
  | .all, [d] => (opt (isLst S d)).bi fun xs => (opt (blsO xs)).bi fun bs => .ok (.bl (bs.all id), S)
  | .max, [.int i, .int j] => .ok (.int (if j > i then j else i), S)
  | .max, [d] => (opt (lstTup S d)).bi fun xs => (opt (intsO xs)).bi fun ns => (opt (most (fun a b => decide (b ≤ a)) ns)).bi fun m => .ok (.int m, S)
  | .min, [.int i, .int j] => .ok (.int (if j < i then j else i), S)
  | .min, [d] => (opt (isLst S d)).bi fun xs => (opt (intsO xs)).bi fun ns => (opt (most (fun a b => decide (a ≤ b)) ns)).bi fun m => .ok (.int m, S)
  | .dict, [d] => match dctO S d with
    | some kvs => .ok (.loc S.length, S ++ [.dct kvs])
    | none => (opt (isLst S d)).bi fun xs => (opt (mapO pairO xs)).bi fun kvs => .ok (.loc S.length, S ++ [.dct (kvMerge [] kvs)])
  | _, _ => .no
/-- built-in types asked after -/
inductive Ty where
  | int | bool | str | tuple | list
  deriving DecidableEq
def isiD (t : Ty) (d : D) (S : Sto) : R Bool := match d with
  | .non => .ok false
  | .bl _ => .ok (decide (t = .bool ∨ t = .int))
  | .int _ => .ok (decide (t = .int))
  | .str _ => .ok (decide (t = .str))
  | .tup _ => .ok (decide (t = .tuple))
  | .frz _ => .ok (decide (t = .list))
  | .loc k => match dctO S (.loc k) with
    | some _ => .ok false
    | none => (opt (isLst S (.loc k))).bi fun _ => .ok (decide (t = .list))
def revD (d : D) (S : Sto) : R (D × Sto) := match d with
  | .tup xs => .ok (.tup xs.reverse, S)
  | .frz xs => .ok (.loc S.length, S ++ [.lst xs.reverse])
  | d => (opt (isLst S d)).bi fun xs => .ok (.loc S.length, S ++ [.lst xs.reverse])
/-- insertion that leaves out what is there -/
def insU (x : Int) : List Int → List Int
  | [] => [x]
  | y :: ys => if x < y then x :: y :: ys else if x = y then y :: ys else y :: insU x ys
def sortU : List Int → List Int
  | [] => []
  | x :: xs => insU x (sortU xs)
/-- a pair of small numbers, as one number -/
def pairU : D → Option Int
  | .tup [.int x, .int y] => if 0 ≤ x ∧ x < 64 ∧ 0 ≤ y ∧ y < 64 then some (x * 64 + y) else none
  | _ => none
def unpair (c : Int) : D := .tup [.int (c / 64), .int (c % 64)]
/-- sorted(set(a list)), of ints or of pairs of small ints -/
def srsD (d : D) (S : Sto) : R (D × Sto) := (opt (isLst S d)).bi fun xs => when (xs.length < 64) (match intsO xs with
  | some ns => .ok (.loc S.length, S ++ [.lst ((sortU ns).map .int)])
  | none => (opt (mapO pairU xs)).bi fun cs => .ok (.loc S.length, S ++ [.lst ((sortU cs).map unpair)]))
/-- len(set(a list)), of ints -/
def lsetD (d : D) (S : Sto) : R (D × Sto) := (opt (isLst S d)).bi fun xs => when (xs.length < 64) ((opt (intsO xs)).bi fun ns => .ok (.int ((sortU ns).length : Nat), S))
/-- list(a table's items) -/
def litD (d : D) (S : Sto) : R (D × Sto) := (opt (dctO S d)).bi fun kvs => .ok (.loc S.length, S ++ [.lst (kvs.map fun kv => .tup [kyD kv.1, kv.2])])
/-- a number out of a table of the module, or something else -/
def ggetD (kvs : List (Str × Int)) (k d : D) (S : Sto) : R (D × Sto) := match k with
  | .str z => .ok (match kvs.lookup z with
    | some i => .int i
    | none => d, S)
  | _ => .no
/-- methods of lists -/
inductive M where
  | append | pop | insert | extend | index
/-- where a number stands first -/
def ixO (xs : List D) (i : Int) : Option Nat := (intsO xs).bind fun ns => if ns.findIdx (fun n => decide (n = i)) < ns.length then some (ns.findIdx fun n => decide (n = i)) else none
def mthD (m : M) (o : D) (es : List D) (S : Sto) : R (D × Sto) := match o with
  | .loc k => (opt (isLst S (.loc k))).bi fun xs => match m, es with
    | .append, [d] => when (xs.length < 16777216) (.ok (.non, S.set k (.lst (xs ++ [d]))))
    | .pop, [] => (opt (xs[xs.length - 1]?)).bi fun y => .ok (y, S.set k (.lst xs.dropLast))
    | .pop, [.int i] => when (0 ≤ i ∧ i < 2 ^ 62) ((opt (xs[i.toNat]?)).bi fun y => .ok (y, S.set k (.lst (xs.eraseIdx i.toNat))))
    | .insert, [.int i, d] => when (xs.length < 16777216 ∧ 0 ≤ i ∧ i < 2 ^ 62) (.ok (.non, S.set k (.lst (xs.take i.toNat ++ [d] ++ xs.drop i.toNat))))
    | .extend, [.loc j] => (opt (isLst S (.loc j))).bi fun ys => when (xs.length + ys.length ≤ 16777216) (.ok (.non, S.set k (.lst (xs ++ ys))))
    | .extend, [.tup ys] => when (xs.length + ys.length ≤ 16777216) (.ok (.non, S.set k (.lst (xs ++ ys))))
    | .index, [.int i] => (opt (ixO xs i)).bi fun j => .ok (.int (j : Int), S)
    | _, _ => .no
  | _ => .no
/-- methods of tables -/
inductive DM where
  | get | update
def dmtD (m : DM) (o : D) (es : List D) (S : Sto) : R (D × Sto) := match o with
  | .loc n => (opt (dctO S (.loc n))).bi fun kvs => match m, es with
    | .get, [k] => (opt (keyO k)).bi fun y => .ok ((kvGet kvs y).getD .non, S)
    | .get, [k, d] => (opt (keyO k)).bi fun y => .ok ((kvGet kvs y).getD d, S)
    | .update, [.loc j] => when (n ≠ j) ((opt (dctO S (.loc j))).bi fun more => when (kvs.length + more.length ≤ 16777216) (.ok (.non, S.set n (.dct (kvMerge kvs more)))))
    | _, _ => .no
  | _ => .no
inductive Pt where
  | nm (i : Nat) | tp (ps : List Pt)
/-- what is walked -/
inductive K where
  | seq | rng1 | rng2 | enum | zip
inductive C where
  | var (i : Nat) | cst (d : D)
  | una (o : UnaryOp) (a : C) | bin (o : Operator) (a b : C)
  | cmp (o : CmpOp) (a b : C) | cmp2 (o p : CmpOp) (a b c : C)
  | and (a b : C) | or (a b : C) | not (a : C) | ife (c a b : C)
  | tup (es : List C) | lst (es : List C)
  | sub (a i : C) | slc (a : C) (hl : Bool) (lo : C) (hh : Bool) (hi : C)
  | call (f : Nat) (es : List C) | calk (f : Nat) (es ks : List C) (g : List Nat)
  | blt (b : B) (es : List C) | lrng (es : List C) | mth (m : M) (o : C) (es : List C) | dmt (m : DM) (o : C) (es : List C) | dic (es : List C) | isi (t : Ty) (a : C) | rev (a : C) | srs (a : C) | lset (a : C) | srv (a : C) | lit (a : C) | gget (kvs : List (Str × Int)) (a b : C) | trng (es : List C)
  | lc (e : C) (own : List Nat) (p : Pt) (k : K) (src : List C) (cond : C)
inductive St where
  | asg (p : Pt) (e : C) | par (i j : Nat) (a b : C) | par3 (i j l : Nat) (a b c : C) | sset (o i e : C) | asb (o i : C) (v : Nat) (e : C) | abs (o i : C) (v : Nat) (e : C)
  | exp (e : C) | ret (e : C) | iff (c : C) (a b : List St) | whl (c : C) (b : List St)
  | fr (p : Pt) (k : K) (src : List C) (b : List St) | pass | cnt | brk | nev
mutual
def bindP : Pt → D → Env → Option Env
  | .nm i, d, r => some (r.set i (some d))
  | .tp ps, d, r => match d with
    | .tup ds => bindPs ps ds r
    | _ => none
def bindPs : List Pt → List D → Env → Option Env
  | [], ds, r => match ds with
    | [] => some r
    | _ => none
  | p :: ps, ds, r => match ds with
    | [] => none
    | d :: ds => match bindP p d r with
      | some r' => bindPs ps ds r'
      | none => none
end
def wipeE (r : Env) : List Nat → Env
  | [] => r
  | v :: vs => (wipeE r vs).set v none
/-- lists that must stay as they are while they are walked -/
inductive G where
  | no | one (p : Nat × List D) | two (p q : Nat × List D) | thr (p q o : Nat × List D)
def gok (g : G) (S : Sto) : Prop := match g with
  | .no => True
  | .one (k, xs) => S[k]? = some (.lst xs)
  | .two (k, xs) (l, ys) => S[k]? = some (.lst xs) ∧ S[l]? = some (.lst ys)
  | .thr (k, xs) (l, ys) (m, zs) => S[k]? = some (.lst xs) ∧ S[l]? = some (.lst ys) ∧ S[m]? = some (.lst zs)
def pairs (xs : List D) : List D := (List.range xs.length).zipWith (fun i d => D.tup [.int (i : Nat), d]) xs
def zipT (xs ys : List D) : List D := xs.zipWith (fun x y => D.tup [x, y]) ys
def zip3T (xs ys zs : List D) : List D := (xs.zip (ys.zip zs)).map fun p => D.tup [p.1, p.2.1, p.2.2]
def srcD (k : K) (es : List D) (S : Sto) : R (List D × G) := match k, es with
  | .seq, [.loc n] => (opt (isLst S (.loc n))).bi fun xs => .ok (xs, .one (n, xs))
  | .seq, [.tup xs] => .ok (xs, .no)
  | .seq, [.frz xs] => .ok (xs, .no)
  | .rng1, [.int j] => when (rgOk 0 j) (.ok (rg 0 j, .no))
  | .rng2, [.int i, .int j] => when (rgOk i j) (.ok (rg i j, .no))
  | .enum, [.tup xs] => .ok (pairs xs, .no)
  | .enum, [.loc n] => (opt (isLst S (.loc n))).bi fun xs => .ok (pairs xs, .one (n, xs))
  | .zip, [.tup xs, .tup ys] => .ok (zipT xs ys, .no)
  | .zip, [.loc n, .loc k] => (opt (isLst S (.loc n))).bi fun xs => (opt (isLst S (.loc k))).bi fun ys => .ok (zipT xs ys, .two (n, xs) (k, ys))
  | .zip, [.tup xs, .loc k] => (opt (isLst S (.loc k))).bi fun ys => .ok (zipT xs ys, .one (k, ys))
  | .zip, [.loc n, .loc k, .loc l] => (opt (isLst S (.loc n))).bi fun xs => (opt (isLst S (.loc k))).bi fun ys => (opt (isLst S (.loc l))).bi fun zs => .ok (zip3T xs ys zs, .thr (n, xs) (k, ys) (l, zs))
  | _, _ => .no
inductive Fl where
  | nx (r : Env) (S : Sto) | ct (r : Env) (S : Sto) | bk (r : Env) (S : Sto) | rt (d : D) (S : Sto)
open Classical in
noncomputable def lcGo (g : G) (n : Nat) (step : D → Sto → R (Option D × Sto)) : List D → Sto → R Sto
  | [], S => if gok g S then .ok S else .no
  | d :: ds, S => if gok g S then (step d S).bi fun p => match p.1 with
    | none => lcGo g n step ds p.2
    | some x => (opt (isLst p.2 (.loc n))).bi fun acc => when (acc.length < 16777216) (lcGo g n step ds (p.2.set n (.lst (acc ++ [x]))))
    else .no
/-- a code's value, and it as a test -/
structure VT where
  v : Env → Sto → R (D × Sto)
  t : Env → Sto → R (Bool × Sto)
def plainT (v : Env → Sto → R (D × Sto)) : VT := ⟨v, fun r S => (v r S).bi fun p => (tru p.1 p.2).bi fun t => .ok (t, p.2)⟩
def partD (h : Bool) (v : Env → Sto → R (D × Sto)) (r : Env) (S : Sto) : R (Option Int × Sto) :=
  if h = true then (v r S).bi fun p => match p.1 with
    | .int i => .ok (some i, p.2)
    | _ => .no
  else .ok (none, S)
def perm (g : List Nat) (ds : List D) : Option (List D) := mapO (fun i => ds[i]?) g
section
variable (F : Nat → List D → Sto → R (D × Sto))
mutual
noncomputable def evP : C → VT
  | .var i => plainT fun r S => match r[i]? with
    | some (some d) => .ok (d, S)
    | _ => .no
  | .cst d => plainT fun _ S => .ok (d, S)
  | .una o a => plainT fun r S => ((evP a).v r S).bi fun p => (unaD o p.1).bi fun d => .ok (d, p.2)
  | .bin o a b => plainT fun r S => ((evP a).v r S).bi fun p => ((evP b).v r p.2).bi fun q => binD o p.1 q.1 q.2
  | .cmp o a b => plainT fun r S => ((evP a).v r S).bi fun p => ((evP b).v r p.2).bi fun q => (cmpD o p.1 q.1 q.2).bi fun t => .ok (.bl t, q.2)
  | .cmp2 o o2 a b c => plainT fun r S => ((evP a).v r S).bi fun p => ((evP b).v r p.2).bi fun q => (cmpD o p.1 q.1 q.2).bi fun t =>
      if t = true then ((evP c).v r q.2).bi fun z => (cmpD o2 q.1 z.1 z.2).bi fun u => .ok (.bl u, z.2) else .ok (.bl false, q.2)
  | .and a b => ⟨fun r S => ((evP a).v r S).bi fun p => (tru p.1 p.2).bi fun t => if t = true then (evP b).v r p.2 else .ok p,
      fun r S => ((evP a).t r S).bi fun p => if p.1 = true then (evP b).t r p.2 else .ok (false, p.2)⟩
  | .or a b => ⟨fun r S => ((evP a).v r S).bi fun p => (tru p.1 p.2).bi fun t => if t = true then .ok p else (evP b).v r p.2,
      fun r S => ((evP a).t r S).bi fun p => if p.1 = true then .ok (true, p.2) else (evP b).t r p.2⟩
  | .not a => ⟨fun r S => ((evP a).v r S).bi fun p => (tru p.1 p.2).bi fun t => .ok (.bl (!t), p.2),
      fun r S => ((evP a).t r S).bi fun p => .ok (!p.1, p.2)⟩
  | .ife c a b => ⟨fun r S => ((evP c).t r S).bi fun p => if p.1 = true then (evP a).v r p.2 else (evP b).v r p.2,
      fun r S => ((evP c).t r S).bi fun p => if p.1 = true then (evP a).t r p.2 else (evP b).t r p.2⟩
  | .tup es => plainT fun r S => (evL es r S).bi fun p => .ok (.tup p.1, p.2)
  | .lst es => plainT fun r S => (evL es r S).bi fun p => .ok (.loc p.2.length, p.2 ++ [.lst p.1])
  | .sub a i => plainT fun r S => ((evP a).v r S).bi fun p => ((evP i).v r p.2).bi fun q => (subX p.1 q.1 q.2).bi fun d => .ok (d, q.2)
  | .slc a hl lo hh hi => plainT fun r S => ((evP a).v r S).bi fun p => (partD hl (evP lo).v r p.2).bi fun q => (partD hh (evP hi).v r q.2).bi fun z => slcD p.1 q.1 z.1 z.2
  | .call f es => plainT fun r S => (evL es r S).bi fun p => F f p.1 p.2
  | .calk f es ks g => plainT fun r S => (evL es r S).bi fun p => (evL ks r p.2).bi fun q => (opt (perm g (p.1 ++ q.1))).bi fun ds => F f ds q.2
  | .blt b es => plainT fun r S => (evL es r S).bi fun p => bltD b p.1 p.2
  | .lrng es => plainT fun r S => (evL es r S).bi fun p => match p.1 with
    | [.int j] => when (rgOk 0 j) (.ok (.loc p.2.length, p.2 ++ [.lst (rg 0 j)]))
    | [.int i, .int j] => when (rgOk i j) (.ok (.loc p.2.length, p.2 ++ [.lst (rg i j)]))
    | [.int i, .int j, .int c] => when (c = -1 ∧ rgOk j i) (.ok (.loc p.2.length, p.2 ++ [.lst (rgD i j)]))
    | _ => .no
  | .mth m o es => plainT fun r S => ((evP o).v r S).bi fun p => (opt (isLst p.2 p.1)).bi fun _ => (evL es r p.2).bi fun q => mthD m p.1 q.1 q.2
  | .dmt m o es => plainT fun r S => ((evP o).v r S).bi fun p => (opt (dctO p.2 p.1)).bi fun _ => (evL es r p.2).bi fun q => dmtD m p.1 q.1 q.2
  | .dic es => plainT fun r S => (evL es r (S ++ [.dct []])).bi fun p => match p.2[S.length]? with
    | some (.dct []) => (opt (twoUp p.1)).bi fun kvs => .ok (.loc S.length, p.2.set S.length (.dct (kvMerge [] kvs)))
    | _ => .no
  | .isi t a => plainT fun r S => ((evP a).v r S).bi fun p => (isiD t p.1 p.2).bi fun b => .ok (.bl b, p.2)
  | .rev a => plainT fun r S => ((evP a).v r S).bi fun p => revD p.1 p.2
  | .srs a => plainT fun r S => ((evP a).v r S).bi fun p => srsD p.1 p.2
  | .lset a => plainT fun r S => ((evP a).v r S).bi fun p => lsetD p.1 p.2
  | .srv a => plainT fun r S => ((evP a).v r S).bi fun p => srvD p.1 p.2
  | .lit a => plainT fun r S => ((evP a).v r S).bi fun p => litD p.1 p.2
  | .gget kvs a b => plainT fun r S => ((evP a).v r S).bi fun p => ((evP b).v r p.2).bi fun q => ggetD kvs p.1 q.1 q.2
  | .trng es => plainT fun r S => (evL es r S).bi fun p => match p.1 with
    | [.int j] => when (rgOk 0 j) (.ok (.tup (rg 0 j), p.2))
    | [.int i, .int j] => when (rgOk i j) (.ok (.tup (rg i j), p.2))
    | _ => .no
  | .lc e own p k src cond => plainT fun r S => (evL src r S).bi fun z => (srcD k z.1 z.2).bi fun it =>
      (lcGo it.2 z.2.length (fun d S1 => (opt (bindP p d (wipeE r own))).bi fun r1 => ((evP cond).t r1 S1).bi fun t =>
        if t.1 = true then ((evP e).v r1 t.2).bi fun q => .ok (some q.1, q.2) else .ok (none, t.2)) it.1 (z.2 ++ [.lst []])).bi fun S2 => .ok (.loc z.2.length, S2)
noncomputable def evL : List C → Env → Sto → R (List D × Sto)
  | [], _, S => .ok ([], S)
  | e :: es, r, S => ((evP e).v r S).bi fun p => (evL es r p.2).bi fun q => .ok (p.1 :: q.1, q.2)
end
noncomputable def ev (e : C) : Env → Sto → R (D × Sto) := (evP F e).v
noncomputable def evT (e : C) : Env → Sto → R (Bool × Sto) := (evP F e).t
def itW (c : Env → Sto → R (Bool × Sto)) (b : Env → Sto → R Fl) : Nat → Env → Sto → R Fl
  | 0, _, _ => .no
  | n + 1, r, S => (c r S).bi fun t => if t.1 = true then (b r t.2).bi fun f => match f with
      | .nx r' S' => itW c b n r' S'
      | .ct r' S' => itW c b n r' S'
      | .bk r' S' => .ok (.nx r' S')
      | .rt d S' => .ok (.rt d S')
    else .ok (.nx r t.2)
open Classical in
noncomputable def whileR (c : Env → Sto → R (Bool × Sto)) (b : Env → Sto → R Fl) (r : Env) (S : Sto) : R Fl :=
  if h : ∃ n f, itW c b n r S = .ok f then .ok (h.choose_spec.choose) else .no
open Classical in
noncomputable def frGo (g : G) (p : Pt) (b : Env → Sto → R Fl) : List D → Env → Sto → R Fl
  | [], r, S => if gok g S then .ok (.nx r S) else .no
  | d :: ds, r, S => if gok g S then (opt (bindP p d r)).bi fun r1 => (b r1 S).bi fun f => match f with
      | .nx r' S' => frGo g p b ds r' S'
      | .ct r' S' => frGo g p b ds r' S'
      | .bk r' S' => .ok (.nx r' S')
      | .rt d S' => .ok (.rt d S')
    else .no
mutual
noncomputable def evS : St → Env → Sto → R Fl
  | .asg p e, r, S => (ev F e r S).bi fun z => (opt (bindP p z.1 r)).bi fun r' => .ok (.nx r' z.2)
  | .par i j a b, r, S => (ev F a r S).bi fun p => (ev F b r p.2).bi fun q => .ok (.nx ((r.set i (some p.1)).set j (some q.1)) q.2)
  | .par3 i j l a b c, r, S => (ev F a r S).bi fun p => (ev F b r p.2).bi fun q => (ev F c r q.2).bi fun z => .ok (.nx (((r.set i (some p.1)).set j (some q.1)).set l (some z.1)) z.2)
  | .sset o i e, r, S => (ev F e r S).bi fun v => (ev F o r v.2).bi fun p => (ev F i r p.2).bi fun q => (setX p.1 q.1 v.1 q.2).bi fun S' => .ok (.nx r S')
  | .asb o i w e, r, S => (ev F e r S).bi fun z => match z.1 with
    | .tup [a, b] => (ev F o r z.2).bi fun p => (ev F i r p.2).bi fun q => (setX p.1 q.1 a q.2).bi fun S' => .ok (.nx (r.set w (some b)) S')
    | _ => .no
  | .abs o i w e, r, S => (ev F e r S).bi fun z => match z.1 with
    | .tup [a, b] => (ev F o (r.set w (some a)) z.2).bi fun p => (ev F i (r.set w (some a)) p.2).bi fun q => (setX p.1 q.1 b q.2).bi fun S' => .ok (.nx (r.set w (some a)) S')
    | _ => .no
  | .exp e, r, S => (ev F e r S).bi fun p => .ok (.nx r p.2)
  | .ret e, r, S => (ev F e r S).bi fun p => .ok (.rt p.1 p.2)
  | .iff c a b, r, S => (evT F c r S).bi fun t => if t.1 = true then evSs a r t.2 else evSs b r t.2
  | .whl c b, r, S => whileR (evT F c) (evSs b) r S
  | .fr p k src b, r, S => (evL F src r S).bi fun z => (srcD k z.1 z.2).bi fun it => frGo it.2 p (evSs b) it.1 r z.2
  | .pass, r, S => .ok (.nx r S)
  | .cnt, r, S => .ok (.ct r S)
  | .brk, r, S => .ok (.bk r S)
  | .nev, _, _ => .no
noncomputable def evSs : List St → Env → Sto → R Fl
  | [], r, S => .ok (.nx r S)
  | s :: ss, r, S => (evS s r S).bi fun f => match f with
    | .nx r' S' => evSs ss r' S'
    | f => .ok f
end
end
mutual
def D.und (n : Nat) : D → Bool
  | .tup xs => D.undL n xs
  | .frz xs => D.undL n xs
  | .loc k => decide (k < n)
  | _ => true
def D.undL (n : Nat) : List D → Bool
  | [] => true
  | x :: xs => D.und n x && D.undL n xs
end
def Cell.und (n : Nat) : Cell → Bool
  | .lst xs => D.undL n xs
  | .dct kvs => D.undL n (kvs.map (·.2))
/-- what a def leaves behind may be forgotten -/
def trimOk (S S1 : Sto) (d : D) : Prop := d.und S.length = true ∧ ∀ i c, i < S.length → S1[i]? = some c → S[i]? = some c ∨ c.und S.length = true
open Classical in
noncomputable def trim (S S1 : Sto) (d : D) : Sto := if trimOk S S1 d then S1.take S.length else S1
structure Fn where
  np : Nat
  nn : Nat
  body : List St
noncomputable def runFn (F : Nat → List D → Sto → R (D × Sto)) (f : Fn) (ds : List D) (S : Sto) : R (D × Sto) :=
  when (ds.length = f.np) ((evSs F f.body (ds.map some ++ List.replicate (f.nn - f.np) none) S).bi fun r => match r with
    | .rt d S1 => .ok (d, trim S S1 d)
    | .nx _ S1 => .ok (.non, trim S S1 .non)
    | _ => .no)
end Ev
set_option autoImplicit false
set_option linter.all false
namespace Ev
open PySem
open L2
def FrzL (K : PySem.W.Frag) (H : Hp) (a : Addr) (vs : List V) : Prop := (∃ o, H a = some (.frz o (.lst vs))) ∨ SqL K (fun _ => none) a vs
section
variable (K : PySem.W.Frag) (H : Hp) (m : List Addr)
mutual
def RepD : D → V → Prop
  | .non, v => v = .non
  | .bl b, v => v = .bl b
  | .int i, v => v = .int i
  | .str s, v => v = .str s
  | .tup xs, v => ∃ a vs, v = .ref a ∧ SqT K H a vs ∧ RepL xs vs
  | .loc k, v => ∃ a, m[k]? = some a ∧ v = .ref a
  | .frz xs, v => ∃ a vs, v = .ref a ∧ FrzL K H a vs ∧ RepL xs vs
def RepL : List D → List V → Prop
  | [], vs => vs = []
  | d :: ds, vs => ∃ v r, vs = v :: r ∧ RepD d v ∧ RepL ds r
end
def RepK : List (Ky × D) → List (Key × V) → Prop
  | [], ws => ws = []
  | p :: ps, ws => ∃ v r, ws = (p.1, v) :: r ∧ RepD K H m p.2 v ∧ RepK ps r
def RepC : Cell → Addr → Prop
  | .lst xs, a => ∃ vs, H a = some (.lst vs) ∧ RepL K H m xs vs
  | .dct kvs, a => ∃ ws, H a = some (.dK ws) ∧ RepK K H m kvs ws
structure RSt (S : Sto) : Prop where
  len : m.length = S.length
  nd : m.Nodup
  at_ : ∀ (i : Nat) (c : Cell), S[i]? = some c → ∃ a, m[i]? = some a ∧ RepC K H m c a
structure REnv (r : Env) (s : L2.St) : Prop where
  len : r.length = s.length
  at_ : ∀ (i : Nat) (d : D), r[i]? = some (some d) → ∃ v, s[i]? = some (some v) ∧ RepD K H m d v
end
/-- from a heap to a later one -/
structure Up (H : Hp) (m : List Addr) (H' : Hp) (m' : List Addr) : Prop where
  tup : ∀ b xs, H b = some (.tup xs) → H' b = some (.tup xs)
  frl : ∀ b o xs, H b = some (.frz o (.lst xs)) → H' b = some (.frz o (.lst xs))
  frt : ∀ b o xs, H b = some (.frz o (.tup xs)) → H' b = some (.frz o (.tup xs))
  pre : ∃ t, m' = m ++ t
section
variable {K : PySem.W.Frag} {H H1 H2 : Hp} {m m1 m2 : List Addr} {S : Sto}
theorem Up.refl : Up H m H m := ⟨fun _ _ h => h, fun _ _ _ h => h, fun _ _ _ h => h, [], by simp⟩
theorem Up.trans (a : Up H m H1 m1) (b : Up H1 m1 H2 m2) : Up H m H2 m2 := by
  obtain ⟨s, rfl⟩ := a.pre
  obtain ⟨t, rfl⟩ := b.pre
  exact ⟨fun c x h => b.tup c x (a.tup c x h), fun c o x h => b.frl c o x (a.frl c o x h), fun c o x h => b.frt c o x (a.frt c o x h), s ++ t, by simp⟩
theorem Up.get (u : Up H m H1 m1) {k : Nat} {a : Addr} (h : m[k]? = some a) : m1[k]? = some a := by
  obtain ⟨t, rfl⟩ := u.pre
  rw [List.getElem?_append_left (List.getElem?_eq_some_iff.mp h).1]
  exact h
theorem Up.sqT (u : Up H m H1 m1) {a : Addr} {vs : List V} (h : SqT K H a vs) : SqT K H1 a vs := by
  rcases h with (h | ⟨o, h⟩) | h
  · exact .inl (.inl (u.tup _ _ h))
  · exact .inl (.inr ⟨o, u.frt _ _ _ h⟩)
  · exact .inr h
theorem Up.frzL (u : Up H m H1 m1) {a : Addr} {vs : List V} (h : FrzL K H a vs) : FrzL K H1 a vs := by
  rcases h with ⟨o, h⟩ | h
  · exact .inl ⟨o, u.frl _ _ _ h⟩
  · exact .inr h
theorem FrzL.sq {a : Addr} {vs : List V} (h : FrzL K H a vs) : SqL K H a vs := by
  rcases h with ⟨o, h⟩ | ((h | ⟨o, h⟩) | h)
  · exact .inl (.inr ⟨o, h⟩)
  · cases h
  · cases h
  · exact .inr h
mutual
theorem RepD.up (u : Up H m H1 m1) : ∀ (d : D) (v : V), RepD K H m d v → RepD K H1 m1 d v
  | .non, v, h => by simpa only [RepD] using h
  | .bl _, v, h => by simpa only [RepD] using h
  | .int _, v, h => by simpa only [RepD] using h
  | .str _, v, h => by simpa only [RepD] using h
  | .loc k, v, h => by
    simp only [RepD] at h ⊢
    obtain ⟨a, h1, h2⟩ := h
    exact ⟨a, u.get h1, h2⟩
  | .tup xs, v, h => by
    simp only [RepD] at h ⊢
    obtain ⟨a, vs, h1, h2, h3⟩ := h
    exact ⟨a, vs, h1, u.sqT h2, RepL.up u xs vs h3⟩
  | .frz xs, v, h => by
    simp only [RepD] at h ⊢
    obtain ⟨a, vs, h1, h2, h3⟩ := h
    exact ⟨a, vs, h1, u.frzL h2, RepL.up u xs vs h3⟩
theorem RepL.up (u : Up H m H1 m1) : ∀ (ds : List D) (vs : List V), RepL K H m ds vs → RepL K H1 m1 ds vs
  | [], vs, h => by simpa only [RepL] using h
  | d :: ds, vs, h => by
    simp only [RepL] at h ⊢
    obtain ⟨v, r, h1, h2, h3⟩ := h
    exact ⟨v, r, h1, RepD.up u d v h2, RepL.up u ds r h3⟩
end
theorem RepK.up (u : Up H m H1 m1) : ∀ (ps : List (Ky × D)) (ws : List (Key × V)), RepK K H m ps ws → RepK K H1 m1 ps ws
  | [], ws, h => by simpa only [RepK] using h
  | p :: ps, ws, h => by
    simp only [RepK] at h ⊢
    obtain ⟨v, r, h1, h2, h3⟩ := h
    exact ⟨v, r, h1, RepD.up u _ v h2, RepK.up u ps r h3⟩
theorem RepK.length : ∀ {ps : List (Ky × D)} {ws : List (Key × V)}, RepK K H m ps ws → ps.length = ws.length
  | [], ws, h => by simp only [RepK] at h; subst h; rfl
  | p :: ps, ws, h => by
    simp only [RepK] at h
    obtain ⟨v, r, rfl, _, h3⟩ := h
    simp [RepK.length h3]
theorem RepK.isEmpty {ps : List (Ky × D)} {ws : List (Key × V)} (h : RepK K H m ps ws) : ps.isEmpty = ws.isEmpty := by
  cases ps with
  | nil => simp only [RepK] at h; subst h; rfl
  | cons p ps => simp only [RepK] at h; obtain ⟨_, _, rfl, _⟩ := h; rfl
theorem RepK.nil : RepK K H m [] [] := by simp only [RepK]
theorem RepK.cons {k : Ky} {d : D} {v : V} {ps : List (Ky × D)} {ws : List (Key × V)} (h : RepD K H m d v) (h' : RepK K H m ps ws) : RepK K H m ((k, d) :: ps) ((k, v) :: ws) := by
  simp only [RepK]; exact ⟨v, ws, rfl, h, h'⟩
theorem kvGet_pos {α : Type} {p : Ky × α} {r : List (Ky × α)} {k : Ky} (e : p.1 = k) : kvGet (p :: r) k = some p.2 := by simp [kvGet, List.find?_cons, e]
theorem kvGet_neg {α : Type} {p : Ky × α} {r : List (Ky × α)} {k : Ky} (e : ¬ p.1 = k) : kvGet (p :: r) k = kvGet r k := by simp [kvGet, List.find?_cons, e]
theorem RepK.get (k : Ky) : ∀ {ps : List (Ky × D)} {ws : List (Key × V)}, RepK K H m ps ws → (kvGet ps k = none ∧ valV ws k = none) ∨ ∃ d v, kvGet ps k = some d ∧ valV ws k = some v ∧ RepD K H m d v
  | [], ws, h => by simp only [RepK] at h; subst h; exact .inl ⟨rfl, rfl⟩
  | p :: ps, ws, h => by
    simp only [RepK] at h
    obtain ⟨v, r, rfl, h2, h3⟩ := h
    by_cases e : p.1 = k
    · exact .inr ⟨p.2, v, kvGet_pos e, valV_pos (p := (p.1, v)) e, h2⟩
    · rw [kvGet_neg e, valV_neg (p := (p.1, v)) e]
      exact RepK.get k h3
theorem RepK.any (k : Ky) : ∀ {ps : List (Ky × D)} {ws : List (Key × V)}, RepK K H m ps ws → (ps.any fun kv => decide (kv.1 = k)) = ws.any fun kv => decide (kv.1 = k)
  | [], ws, h => by simp only [RepK] at h; subst h; rfl
  | p :: ps, ws, h => by
    simp only [RepK] at h
    obtain ⟨v, r, rfl, _, h3⟩ := h
    rw [List.any_cons, List.any_cons, RepK.any k h3]
theorem RepK.repl (k : Ky) {d : D} {v : V} (hd : RepD K H m d v) : ∀ {ps : List (Ky × D)} {ws : List (Key × V)}, RepK K H m ps ws →
    RepK K H m (ps.map fun kv => if kv.1 = k then (kv.1, d) else kv) (ws.map fun kv => if kv.1 = k then (kv.1, v) else kv)
  | [], ws, h => by simp only [RepK] at h; subst h; exact .nil
  | p :: ps, ws, h => by
    simp only [RepK] at h
    obtain ⟨w, r, rfl, h2, h3⟩ := h
    rw [List.map_cons, List.map_cons]
    by_cases e : p.1 = k
    · rw [if_pos e, if_pos e]; exact .cons hd (RepK.repl k hd h3)
    · rw [if_neg e, if_neg e]; exact .cons h2 (RepK.repl k hd h3)
theorem RepK.append : ∀ {ps qs : List (Ky × D)} {ws us : List (Key × V)}, RepK K H m ps ws → RepK K H m qs us → RepK K H m (ps ++ qs) (ws ++ us)
  | [], qs, ws, us, h, h' => by simp only [RepK] at h; subst h; exact h'
  | p :: ps, qs, ws, us, h, h' => by
    simp only [RepK] at h
    obtain ⟨v, r, rfl, h2, h3⟩ := h
    exact .cons h2 (h3.append h')
theorem RepK.put {ps : List (Ky × D)} {ws : List (Key × V)} (h : RepK K H m ps ws) (k : Ky) {d : D} {v : V} (hd : RepD K H m d v) : RepK K H m (kvPut ps k d) (putK ws k v) := by
  unfold kvPut putK
  rw [h.any k]
  split
  · exact h.repl k hd
  · exact h.append (.cons hd .nil)
theorem RepK.merge : ∀ {qs ps : List (Ky × D)} {us ws : List (Key × V)}, RepK K H m qs us → RepK K H m ps ws → RepK K H m (kvMerge ps qs) (mergeK ws us)
  | [], ps, us, ws, h, h' => by simp only [RepK] at h; subst h; exact h'
  | q :: qs, ps, us, ws, h, h' => by
    simp only [RepK] at h
    obtain ⟨v, r, rfl, h2, h3⟩ := h
    show RepK K H m (kvMerge (kvPut ps q.1 q.2) qs) (mergeK (putK ws q.1 v) r)
    exact RepK.merge h3 (h'.put q.1 h2)
theorem REnv.up (u : Up H m H1 m1) {r : Env} {s : L2.St} (h : REnv K H m r s) : REnv K H1 m1 r s :=
  ⟨h.len, fun i d e => let ⟨v, e1, e2⟩ := h.at_ i d e; ⟨v, e1, RepD.up u d v e2⟩⟩
theorem RepL.length : ∀ {ds : List D} {vs : List V}, RepL K H m ds vs → ds.length = vs.length
  | [], vs, h => by simp only [RepL] at h; subst h; rfl
  | d :: ds, vs, h => by
    simp only [RepL] at h
    obtain ⟨v, r, rfl, _, h3⟩ := h
    simp [RepL.length h3]
theorem RepL.nil_iff {ds : List D} {vs : List V} (h : RepL K H m ds vs) : ds = [] ↔ vs = [] := by
  have e := h.length
  constructor
  · intro q; subst q; exact List.length_eq_zero_iff.mp e.symm
  · intro q; subst q; exact List.length_eq_zero_iff.mp e
theorem RepL.get : ∀ {ds : List D} {vs : List V} {i : Nat} {d : D}, RepL K H m ds vs → ds[i]? = some d → ∃ v, vs[i]? = some v ∧ RepD K H m d v
  | [], _, _, _, _, e => by simp at e
  | x :: ds, vs, 0, d, h, e => by
    simp only [RepL] at h
    obtain ⟨v, r, rfl, h2, _⟩ := h
    simp at e; subst e
    exact ⟨v, by simp, h2⟩
  | x :: ds, vs, i + 1, d, h, e => by
    simp only [RepL] at h
    obtain ⟨v, r, rfl, _, h3⟩ := h
    simp only [List.getElem?_cons_succ] at e ⊢
    exact RepL.get h3 e
theorem RepL.nil : RepL K H m [] [] := by simp [RepL]
theorem RepL.cons {d : D} {ds : List D} {v : V} {vs : List V} (h : RepD K H m d v) (h' : RepL K H m ds vs) : RepL K H m (d :: ds) (v :: vs) := by
  simp only [RepL]; exact ⟨v, vs, rfl, h, h'⟩
theorem RepL.one {d : D} {v : V} (h : RepD K H m d v) : RepL K H m [d] [v] := .cons h .nil
theorem RepL.append : ∀ {ds es : List D} {vs us : List V}, RepL K H m ds vs → RepL K H m es us → RepL K H m (ds ++ es) (vs ++ us)
  | [], es, vs, us, h, h' => by simp only [RepL] at h; subst h; exact h'
  | d :: ds, es, vs, us, h, h' => by
    simp only [RepL] at h
    obtain ⟨v, r, rfl, h2, h3⟩ := h
    exact .cons h2 (h3.append h')
theorem RepL.take : ∀ {ds : List D} {vs : List V} (n : Nat), RepL K H m ds vs → RepL K H m (ds.take n) (vs.take n)
  | _, _, 0, _ => by simp [RepL]
  | [], vs, n + 1, h => by simp only [RepL] at h; subst h; simp [RepL]
  | d :: ds, vs, n + 1, h => by
    simp only [RepL] at h
    obtain ⟨v, r, rfl, h2, h3⟩ := h
    exact .cons h2 (RepL.take n h3)
theorem RepL.drop : ∀ {ds : List D} {vs : List V} (n : Nat), RepL K H m ds vs → RepL K H m (ds.drop n) (vs.drop n)
  | _, _, 0, h => h
  | [], vs, n + 1, h => by simp only [RepL] at h; subst h; simp [RepL]
  | d :: ds, vs, n + 1, h => by
    simp only [RepL] at h
    obtain ⟨v, r, rfl, h2, h3⟩ := h
    exact RepL.drop n h3
theorem RepL.set {d : D} {v : V} (hd : RepD K H m d v) : ∀ {ds : List D} {vs : List V} (i : Nat), RepL K H m ds vs → RepL K H m (ds.set i d) (vs.set i v)
  | [], vs, i, h => by simp only [RepL] at h; subst h; simp [RepL]
  | d' :: ds, vs, 0, h => by
    simp only [RepL] at h
    obtain ⟨v, r, rfl, h2, h3⟩ := h
    exact .cons hd h3
  | d' :: ds, vs, i + 1, h => by
    simp only [RepL] at h
    obtain ⟨v, r, rfl, h2, h3⟩ := h
    exact .cons h2 (RepL.set hd i h3)
theorem RepL.dropLast {ds : List D} {vs : List V} (h : RepL K H m ds vs) : RepL K H m ds.dropLast vs.dropLast := by
  rw [List.dropLast_eq_take, List.dropLast_eq_take, h.length]
  exact h.take _
theorem RepL.eraseIdx : ∀ {ds : List D} {vs : List V} (i : Nat), RepL K H m ds vs → RepL K H m (ds.eraseIdx i) (vs.eraseIdx i)
  | [], vs, i, h => by simp only [RepL] at h; subst h; simp [RepL]
  | d' :: ds, vs, 0, h => by
    simp only [RepL] at h
    obtain ⟨v, r, rfl, h2, h3⟩ := h
    exact h3
  | d' :: ds, vs, i + 1, h => by
    simp only [RepL] at h
    obtain ⟨v, r, rfl, h2, h3⟩ := h
    exact .cons h2 (RepL.eraseIdx i h3)
theorem RepL.rep {ds : List D} {vs : List V} (h : RepL K H m ds vs) : ∀ k : Nat, RepL K H m (List.replicate k ds).flatten (List.replicate k vs).flatten
  | 0 => by simp [RepL]
  | k + 1 => by rw [List.replicate_succ, List.replicate_succ, List.flatten_cons, List.flatten_cons]; exact h.append (h.rep k)
theorem RepL.cut {ds : List D} {vs : List V} (h : RepL K H m ds vs) (lo hi : Option Int) : RepL K H m (cut ds lo hi) (cutV vs lo hi) := by
  unfold Ev.cut cutV
  rw [h.length]
  exact (h.drop _).take _
theorem RepL.ints : ∀ ns : List Int, RepL K H m (ns.map .int) (ns.map V.int)
  | [] => .nil
  | n :: ns => .cons (by simp [RepD]) (RepL.ints ns)
theorem RepL.mapI {f : Nat → Int} : ∀ l : List Nat, RepL K H m (l.map fun i => D.int (f i)) (l.map fun i => V.int (f i))
  | [] => .nil
  | n :: ns => .cons (by simp [RepD]) (RepL.mapI ns)
theorem RSt.loc (h : RSt K H m S) {k : Nat} {xs : List D} {v : V} (e : S[k]? = some (.lst xs)) (r : RepD K H m (.loc k) v) : ∃ a vs, v = .ref a ∧ m[k]? = some a ∧ H a = some (.lst vs) ∧ RepL K H m xs vs := by
  simp only [RepD] at r
  obtain ⟨a, h1, rfl⟩ := r
  obtain ⟨b, h2, vs, h3, h4⟩ := h.at_ k _ e
  rw [h1] at h2; cases h2
  exact ⟨a, vs, rfl, h1, h3, h4⟩
theorem isLst_eq {d : D} {xs : List D} (h : isLst S d = some xs) : ∃ k, d = .loc k ∧ S[k]? = some (.lst xs) := by
  unfold isLst at h
  cases d with
  | loc k =>
    simp only at h
    cases e : S[k]? with
    | none => rw [e] at h; cases h
    | some c =>
      cases c with
      | lst ys => rw [e] at h; cases h; exact ⟨k, rfl, e⟩
      | dct _ => rw [e] at h; cases h
  | _ => cases h
theorem dctO_eq {d : D} {kvs : List (Ky × D)} (h : dctO S d = some kvs) : ∃ k, d = .loc k ∧ S[k]? = some (.dct kvs) := by
  unfold dctO at h
  cases d with
  | loc k =>
    simp only at h
    cases e : S[k]? with
    | none => rw [e] at h; cases h
    | some c =>
      cases c with
      | lst ys => rw [e] at h; cases h
      | dct _ => rw [e] at h; cases h; exact ⟨k, rfl, e⟩
  | _ => cases h
theorem RSt.dct (h : RSt K H m S) {d : D} {kvs : List (Ky × D)} {v : V} (e : dctO S d = some kvs) (r : RepD K H m d v) : ∃ k a ws, d = .loc k ∧ v = .ref a ∧ m[k]? = some a ∧ H a = some (.dK ws) ∧ RepK K H m kvs ws := by
  obtain ⟨k, rfl, e1⟩ := dctO_eq e
  simp only [RepD] at r
  obtain ⟨a, h1, rfl⟩ := r
  obtain ⟨b, h2, ws, h3, h4⟩ := h.at_ k _ e1
  rw [h1] at h2; cases h2
  exact ⟨k, a, ws, rfl, rfl, h1, h3, h4⟩
theorem RSt.lst (h : RSt K H m S) {d : D} {xs : List D} {v : V} (e : isLst S d = some xs) (r : RepD K H m d v) : ∃ a vs, v = .ref a ∧ H a = some (.lst vs) ∧ RepL K H m xs vs := by
  obtain ⟨k, hk, e1⟩ := isLst_eq e
  subst hk
  obtain ⟨a, vs, h1, _, h2, h3⟩ := h.loc e1 r
  exact ⟨a, vs, h1, h2, h3⟩
theorem RSt.items (h : RSt K H m S) {d : D} {xs : List D} {v : V} (e : items S d = some xs) (r : RepD K H m d v) : ∃ a vs, v = .ref a ∧ (SqL K H a vs ∨ SqT K H a vs) ∧ RepL K H m xs vs := by
  unfold Ev.items at e
  cases d with
  | tup ys =>
    cases e
    simp only [RepD] at r
    obtain ⟨a, vs, h1, h2, h3⟩ := r
    exact ⟨a, vs, h1, .inr h2, h3⟩
  | frz ys =>
    cases e
    simp only [RepD] at r
    obtain ⟨a, vs, h1, h2, h3⟩ := r
    exact ⟨a, vs, h1, .inl h2.sq, h3⟩
  | loc k =>
    simp only at e
    cases q : S[k]? with
    | none => rw [q] at e; cases e
    | some c =>
      cases c with
      | lst ys =>
        rw [q] at e; cases e
        obtain ⟨a, vs, h1, _, h2, h3⟩ := h.loc q r
        exact ⟨a, vs, h1, .inl (SqL.of h2), h3⟩
      | dct _ => rw [q] at e; cases e
  | _ => cases e
/-- a heap that keeps tuples, locked things and the store's cells -/
theorem up_fresh {p : Addr} {o : HO} (hp : H p = none) (t : List Addr) : Up H m (upd H p o) (m ++ t) := by
  have k : ∀ b u, H b = some u → upd H p o b = some u := fun b u e => by rw [upd_ne (ne_of_none e hp)]; exact e
  exact ⟨fun b _ e => k b _ e, fun b _ _ e => k b _ e, fun b _ _ e => k b _ e, t, rfl⟩
theorem RSt.notin (h : RSt K H m S) {p : Addr} (hp : H p = none) : p ∉ m := fun hm => by
  obtain ⟨i, hi, e⟩ := List.getElem_of_mem hm
  have hl : i < S.length := by rw [← h.len]; exact hi
  obtain ⟨a, e1, r⟩ := h.at_ i S[i] (List.getElem?_eq_getElem hl)
  rw [List.getElem?_eq_getElem hi, e] at e1
  cases e1
  cases q : S[i] with
  | lst xs =>
    rw [q] at r
    obtain ⟨vs, e2, _⟩ := r
    rw [hp] at e2; cases e2
  | dct kvs =>
    rw [q] at r
    obtain ⟨vs, e2, _⟩ := r
    rw [hp] at e2; cases e2
theorem RepC.up (u : Up H m H1 m1) {c : Cell} {a : Addr} (k : ∀ o, H a = some o → H1 a = some o) (h : RepC K H m c a) : RepC K H1 m1 c a := by
  cases c with
  | lst xs =>
    obtain ⟨vs, h1, h2⟩ := h
    exact ⟨vs, k _ h1, RepL.up u _ _ h2⟩
  | dct kvs =>
    obtain ⟨ws, h1, h2⟩ := h
    exact ⟨ws, k _ h1, RepK.up u _ _ h2⟩
theorem RSt.freshC (h : RSt K H m S) {p : Addr} {o : HO} {c0 : Cell} (hp : H p = none) (r : Up H m (upd H p o) (m ++ [p]) → RepC K (upd H p o) (m ++ [p]) c0 p) :
    Up H m (upd H p o) (m ++ [p]) ∧ RSt K (upd H p o) (m ++ [p]) (S ++ [c0]) ∧ RepD K (upd H p o) (m ++ [p]) (.loc S.length) (.ref p) := by
  have u : Up H m (upd H p o) (m ++ [p]) := up_fresh hp [p]
  refine ⟨u, ⟨by simp [h.len], ?_, fun i c e => ?_⟩, ?_⟩
  · rw [List.nodup_append]
    refine ⟨h.nd, by simp, fun a ha b hb => ?_⟩
    simp only [List.mem_singleton] at hb
    subst hb
    intro q; subst q
    exact h.notin hp ha
  · by_cases hi : i < S.length
    · rw [List.getElem?_append_left hi] at e
      obtain ⟨a, e1, q⟩ := h.at_ i c e
      exact ⟨a, u.get e1, q.up u fun ws e => by rw [upd_ne (ne_of_none e hp)]; exact e⟩
    · rw [List.getElem?_append_right (Nat.le_of_not_lt hi)] at e
      have hi' : i = S.length := by
        by_cases q : i - S.length = 0
        · omega
        · rw [List.getElem?_eq_none (by simp; omega)] at e; cases e
      subst hi'
      simp at e
      subst e
      refine ⟨p, ?_, r u⟩
      rw [List.getElem?_append_right (by rw [h.len]; exact Nat.le_refl _), h.len]; simp
  · simp only [RepD]
    refine ⟨p, ?_, rfl⟩
    rw [List.getElem?_append_right (by rw [h.len]; exact Nat.le_refl _), h.len]; simp
theorem RSt.fresh (h : RSt K H m S) {p : Addr} {vs : List V} {xs : List D} (hp : H p = none) (r : RepL K H m xs vs) :
    Up H m (upd H p (.lst vs)) (m ++ [p]) ∧ RSt K (upd H p (.lst vs)) (m ++ [p]) (S ++ [.lst xs]) ∧ RepD K (upd H p (.lst vs)) (m ++ [p]) (.loc S.length) (.ref p) :=
  h.freshC hp fun u => ⟨vs, upd_same, RepL.up u _ _ r⟩
theorem RSt.freshD (h : RSt K H m S) {p : Addr} {ws : List (Key × V)} {kvs : List (Ky × D)} (hp : H p = none) (r : RepK K H m kvs ws) :
    Up H m (upd H p (.dK ws)) (m ++ [p]) ∧ RSt K (upd H p (.dK ws)) (m ++ [p]) (S ++ [.dct kvs]) ∧ RepD K (upd H p (.dK ws)) (m ++ [p]) (.loc S.length) (.ref p) :=
  h.freshC hp fun u => ⟨ws, upd_same, RepK.up u _ _ r⟩
theorem RSt.freshT (h : RSt K H m S) {p : Addr} {vs : List V} {xs : List D} (hp : H p = none) (r : RepL K H m xs vs) :
    Up H m (upd H p (.tup vs)) m ∧ RSt K (upd H p (.tup vs)) m S ∧ RepD K (upd H p (.tup vs)) m (.tup xs) (.ref p) := by
  have u : Up H m (upd H p (.tup vs)) m := by
    have := up_fresh (m := m) (o := .tup vs) hp []
    simpa using this
  refine ⟨u, ⟨h.len, h.nd, fun i c e => ?_⟩, ?_⟩
  · obtain ⟨a, e1, q⟩ := h.at_ i c e
    exact ⟨a, e1, q.up u fun ws e => by rw [upd_ne (ne_of_none e hp)]; exact e⟩
  · simp only [RepD]
    exact ⟨p, vs, rfl, SqT.of upd_same, RepL.up u _ _ r⟩
theorem RSt.putC (h : RSt K H m S) {a : Addr} {k : Nat} {o o' : HO} {c0 : Cell} (hk : m[k]? = some a) (ha : H a = some o) (ho : (∃ ws, o = .lst ws) ∨ ∃ ws, o = .dK ws)
    (r : Up H m (upd H a o') m → RepC K (upd H a o') m c0 a) : Up H m (upd H a o') m ∧ RSt K (upd H a o') m (S.set k c0) := by
  have u : Up H m (upd H a o') m := by
    have k' : ∀ b u, u ≠ o → H b = some u → upd H a o' b = some u := fun b u hu e => by
      rw [upd_ne (fun q => by subst q; rw [ha] at e; exact hu (Option.some.inj e).symm)]; exact e
    have no : ∀ u : HO, (∀ l, u ≠ .lst l) → (∀ l, u ≠ .dK l) → u ≠ o := fun u h1 h2 e => by
      rcases ho with ⟨ws, rfl⟩ | ⟨ws, rfl⟩
      · exact h1 _ e
      · exact h2 _ e
    exact ⟨fun b _ e => k' b _ (no _ (fun _ q => by cases q) (fun _ q => by cases q)) e, fun b _ _ e => k' b _ (no _ (fun _ q => by cases q) (fun _ q => by cases q)) e, fun b _ _ e => k' b _ (no _ (fun _ q => by cases q) (fun _ q => by cases q)) e, [], by simp⟩
  refine ⟨u, ⟨by simp [h.len], h.nd, fun i c e => ?_⟩⟩
  by_cases hi : i = k
  · subst hi
    have hl : i < S.length := by rw [← h.len]; exact (List.getElem?_eq_some_iff.mp hk).1
    rw [List.getElem?_set_self hl] at e
    cases e
    exact ⟨a, hk, r u⟩
  · rw [List.getElem?_set_ne (Ne.symm hi)] at e
    obtain ⟨b, e1, q⟩ := h.at_ i c e
    refine ⟨b, e1, q.up u fun ws' e' => ?_⟩
    have hne : b ≠ a := fun z => by
      subst z
      exact hi (by
        obtain ⟨h1, h2⟩ := List.getElem?_eq_some_iff.mp e1
        obtain ⟨h3, h4⟩ := List.getElem?_eq_some_iff.mp hk
        exact (List.getElem_inj h.nd).mp (h2.trans h4.symm))
    rw [upd_ne hne]; exact e'
theorem RSt.put (h : RSt K H m S) {a : Addr} {k : Nat} {vs ws : List V} {ys : List D} (hk : m[k]? = some a) (ha : H a = some (.lst ws)) (r : RepL K H m ys vs) :
    Up H m (upd H a (.lst vs)) m ∧ RSt K (upd H a (.lst vs)) m (S.set k (.lst ys)) :=
  h.putC hk ha (.inl ⟨_, rfl⟩) fun u => ⟨vs, upd_same, RepL.up u _ _ r⟩
theorem RSt.putD (h : RSt K H m S) {a : Addr} {k : Nat} {ws us : List (Key × V)} {kvs : List (Ky × D)} (hk : m[k]? = some a) (ha : H a = some (.dK us)) (r : RepK K H m kvs ws) :
    Up H m (upd H a (.dK ws)) m ∧ RSt K (upd H a (.dK ws)) m (S.set k (.dct kvs)) :=
  h.putC hk ha (.inr ⟨_, rfl⟩) fun u => ⟨ws, upd_same, RepK.up u _ _ r⟩
theorem mapO_cons {α β : Type} {f : α → Option β} {x : α} {xs : List α} {r : List β} (h : mapO f (x :: xs) = some r) : ∃ y ys, f x = some y ∧ mapO f xs = some ys ∧ r = y :: ys := by
  unfold mapO at h
  cases e : f x with
  | none => rw [e] at h; cases h
  | some y =>
    cases q : mapO f xs with
    | none => rw [e, q] at h; cases h
    | some ys => rw [e, q] at h; cases h; exact ⟨y, ys, rfl, rfl, rfl⟩
theorem dpAll {f : D → Option PyData} (hf : ∀ d p v, f d = some p → RepD K H m d v → Dp K H v p) : ∀ (ds : List D) (ps : List PyData) (vs : List V), mapO f ds = some ps → RepL K H m ds vs → DpAll K H vs ps
  | [], ps, vs, h, r => by
    cases h
    simp only [RepL] at r; subst r; exact .nil
  | d :: ds, ps, vs, h, r => by
    obtain ⟨y, ys, h1, h2, rfl⟩ := mapO_cons h
    simp only [RepL] at r
    obtain ⟨v, r', rfl, h3, h4⟩ := r
    exact .cons (hf _ _ _ h1 h3) (dpAll hf ds ys r' h2 h4)
theorem dp_of (h : RSt K H m S) : ∀ (n : Nat) (d : D) (p : PyData) (v : V), toPy n S d = some p → RepD K H m d v → Dp K H v p
  | 0, _, _, _, e, _ => by cases e
  | n + 1, d, p, v, e, r => by
    cases d with
    | non => cases e; simp only [RepD] at r; subst r; exact .non
    | bl b => cases e; simp only [RepD] at r; subst r; exact .bl b
    | int b => cases e; simp only [RepD] at r; subst r; exact .int b
    | str b =>
      simp only [toPy] at e
      split at e
      · cases e; simp only [RepD] at r; subst r; exact .str b
      · cases e
    | tup xs =>
      simp only [toPy] at e
      obtain ⟨ps, e1, rfl⟩ := Option.map_eq_some_iff.mp e
      simp only [RepD] at r
      obtain ⟨a, vs, rfl, h2, h3⟩ := r
      exact .tup h2 (dpAll (dp_of h n) _ _ _ e1 h3)
    | frz xs =>
      simp only [toPy] at e
      obtain ⟨ps, e1, rfl⟩ := Option.map_eq_some_iff.mp e
      simp only [RepD] at r
      obtain ⟨a, vs, rfl, h2, h3⟩ := r
      exact .lst h2.sq (dpAll (dp_of h n) _ _ _ e1 h3)
    | loc k =>
      simp only [toPy] at e
      cases q : S[k]? with
      | none => rw [q] at e; cases e
      | some c =>
        cases c with
        | lst xs =>
          rw [q] at e
          obtain ⟨ps, e1, rfl⟩ := Option.map_eq_some_iff.mp e
          obtain ⟨a, vs, rfl, _, h2, h3⟩ := h.loc q r
          exact .lst (SqL.of h2) (dpAll (dp_of h n) _ _ _ e1 h3)
        | dct _ => rw [q] at e; cases e
theorem mapO_all {f : D → Option PyData} {g : PyData → Prop} (hf : ∀ d p, f d = some p → g p) : ∀ (ds : List D) (ps : List PyData), mapO f ds = some ps → ∀ p ∈ ps, g p
  | [], ps, h, p, hp => by cases h; simp at hp
  | d :: ds, ps, h, p, hp => by
    obtain ⟨y, ys, h1, h2, rfl⟩ := mapO_cons h
    rcases List.mem_cons.mp hp with rfl | hp
    · exact hf _ _ h1
    · exact mapO_all hf ds ys h2 p hp
theorem canLayAll_of : ∀ ps : List PyData, (∀ p ∈ ps, p.canLay0 = true) → PyData.canLayAll0 ps = true
  | [], _ => by simp [PyData.canLayAll0]
  | p :: ps, h => by
    simp only [PyData.canLayAll0, Bool.and_eq_true]
    exact ⟨h p List.mem_cons_self, canLayAll_of ps fun q hq => h q (List.mem_cons_of_mem _ hq)⟩
theorem depthAll_of {n : Nat} : ∀ ps : List PyData, (∀ p ∈ ps, p.depth ≤ n) → PyData.depthAll ps ≤ n
  | [], _ => by simp [PyData.depthAll]
  | p :: ps, h => by
    simp only [PyData.depthAll]
    exact Nat.max_le.mpr ⟨h p List.mem_cons_self, depthAll_of ps fun q hq => h q (List.mem_cons_of_mem _ hq)⟩
theorem hasDictAll_of : ∀ ps : List PyData, (∀ p ∈ ps, p.hasDict = false) → PyData.hasDictAll ps = false
  | [], _ => by simp [PyData.hasDictAll]
  | p :: ps, h => by
    simp only [PyData.hasDictAll, Bool.or_eq_false_iff]
    exact ⟨h p List.mem_cons_self, hasDictAll_of ps fun q hq => h q (List.mem_cons_of_mem _ hq)⟩
theorem toPy_ok : ∀ (n : Nat) (d : D) (p : PyData), toPy n S d = some p → p.canLay0 = true ∧ p.depth ≤ n ∧ p.hasDict = false
  | 0, _, _, e => by cases e
  | n + 1, d, p, e => by
    have all : ∀ (xs : List D) (ps : List PyData), mapO (toPy n S) xs = some ps → PyData.canLayAll0 ps = true ∧ PyData.depthAll ps ≤ n ∧ PyData.hasDictAll ps = false := fun xs ps e1 => by
      have hm := mapO_all (toPy_ok n) xs ps e1
      exact ⟨canLayAll_of ps fun q hq => (hm q hq).1, depthAll_of ps fun q hq => (hm q hq).2.1, hasDictAll_of ps fun q hq => (hm q hq).2.2⟩
    have tupCase : ∀ (xs : List D) (p : PyData), (mapO (toPy n S) xs).map .tuple = some p → p.canLay0 = true ∧ p.depth ≤ n + 1 ∧ p.hasDict = false := fun xs p e => by
      obtain ⟨ps, e1, rfl⟩ := Option.map_eq_some_iff.mp e
      obtain ⟨h1, h2, h3⟩ := all _ _ e1
      simp only [PyData.canLay0, PyData.depth, PyData.hasDict]
      exact ⟨h1, by omega, h3⟩
    have lstCase : ∀ (xs : List D) (p : PyData), (mapO (toPy n S) xs).map .list = some p → p.canLay0 = true ∧ p.depth ≤ n + 1 ∧ p.hasDict = false := fun xs p e => by
      obtain ⟨ps, e1, rfl⟩ := Option.map_eq_some_iff.mp e
      obtain ⟨h1, h2, h3⟩ := all _ _ e1
      simp only [PyData.canLay0, PyData.depth, PyData.hasDict]
      exact ⟨h1, by omega, h3⟩
    cases d with
    | non => cases e; simp [PyData.canLay0, PyData.depth, PyData.hasDict]
    | bl b => cases e; simp [PyData.canLay0, PyData.depth, PyData.hasDict]
    | int b => cases e; simp [PyData.canLay0, PyData.depth, PyData.hasDict]
    | str b =>
      simp only [toPy] at e
      split at e
      · rename_i hs
        cases e; simp [PyData.canLay0, PyData.depth, PyData.hasDict, hs]
      · cases e
    | tup xs => exact tupCase xs p (by simpa only [toPy] using e)
    | frz xs => exact lstCase xs p (by simpa only [toPy] using e)
    | loc k =>
      simp only [toPy] at e
      cases q : S[k]? with
      | none => rw [q] at e; cases e
      | some c =>
        cases c with
        | lst xs => rw [q] at e; exact lstCase xs p e
        | dct _ => rw [q] at e; cases e
theorem shaped_of {d : D} {p : PyData} {n : Nat} (h : toPy n S d = some p) (hn : n ≤ 64) : SeqAt.shaped p = true := by
  obtain ⟨h1, h2, _⟩ := toPy_ok n d p h
  unfold SeqAt.shaped
  rw [h1, decide_eq_true (show p.depth ≤ 64 by omega)]; rfl
theorem shaped_list {ds : List D} {ps : List PyData} {n : Nat} (h : mapO (toPy n S) ds = some ps) (hn : n < 64) : SeqAt.shaped (.list ps) = true := by
  have hm := mapO_all (toPy_ok n) ds ps h
  unfold SeqAt.shaped
  have h1 : (PyData.list ps).canLay0 = true := by simp only [PyData.canLay0]; exact canLayAll_of ps fun q hq => (hm q hq).1
  have h2 : (PyData.list ps).depth ≤ 64 := by
    have h3 : PyData.depthAll ps ≤ n := depthAll_of ps fun q hq => (hm q hq).2.1
    simp only [PyData.depth]; omega
  rw [h1, decide_eq_true h2]; rfl
theorem shaped_tuple {ds : List D} {ps : List PyData} {n : Nat} (h : mapO (toPy n S) ds = some ps) (hn : n < 64) : SeqAt.shaped (.tuple ps) = true := by
  have hm := mapO_all (toPy_ok n) ds ps h
  unfold SeqAt.shaped
  have h1 : (PyData.tuple ps).canLay0 = true := by simp only [PyData.canLay0]; exact canLayAll_of ps fun q hq => (hm q hq).1
  have h2 : (PyData.tuple ps).depth ≤ 64 := by
    have h3 : PyData.depthAll ps ≤ n := depthAll_of ps fun q hq => (hm q hq).2.1
    simp only [PyData.depth]; omega
  rw [h1, decide_eq_true h2]; rfl
end
end Ev
set_option autoImplicit false
set_option linter.all false
set_option maxRecDepth 100000
namespace OddT
open PySem PySem.Spec PyProof.Rows
open L2
section
variable {X : Cx}
/-- two lists of unlike lengths -/
def rLenU (K : PySem.W.Frag) (t : Bool) : R2 := fun x y H Q => ∃ (a b : Addr) (xs ys : List V), x = .ref a ∧ y = .ref b ∧ SqL K H a xs ∧ SqL K H b ys ∧ xs.length ≠ ys.length ∧ Q (.bl t) H
theorem unlike_sizes {us ws : List Value} {xs ys : List V} (r1 : Vals xs us) (r2 : Vals ys ws) (h : xs.length ≠ ys.length) : (us.toArray.size != ws.toArray.size) = true := by
  rw [List.size_toArray, List.size_toArray, ← r1.length, ← r2.length]
  simpa using h
theorem op_eqLenU (room : X.A.units < cLine) : OpR X (compareOp .Eq) (rLenU X.K false) := by
  rintro pins s σ H _ _ v u Q I rx ry ⟨a, b, xs, ys, rfl, rfl, ha, hb, hn, q⟩
  cases (show v = Value.ref a from rx)
  cases (show u = Value.ref b from ry)
  obtain ⟨us, r1, p1, _⟩ := I.list ha
  obtain ⟨ws, r2, p2, _⟩ := I.list hb
  exact SeqAt.RcAt.lists_lengths p1.isList p2.isList (unlike_sizes r1 r2 hn) room _ _ _ _ ⟨.bl false, H, I, rfl, q⟩
theorem op_neLenU (room : X.A.units < cLine) : OpR X (compareOp .NotEq) (rLenU X.K true) := by
  rintro pins s σ H _ _ v u Q I rx ry ⟨a, b, xs, ys, rfl, rfl, ha, hb, hn, q⟩
  cases (show v = Value.ref a from rx)
  cases (show u = Value.ref b from ry)
  obtain ⟨us, r1, p1, _⟩ := I.list ha
  obtain ⟨ws, r2, p2, _⟩ := I.list hb
  exact SeqAt.RcNeAt.lists_lengths p1.isList p2.isList (unlike_sizes r1 r2 hn) room _ _ _ _ ⟨.bl true, H, I, rfl, q⟩
end
mutual
inductive Dq (K : PySem.W.Frag) (H : Hp) : V → PyData → Prop where
  | non : Dq K H .non .none
  | bl (b : Bool) : Dq K H (.bl b) (.bool b)
  | int (i : Int) : Dq K H (.int i) (.int i)
  | str (x : Str) : Dq K H (.str x) (.str x)
  | tup {a : Addr} {xs : List V} {ds : List PyData} : SqT K H a xs → DqAll K H xs ds → Dq K H (.ref a) (.tuple ds)
  | dct {a : Addr} : H a = some (.dK []) → Dq K H (.ref a) (.dict [])
inductive DqAll (K : PySem.W.Frag) (H : Hp) : List V → List PyData → Prop where
  | nil : DqAll K H [] []
  | cons {v : V} {vs : List V} {d : PyData} {ds : List PyData} : Dq K H v d → DqAll K H vs ds → DqAll K H (v :: vs) (d :: ds)
end
section
variable {X : Cx} {pins : List (Addr × Obj)} {σ : L2.St} {H : Hp} {s : Shared}
mutual
theorem Dq.reads (I : Inv X pins σ H s) : ∀ (d : PyData) (v : V) (u : Value), Dq X.K H v d → RelV v u → ∃ as, Reads s.heap u d as ∧ sysModules ∉ as
  | .none, _, _, h, r => by cases h; cases r; exact ⟨_, Reads.none, by simp⟩
  | .bool b, _, _, h, r => by cases h; cases r; exact ⟨_, Reads.bool b, by simp⟩
  | .int i, _, _, h, r => by
    cases h
    obtain ⟨t, rfl⟩ := r
    exact ⟨_, Reads.int i t, by simp⟩
  | .str x, _, _, h, r => by
    cases h
    obtain ⟨t, rfl⟩ := r
    exact ⟨_, Reads.str x t, by simp⟩
  | .list _, _, _, h, _ => by cases h
  | .tuple ds, _, _, h, r => by
    cases h with
    | tup q qs =>
      cases r
      obtain ⟨its, rv, ⟨o, e1, e2, n, e3⟩, _⟩ := I.tuple q
      obtain ⟨as, h1, h2⟩ := DqAll.reads I ds _ its qs rv
      exact ⟨as, Reads.tuple e1 e2 e3 (by simpa using h1), h2⟩
  | .dict kvs, _, _, h, r => by
    cases h with
    | @dct a e =>
      cases r
      obtain ⟨_, no, vs, kv, o, es, ep, e1, e2, e3, _, pr, _⟩ := (show ObjOk X.prog X.w H s.heap a (.dK []) from I.hok a _ e)
      have hv : vs = [] := by cases kv; rfl
      subst hv
      have hes : es.toList = [] := by
        cases hq : es.toList with
        | nil => rfl
        | cons y ys => rw [hq] at pr; cases pr
      refine ⟨a :: [] ++ [], Reads.dict e1 e2.1 e3 (by rw [hes]; exact ReadsAll.nil) (by rw [hes]; exact ReadsAll.nil), ?_⟩
      intro hm
      have : sysModules = a := by simpa using hm
      rw [this] at no
      simp at no
theorem DqAll.reads (I : Inv X pins σ H s) : ∀ (ds : List PyData) (vs : List V) (us : List Value), DqAll X.K H vs ds → Vals vs us → ∃ as, ReadsAll s.heap us ds as ∧ sysModules ∉ as
  | [], _, _, h, r => by cases h; cases r; exact ⟨_, ReadsAll.nil, by simp⟩
  | d :: ds, _, _, h, r => by
    cases h with
    | cons h1 h2 =>
      cases r with
      | cons r1 r2 =>
        obtain ⟨as, k1, k2⟩ := Dq.reads I d _ _ h1 r1
        obtain ⟨bs, k3, k4⟩ := DqAll.reads I ds _ _ h2 r2
        refine ⟨as ++ bs, ReadsAll.cons k1 k3, fun hm => ?_⟩
        rcases List.mem_append.mp hm with q | q
        · exact k2 q
        · exact k4 q
end
end
/-- repr(x) of such a tuple, or of an empty dict -/
def rReprQ (K : PySem.W.Frag) : List V → Hp → VK → Prop := fun xs H Q => ∃ (a : Addr) (d : PyData), xs = [.ref a] ∧ Dq K H (.ref a) d ∧ d.showable = true ∧ d.depth ≤ 60 ∧ d.shown.length ≤ sizeLine ∧ Q (.str d.shown) H
theorem call_reprQ {X : Cx} (hg : X.A.guards = some []) (hu : X.A.units + 65 < cLine) : CallR X (.builtin "repr") (rReprQ X.K) := by
  rintro pins s σ H _ us Q I r ⟨a, d, rfl, hd, h1, h3, h4, q⟩
  rw [Vals.ref1 r]
  obtain ⟨as, hr, hn⟩ := Dq.reads I d _ (.ref a) hd rfl
  exact repr_of_reads' hr h1 (fun _ => hn) hg (by omega) (fun _ _ e => e) (fun h' u tk hk => ⟨.str d.shown, H, I.kept hk, ⟨u, rfl⟩, q⟩) h4
end OddT
set_option autoImplicit false
set_option linter.all false
set_option maxRecDepth 100000
namespace LtT
open PySem PySem.Spec PyProof.Rows PySem.W
open L2
section
variable {X : Cx}
def twoI (a b : Int) : PyData := .tuple [.int a, .int b]
/-- one pair stands ahead of another -/
def rLtP (K : PySem.W.Frag) : R2 := fun x y H Q => ∃ a b c d : Int, Dp K H x (twoI a b) ∧ Dp K H y (twoI c d) ∧ Q (.bl (decide (a < c ∨ (a = c ∧ b < d)))) H
theorem op_ltP (hu : X.A.units + 65 < cLine) : OpR X (compareOp .Lt) (rLtP X.K) := by
  intro pins s σ H x y v u Q I rx ry h
  obtain ⟨a, b, c, d, hx, hy, q⟩ := h
  obtain ⟨as, r1⟩ := Dp.reads I _ x v hx rx
  obtain ⟨bs, r2⟩ := Dp.reads I _ y u hy ry
  have hal : alike (twoI a b) (twoI c d) = true := by simp [twoI, alike, alikeAll]
  have hdep : (twoI a b).depth ≤ 64 := by simp [twoI, PyData.depth, PyData.depthAll]
  have hne : twoI a b ≠ .none := by simp [twoI]
  have hroom : X.A.units + min (twoI a b).depth (twoI c d).depth < cLine := by omega
  refine rcLt_alike (twoI a b) (twoI c d) _ _ _ _ as bs r1 r2 hal hne hroom _ _ _ _ ?_
  rw [show dataLt (twoI a b) (twoI c d) = decide (a < c ∨ (a = c ∧ b < d)) from dataLt_ii a b c d]
  exact ⟨.bl _, H, I, rfl, q⟩
end
end LtT
set_option autoImplicit false
set_option linter.all false
set_option maxRecDepth 100000
set_option maxHeartbeats 4000000
namespace SrvT
open PySem PySem.Spec PyProof.Rows PySem.W
open L2
/-- values beside what they read as, the greatest first -/
def fromTop (bs : List (V × PyData)) : List (V × PyData) := bs.mergeSort (dataLe true Prod.snd)
theorem fromTop_len (bs : List (V × PyData)) : (fromTop bs).length = bs.length := (List.mergeSort_perm _ _).length_eq
def tTop (K : PySem.W.Frag) (ta tk : TA) : TE := fun σ H Q => ta σ H fun xs H1 => tk σ H1 fun zs H2 => zs = [V.bl true] ∧ ∃ (l : Addr) (ws : List V) (ds : List PyData), xs = [V.ref l] ∧ SqL K H2 l ws ∧ DpAll K H2 ws ds ∧ AllAlike ds ∧ Sortable ds ∧ (∀ d ∈ ds, d.depth ≤ 60) ∧
  ∀ p : Addr, H2 p = none → Q (.ref p) (upd H2 p (.lst ((fromTop (ws.zip ds)).map Prod.fst)))
theorem pe_top {X : Cx} {e v : Expr} {ta tk : TA} {p pos kp : Pos} (hu : X.A.units + 65 < cLine) (hg : Gl X "sorted") (hm : X.mg "sorted" = none) (ha : PA X [e] ta) (hk : PK X [⟨some "reverse", v, kp⟩] tk)
    (he : starEach [e] X.env = (false, eval e X.env) :: starEach [] X.env) :
    PE X (.Call (.Name "sorted" p) [e] [⟨some "reverse", v, kp⟩] pos) (tTop X.K ta tk) := by
  constructor
  intro pins s σ H Q I h
  refine wpAny_Call_Name_kw (ld_blt I hg hm (show bootBuiltins "sorted" = some (.builtin "sorted") by decide +kernel) ?_ (by decide) (by decide))
  refine callWith_kw (thn (ha.run pos pins s σ H _ I h) ?_) (by rw [he]; rfl) (by rw [he]; rfl) rfl rfl
  rintro us s1 ⟨xs, H1, J, r1, q1⟩
  refine thn (hk.run pos pins s1 σ H1 _ J q1) ?_
  rintro ks s2 ⟨zs, H2, J2, r2, rfl, l, ws, ds, rfl, hs, hd, al, so, dp, q⟩
  rw [Vals.ref1 r1]
  cases r2 with
  | cons k2 rest =>
    cases rest
    obtain rfl := k2
    show wpAny _ _ (call (.builtin "sorted") [.ref l] [(Str.ofString "reverse", .bool true)]) _ _ _
    obtain ⟨its, rv, pl, few⟩ := J2.list hs
    have len := dpall_len hd
    have snds : (ws.zip ds).map Prod.snd = ds := List.map_snd_zip (by omega)
    have zl : (ws.zip ds).length = ws.length := by rw [List.length_zip]; omega
    refine sorted_rev_data (b := true) (vs := its) (bs := ws.zip ds) (enc := Prod.snd) (R := fun u b => RelV b.1 u) pl.isList (each_both rv hd fun _ _ _ r _ => r) (each_both rv hd fun v u d r k => Dp.reads J2 d v u k r) ?_ ?_ ?_ ?_ ?_
    · rw [snds]; exact al
    · rw [snds]; exact so
    · rw [zl]; exact few
    · intro b hb
      have := dp _ (List.of_mem_zip hb).2
      omega
    · intro out hlen each
      obtain ⟨cap, at_⟩ := sortedAll_at s2.heap its out.toArray
      have empty : s2.heap.get? (s2.heap.objs.size + 1) = none := by
        cases there : s2.heap.get? (s2.heap.objs.size + 1) with
        | none => rfl
        | some b => exact absurd (Heap.lt_size there) (Nat.not_lt_of_le (Nat.le_succ _))
      have none_ : H2 (s2.heap.objs.size + 1) = none := J2.hok.gone empty
      have room : ((fromTop (ws.zip ds)).map Prod.fst).length ≤ sizeLine := by
        rw [List.length_map, fromTop_len, zl]; exact few
      have obj : Inv X pins σ (upd H2 (s2.heap.objs.size + 1) (.lst ((fromTop (ws.zip ds)).map Prod.fst))) { s2 with heap := sortedAll s2.heap its out.toArray } := J2.laidN (t' := s2.toks) (fun _ _ => sortedAll_old) empty none_ ⟨room, out, cap, vals_each each, at_⟩
      exact ⟨.ref (s2.heap.objs.size + 1), upd H2 (s2.heap.objs.size + 1) (.lst ((fromTop (ws.zip ds)).map Prod.fst)), obj, rfl, q _ none_⟩
end SrvT
set_option autoImplicit false
set_option linter.all false
namespace Ev
open PySem
open L2
/-- a relation on values asks no more than what the function tells -/
def OpD (K : PySem.W.Frag) (r : R2) (k : D → D → Sto → R (D × Sto)) : Prop :=
  ∀ (H : Hp) (m : List Addr) (S : Sto) (x y : D) (v u : V) (d : D) (S' : Sto) (Q : VK), RSt K H m S → RepD K H m x v → RepD K H m y u → k x y S = .ok (d, S') →
    (∀ w H' m', Up H m H' m' → RepD K H' m' d w → RSt K H' m' S' → Q w H') → r v u H Q
theorem rep_int {K : PySem.W.Frag} {H : Hp} {m : List Addr} {i : Int} {v : V} (h : RepD K H m (.int i) v) : v = .int i := by simpa only [RepD] using h
theorem rep_str {K : PySem.W.Frag} {H : Hp} {m : List Addr} {i : Str} {v : V} (h : RepD K H m (.str i) v) : v = .str i := by simpa only [RepD] using h
theorem rep_bl {K : PySem.W.Frag} {H : Hp} {m : List Addr} {i : Bool} {v : V} (h : RepD K H m (.bl i) v) : v = .bl i := by simpa only [RepD] using h
theorem rep_tup {K : PySem.W.Frag} {H : Hp} {m : List Addr} {xs : List D} {v : V} (h : RepD K H m (.tup xs) v) : ∃ a vs, v = .ref a ∧ SqT K H a vs ∧ RepL K H m xs vs := by simpa only [RepD] using h
theorem mk_int {K : PySem.W.Frag} {H : Hp} {m : List Addr} (i : Int) : RepD K H m (.int i) (.int i) := by simp only [RepD]
theorem mk_str {K : PySem.W.Frag} {H : Hp} {m : List Addr} (i : Str) : RepD K H m (.str i) (.str i) := by simp only [RepD]
theorem mk_bl {K : PySem.W.Frag} {H : Hp} {m : List Addr} (i : Bool) : RepD K H m (.bl i) (.bl i) := by simp only [RepD]
theorem mk_non {K : PySem.W.Frag} {H : Hp} {m : List Addr} : RepD K H m .non .non := by simp only [RepD]
theorem mk_tup {K : PySem.W.Frag} {H : Hp} {m : List Addr} {a : Addr} {xs : List D} {vs : List V} (h : SqT K H a vs) (r : RepL K H m xs vs) : RepD K H m (.tup xs) (.ref a) := by
  simp only [RepD]; exact ⟨a, vs, rfl, h, r⟩
theorem ok_inj {α : Type} {a b : α} (h : R.ok a = .ok b) : a = b := by injection h
theorem sizeM : (sizeLine : Nat) = 16777216 := sizeLine_eq
section
variable {X : Cx}
def rBin (K : PySem.W.Frag) (o : Operator) : R2 := match o with
  | .Add => fun x y H Q => rI0 (fun i j => .int (i + j)) x y H Q ∨ (∃ i j, x = .str i ∧ y = .str j ∧ i.length + j.length ≤ sizeLine ∧ Q (.str (i ++ j)) H) ∨ rCatA K x y H Q ∨ rCat x y H Q
  | .Sub => rI0 fun i j => .int (i - j)
  | .Mult => fun x y H Q => rI CMul (fun i j => .int (i * j)) x y H Q ∨ rRepT K x y H Q ∨ rRep x y H Q ∨ RepT.rRep1 K x y H Q ∨ RepT.rRep0 K x y H Q
  | .FloorDiv => rI CDivW fun i j => .int (i / j)
  | .Mod => rI (fun _ j => 0 < j) fun i j => .int (i % j)
  | .Pow => rI CPow fun i j => .int (i ^ j.toNat)
  | _ => fun _ _ _ _ => False
theorem opR_bin (o : Operator) : OpR X (binaryOp o) (rBin X.K o) := by
  cases o with
  | Add => exact OpR.or op_add (OpR.or op_add_str (OpR.or op_catA op_cat))
  | Sub => exact op_sub
  | Mult => exact OpR.or op_mul (OpR.or op_repT (OpR.or op_rep (OpR.or RepT.op_rep1 RepT.op_rep0)))
  | FloorDiv => exact op_fdivW
  | Mod => exact op_mod
  | Pow => exact op_pow
  | _ => intro _ _ _ _ _ _ _ _ _ _ _ _ h; exact False.elim h
theorem opD_bin {K : PySem.W.Frag} (o : Operator) : OpD K (rBin K o) (binD o) := by
  intro H m S x y v u d S' Q st rx ry e q
  have lists : ∀ {a b : D} {va vb : V} {k : List D → List D → R (D × Sto)}, RepD K H m a va → RepD K H m b vb →
      ((opt (isLst S a)).bi fun xs => (opt (isLst S b)).bi fun ys => when (xs.length + ys.length ≤ 16777216) (.ok (D.loc S.length, S ++ [Cell.lst (xs ++ ys)]))) = .ok (d, S') → rCat va vb H Q := by
    intro a b va vb k ra rb e
    obtain ⟨xs, e1, e⟩ := bi_eq_ok e
    obtain ⟨ys, e2, e⟩ := bi_eq_ok e
    obtain ⟨hz, e⟩ := when_ok e
    cases ok_inj e
    obtain ⟨p, vs, rfl, h1, h2⟩ := st.lst (opt_eq_ok e1) ra
    obtain ⟨p', vs', rfl, h1', h2'⟩ := st.lst (opt_eq_ok e2) rb
    refine ⟨p, p', vs, vs', rfl, rfl, h1, h1', by rw [← h2.length, ← h2'.length, sizeM]; exact hz, fun l hl => ?_⟩
    obtain ⟨u1, st1, r1⟩ := st.fresh hl (h2.append h2')
    exact q _ _ _ u1 r1 st1
  cases o with
  | Add =>
    show rI0 (fun i j => .int (i + j)) v u H Q ∨ _
    simp only [binD] at e
    split at e
    · cases ok_inj e
      cases rep_int rx; cases rep_int ry
      exact .inl ⟨_, _, rfl, rfl, q _ _ _ Up.refl (mk_int _) st⟩
    · obtain ⟨hz, e⟩ := when_ok e
      cases ok_inj e
      cases rep_str rx; cases rep_str ry
      exact .inr (.inl ⟨_, _, rfl, rfl, by rw [sizeM]; exact hz, q _ _ _ Up.refl (mk_str _) st⟩)
    · obtain ⟨hz, e⟩ := when_ok e
      cases ok_inj e
      obtain ⟨a, vs, rfl, h1, h2⟩ := rep_tup rx
      obtain ⟨b, us, rfl, h3, h4⟩ := rep_tup ry
      refine .inr (.inr (.inl ⟨a, b, vs, us, rfl, rfl, h1, h3, by rw [← h2.length, ← h4.length, sizeM]; exact hz, fun z => ?_, fun _ z => ?_, fun _ _ p hp => ?_⟩))
      · have z1 := h2.nil_iff.mpr z
        subst z1
        exact q _ _ _ Up.refl (by rw [List.nil_append]; exact ry) st
      · have z1 := h4.nil_iff.mpr z
        subst z1
        exact q _ _ _ Up.refl (by rw [List.append_nil]; exact rx) st
      · obtain ⟨u1, st1, r1⟩ := st.freshT hp (h2.append h4)
        exact q _ _ _ u1 r1 st1
    · exact .inr (.inr (.inr (lists (k := fun _ _ => .no) rx ry e)))
  | Sub =>
    simp only [binD] at e
    split at e
    · cases ok_inj e
      cases rep_int rx; cases rep_int ry
      exact ⟨_, _, rfl, rfl, q _ _ _ Up.refl (mk_int _) st⟩
    · cases e
  | Mult =>
    show rI CMul (fun i j => .int (i * j)) v u H Q ∨ _
    simp only [binD] at e
    split at e
    · obtain ⟨hz, e⟩ := when_ok e
      cases ok_inj e
      cases rep_int rx; cases rep_int ry
      exact .inl ⟨_, _, rfl, rfl, hz, q _ _ _ Up.refl (mk_int _) st⟩
    · rename_i xs j
      obtain ⟨⟨z2, z3, z4⟩, e⟩ := when_ok e
      cases ok_inj e
      cases rep_int ry
      have rx1 := rx
      obtain ⟨a, vs, rfl, h1, h2⟩ := rep_tup rx
      by_cases z1 : xs = []
      · subst z1
        have e0 : ∀ n : Nat, (List.replicate n ([] : List D)).flatten = [] := fun n => by
          induction n with
          | zero => rfl
          | succ n ih => rw [List.replicate_succ, List.flatten_cons, ih]; rfl
        refine .inr (.inr (.inr (.inl ⟨a, j, vs, rfl, rfl, h1, .inl (h2.nil_iff.mp rfl), z2, by omega, q _ _ _ Up.refl ?_ st⟩)))
        rw [e0]
        exact rx1
      by_cases c2 : 2 ≤ j
      · refine .inr (.inl ⟨a, _, vs, rfl, rfl, h1, fun z => z1 (h2.nil_iff.mpr z), c2, z3, by rw [← h2.length]; exact z4, fun p hp => ?_⟩)
        obtain ⟨u1, st1, r1⟩ := st.freshT hp (h2.rep _)
        exact q _ _ _ u1 r1 st1
      · by_cases c1 : j = 1
        · subst c1
          refine .inr (.inr (.inr (.inl ⟨a, 1, vs, rfl, rfl, h1, .inr rfl, by omega, by omega, q _ _ _ Up.refl ?_ st⟩)))
          rw [show (List.replicate (1 : Int).toNat xs).flatten = xs by simp]
          exact rx1
        · refine .inr (.inr (.inr (.inr ⟨a, j, vs, rfl, rfl, h1, fun z => z1 (h2.nil_iff.mpr z), by omega, z2, fun p hp => ?_⟩)))
          have e0 : j.toNat = 0 := by omega
          obtain ⟨u1, st1, r1⟩ := st.freshT hp (h2.rep 0)
          rw [e0] at q
          exact q _ _ _ u1 r1 st1
    · obtain ⟨xs, e1, e⟩ := bi_eq_ok e
      obtain ⟨⟨z1, z2, z3⟩, e⟩ := when_ok e
      cases ok_inj e
      cases rep_int ry
      obtain ⟨p, vs, rfl, h1, h2⟩ := st.lst (opt_eq_ok e1) rx
      refine .inr (.inr (.inl ⟨p, _, vs, rfl, rfl, h1, z1, z2, by rw [← h2.length, sizeM]; exact z3, fun l hl => ?_⟩))
      obtain ⟨u1, st1, r1⟩ := st.fresh hl (h2.rep _)
      exact q _ _ _ u1 r1 st1
    · cases e
  | FloorDiv =>
    simp only [binD] at e
    split at e
    · obtain ⟨⟨z1, z2⟩, e⟩ := when_ok e
      cases ok_inj e
      cases rep_int rx; cases rep_int ry
      exact ⟨_, _, rfl, rfl, wide_div (b := 64) z1 (by omega) (by decide) (by decide), q _ _ _ Up.refl (mk_int _) st⟩
    · cases e
  | Mod =>
    simp only [binD] at e
    split at e
    · obtain ⟨hz, e⟩ := when_ok e
      cases ok_inj e
      cases rep_int rx; cases rep_int ry
      exact ⟨_, _, rfl, rfl, hz, q _ _ _ Up.refl (mk_int _) st⟩
    · cases e
  | Pow =>
    simp only [binD] at e
    split at e
    · obtain ⟨hz, e⟩ := when_ok e
      cases ok_inj e
      cases rep_int rx; cases rep_int ry
      exact ⟨_, _, rfl, rfl, hz, q _ _ _ Up.refl (mk_int _) st⟩
    · cases e
  | _ => cases e
def CmD (K : PySem.W.Frag) (r : R2) (k : D → D → Sto → R Bool) : Prop :=
  ∀ (H : Hp) (m : List Addr) (S : Sto) (x y : D) (v u : V) (t : Bool) (Q : VK), RSt K H m S → RepD K H m x v → RepD K H m y u → k x y S = .ok t → Q (.bl t) H → r v u H Q
/-- in a list or a tuple of data -/
def rInA (K : PySem.W.Frag) (f : Bool → Bool) : R2 := fun x y H Q => ∃ d c ds, (c = PyData.list ds ∨ c = PyData.tuple ds) ∧ Dp K H x d ∧ Dp K H y c ∧ SeqAt.shaped d = true ∧ SeqAt.shaped c = true ∧ Q (.bl (f (ds.any fun z => PyData.eqv z d))) H
theorem op_inA (hu : X.A.units + 65 < cLine) : OpR X (compareOp .In) (rInA X.K fun b => b) := by
  intro pins s σ H x y v u Q I rx ry h
  obtain ⟨d, c, ds, hc, hd, he, sd, se, q⟩ := h
  obtain ⟨as, r1⟩ := Dp.reads I d x v hd rx
  obtain ⟨bs, r2⟩ := Dp.reads I c y u he ry
  rcases hc with rfl | rfl
  · exact SeqAt.in_list_reads r2 r1 (SeqAt.canLay_of_shaped se) (SeqAt.canLay_of_shaped sd) (PyProof.Rows.room_in_shaped sd hu) ⟨.bl _, H, I, rfl, q⟩
  · exact SeqAt.in_tuple_reads r2 r1 (SeqAt.canLay_of_shaped se) (SeqAt.canLay_of_shaped sd) (PyProof.Rows.room_in_shaped sd hu) ⟨.bl _, H, I, rfl, q⟩
theorem op_notInA (hu : X.A.units + 65 < cLine) : OpR X (compareOp .NotIn) (rInA X.K fun b => !b) := by
  intro pins s σ H x y v u Q I rx ry h
  obtain ⟨d, c, ds, hc, hd, he, sd, se, q⟩ := h
  obtain ⟨as, r1⟩ := Dp.reads I d x v hd rx
  obtain ⟨bs, r2⟩ := Dp.reads I c y u he ry
  rcases hc with rfl | rfl
  · exact SeqAt.notIn_list_reads r2 r1 (SeqAt.canLay_of_shaped se) (SeqAt.canLay_of_shaped sd) (PyProof.Rows.room_in_shaped sd hu) ⟨.bl _, H, I, rfl, q⟩
  · exact SeqAt.notIn_tuple_reads r2 r1 (SeqAt.canLay_of_shaped se) (SeqAt.canLay_of_shaped sd) (PyProof.Rows.room_in_shaped sd hu) ⟨.bl _, H, I, rfl, q⟩
theorem keyO_rep {K : PySem.W.Frag} {H : Hp} {m : List Addr} {d : D} {k : Ky} {v : V} (e : keyO d = some k) (r : RepD K H m d v) : v = kV k := by
  cases d with
  | int i => cases e; cases rep_int r; rfl
  | str i => cases e; cases rep_str r; rfl
  | _ => cases e
theorem dget_of {H : Hp} {a : Addr} {ws : List (Key × V)} (k : Ky) (h : H a = some (.dK ws)) : DGet H a (kV k) (valV ws k) := DGet.k h
/-- in a table -/
def rDIn (f : Bool → Bool) : R2 := fun x y H Q => ∃ a o, y = .ref a ∧ DGet H a x o ∧ Q (.bl (f o.isSome)) H
theorem op_din (hu : X.A.units + 65 < cLine) : OpR X (compareOp .In) (rDIn fun b => b) := by
  intro pins s σ H x y v u Q I rx ry h
  obtain ⟨a, o, rfl, g, q⟩ := h
  obtain rfl : u = Value.ref a := ry
  exact d_in (by omega) I g rx fun s3 I3 => ⟨.bl o.isSome, H, I3, rfl, q⟩
theorem op_dnin (hu : X.A.units + 65 < cLine) : OpR X (compareOp .NotIn) (rDIn fun b => !b) := by
  intro pins s σ H x y v u Q I rx ry h
  obtain ⟨a, o, rfl, g, q⟩ := h
  obtain rfl : u = Value.ref a := ry
  exact d_notIn (by omega) I g rx fun s3 I3 => ⟨.bl (!o.isSome), H, I3, rfl, q⟩
def rCmp (K : PySem.W.Frag) (o : CmpOp) : R2 := match o with
  | .Eq => fun x y H Q => rEq x y H Q ∨ rEqD K x y H Q ∨ OddT.rLenU K false x y H Q
  | .NotEq => fun x y H Q => rNe x y H Q ∨ rNeD K x y H Q ∨ OddT.rLenU K true x y H Q
  | .In => fun x y H Q => (∃ i j, x = .str i ∧ y = .str j ∧ Q (.bl (!(Builtin.Str.occurrences j i 0 j.length 1).isEmpty)) H) ∨ rIn K false x y H Q ∨ rInA K (fun b => b) x y H Q ∨ rDIn (fun b => b) x y H Q
  | .NotIn => fun x y H Q => (∃ i j, x = .str i ∧ y = .str j ∧ Q (.bl (!(!(Builtin.Str.occurrences j i 0 j.length 1).isEmpty))) H) ∨ rIn K true x y H Q ∨ rInA K (fun b => !b) x y H Q ∨ rDIn (fun b => !b) x y H Q
  | .Lt => fun x y H Q => rI0 (fun i j => .bl (decide (i < j))) x y H Q ∨ LtT.rLtP K x y H Q
  | .LtE => rI0 fun i j => .bl (decide (i ≤ j))
  | .Gt => rI0 fun i j => .bl (decide (j < i))
  | .GtE => rI0 fun i j => .bl (decide (j ≤ i))
  | .Is => fun x y H Q => y = .non ∧ Q (.bl (decide (x = .non))) H
  | .IsNot => fun x y H Q => y = .non ∧ Q (.bl (!decide (x = .non))) H
theorem opR_cmp (hu : X.A.units + 65 < cLine) (o : CmpOp) : OpR X (compareOp o) (rCmp X.K o) := by
  cases o with
  | Eq => exact OpR.or op_eq (OpR.or (op_eqD (by omega)) (OddT.op_eqLenU (by omega)))
  | NotEq => exact OpR.or op_ne (OpR.or (op_neD (by omega)) (OddT.op_neLenU (by omega)))
  | In => exact OpR.or op_in_str (OpR.or op_in_seq (OpR.or (op_inA hu) (op_din hu)))
  | NotIn => exact OpR.or op_notin_str (OpR.or op_notIn_seq (OpR.or (op_notInA hu) (op_dnin hu)))
  | Lt => exact OpR.or op_lt (LtT.op_ltP hu)
  | LtE => exact op_le
  | Gt => exact op_gt
  | GtE => exact op_ge
  | Is => exact op_isN
  | IsNot => exact op_notN
theorem eq_core {K : PySem.W.Frag} {H : Hp} {m : List Addr} {S : Sto} {x y : D} {v u : V} {t : Bool} (st : RSt K H m S) (rx : RepD K H m x v) (ry : RepD K H m y u) (e : eqD x y S = .ok t) :
    (scal v u = true ∧ t = decide (v = u)) ∨ (∃ d e, Dp K H v d ∧ Dp K H u e ∧ SeqAt.shaped d = true ∧ SeqAt.shaped e = true ∧ t = PyData.eqv d e) ∨
      (∃ a b xs ys, v = .ref a ∧ u = .ref b ∧ SqL K H a xs ∧ SqL K H b ys ∧ xs.length ≠ ys.length ∧ t = false) := by
  unfold eqD at e
  split at e
  · rename_i hs
    cases ok_inj e
    refine .inl ?_
    cases x with
    | int i =>
      cases y with
      | int j => cases rep_int rx; cases rep_int ry; exact ⟨rfl, dec_int.symm⟩
      | _ => cases hs
    | bl i =>
      cases y with
      | bl j => cases rep_bl rx; cases rep_bl ry; exact ⟨rfl, dec_bl.symm⟩
      | _ => cases hs
    | str i =>
      cases y with
      | str j => cases rep_str rx; cases rep_str ry; exact ⟨rfl, dec_str.symm⟩
      | _ => cases hs
    | _ => cases hs
  · split at e
    · rename_i hl
      cases ok_inj e
      refine .inr (.inr ?_)
      unfold lenU at hl
      split at hl
      · rename_i xs ys h1 h2
        obtain ⟨a, vs, rfl, k1, k2⟩ := st.lst h1 rx
        obtain ⟨b, ws, rfl, k3, k4⟩ := st.lst h2 ry
        refine ⟨a, b, vs, ws, rfl, rfl, SqL.of k1, SqL.of k3, ?_, rfl⟩
        rw [← k2.length, ← k4.length]
        simpa using hl
      · cases hl
    · obtain ⟨p, e1, e⟩ := bi_eq_ok e
      obtain ⟨p', e2, e⟩ := bi_eq_ok e
      cases ok_inj e
      have h1 := opt_eq_ok e1
      have h2 := opt_eq_ok e2
      exact .inr (.inl ⟨p, p', dp_of st _ _ _ _ h1 rx, dp_of st _ _ _ _ h2 ry, shaped_of h1 (by decide), shaped_of h2 (by decide), rfl⟩)
theorem flat_of {K : PySem.W.Frag} {H : Hp} {m : List Addr} {x : D} {v : V} (r : RepD K H m x v) (h : flatD x = true) : flatV v = true := by
  cases x with
  | non => simp only [RepD] at r; subst r; rfl
  | bl _ => cases rep_bl r; rfl
  | int _ => cases rep_int r; rfl
  | str _ => cases rep_str r; rfl
  | _ => cases h
theorem eqF_of {K : PySem.W.Frag} {H : Hp} {m : List Addr} {x y : D} {v u : V} (rx : RepD K H m x v) (ry : RepD K H m y u) (fx : flatD x = true) (fy : flatD y = true) : eqV v u = eqF x y := by
  cases x with
  | non =>
    simp only [RepD] at rx; subst rx
    cases y with
    | non => simp only [RepD] at ry; subst ry; rfl
    | bl _ => cases rep_bl ry; rfl
    | int _ => cases rep_int ry; rfl
    | str _ => cases rep_str ry; rfl
    | _ => cases fy
  | bl _ =>
    cases rep_bl rx
    cases y with
    | non => simp only [RepD] at ry; subst ry; rfl
    | bl _ => cases rep_bl ry; rfl
    | int _ => cases rep_int ry; rfl
    | str _ => cases rep_str ry; rfl
    | _ => cases fy
  | int _ =>
    cases rep_int rx
    cases y with
    | non => simp only [RepD] at ry; subst ry; rfl
    | bl _ => cases rep_bl ry; rfl
    | int _ => cases rep_int ry; rfl
    | str _ => cases rep_str ry; rfl
    | _ => cases fy
  | str _ =>
    cases rep_str rx
    cases y with
    | non => simp only [RepD] at ry; subst ry; rfl
    | bl _ => cases rep_bl ry; rfl
    | int _ => cases rep_int ry; rfl
    | str _ => cases rep_str ry; rfl
    | _ => cases fy
  | _ => cases fx
theorem flatAll_of {K : PySem.W.Frag} {H : Hp} {m : List Addr} : ∀ {xs : List D} {vs : List V}, RepL K H m xs vs → xs.all flatD = true → vs.all flatV = true
  | [], vs, r, _ => by simp only [RepL] at r; subst r; rfl
  | x :: xs, vs, r, h => by
    simp only [RepL] at r
    obtain ⟨v, ws, rfl, h2, h3⟩ := r
    simp only [List.all_cons, Bool.and_eq_true] at h ⊢
    exact ⟨flat_of h2 h.1, flatAll_of h3 h.2⟩
theorem inF_of {K : PySem.W.Frag} {H : Hp} {m : List Addr} {x : D} {v : V} (rx : RepD K H m x v) (fx : flatD x = true) : ∀ {xs : List D} {vs : List V}, RepL K H m xs vs → xs.all flatD = true → inV v vs = xs.any fun y => eqF y x
  | [], vs, r, _ => by simp only [RepL] at r; subst r; rfl
  | y :: xs, vs, r, h => by
    simp only [RepL] at r
    obtain ⟨u, ws, rfl, h2, h3⟩ := r
    simp only [List.all_cons, Bool.and_eq_true] at h
    have ih := inF_of rx fx h3 h.2
    unfold inV at ih ⊢
    simp only [List.any_cons]
    rw [ih, eqF_of h2 rx h.1 fx]
/-- what an in tells -/
theorem in_core {K : PySem.W.Frag} {H : Hp} {m : List Addr} {S : Sto} {x c : D} {v u : V} {t : Bool} (st : RSt K H m S) (rx : RepD K H m x v) (ry : RepD K H m c u) (e : inD x c S = .ok t) :
    (∃ i j, v = .str i ∧ u = .str j ∧ t = !(Builtin.Str.occurrences j i 0 j.length 1).isEmpty) ∨
    (∃ p vs, u = .ref p ∧ (SqL K H p vs ∨ SqT K H p vs) ∧ flatV v = true ∧ vs.all flatV = true ∧ t = inV v vs) ∨
    (∃ d c ds, (c = PyData.list ds ∨ c = PyData.tuple ds) ∧ Dp K H v d ∧ Dp K H u c ∧ SeqAt.shaped d = true ∧ SeqAt.shaped c = true ∧ t = ds.any fun z => PyData.eqv z d) ∨
    (∃ a o, u = .ref a ∧ DGet H a v o ∧ t = o.isSome) := by
  have main : (∀ z, c ≠ .str z) → (match dctO S c with
    | some kvs => (opt (keyO x)).bi fun k => .ok (kvGet kvs k).isSome
    | none => (opt (items S c)).bi fun xs => if flatD x = true ∧ xs.all flatD = true then .ok (xs.any fun y => eqF y x) else
    (opt (lstTup S c)).bi fun ys => (opt (toPy 59 S x)).bi fun d => (opt (mapO (toPy 59 S) ys)).bi fun ds => .ok (ds.any fun z => PyData.eqv z d)) = .ok t →
      (∃ p vs, u = .ref p ∧ (SqL K H p vs ∨ SqT K H p vs) ∧ flatV v = true ∧ vs.all flatV = true ∧ t = inV v vs) ∨
      (∃ d c ds, (c = PyData.list ds ∨ c = PyData.tuple ds) ∧ Dp K H v d ∧ Dp K H u c ∧ SeqAt.shaped d = true ∧ SeqAt.shaped c = true ∧ t = ds.any fun z => PyData.eqv z d) ∨
      (∃ a o, u = .ref a ∧ DGet H a v o ∧ t = o.isSome) := by
    intro hc e
    cases hd : dctO S c with
    | some kvs =>
      rw [hd] at e
      obtain ⟨k, e1, e⟩ := bi_eq_ok e
      cases ok_inj e
      obtain ⟨_, a, ws, rfl, rfl, h1, h2, h3⟩ := st.dct hd ry
      have hk := keyO_rep (opt_eq_ok e1) rx
      subst hk
      refine .inr (.inr ⟨a, valV ws k, rfl, dget_of k h2, ?_⟩)
      rcases h3.get k with ⟨g1, g2⟩ | ⟨d, w, g1, g2, _⟩
      · rw [g1, g2]; rfl
      · rw [g1, g2]; rfl
    | none =>
    rw [hd] at e
    obtain ⟨xs, e1, e⟩ := bi_eq_ok e
    have e1 := opt_eq_ok e1
    split at e
    · rename_i hf
      cases ok_inj e
      obtain ⟨a, vs, rfl, h1, h2⟩ := st.items e1 ry
      exact .inl ⟨a, vs, rfl, h1, flat_of rx hf.1, flatAll_of h2 hf.2, (inF_of rx hf.1 h2 hf.2).symm⟩
    · obtain ⟨ys, e0, e⟩ := bi_eq_ok e
      obtain ⟨d', e2, e⟩ := bi_eq_ok e
      obtain ⟨ds', e3, e⟩ := bi_eq_ok e
      cases ok_inj e
      have e2 := opt_eq_ok e2
      have e3 := opt_eq_ok e3
      have e0 := opt_eq_ok e0
      have lst : isLst S c = some ys → ∃ d c ds, (c = PyData.list ds ∨ c = PyData.tuple ds) ∧ Dp K H v d ∧ Dp K H u c ∧ SeqAt.shaped d = true ∧ SeqAt.shaped c = true ∧ (ds'.any fun z => PyData.eqv z d') = ds.any fun z => PyData.eqv z d := fun e0 => by
        obtain ⟨a, vs, rfl, h1, h2⟩ := st.lst e0 ry
        exact ⟨d', _, ds', .inl rfl, dp_of st _ _ _ _ e2 rx, .lst (SqL.of h1) (dpAll (dp_of st 59) _ _ _ e3 h2), shaped_of e2 (by decide), shaped_list e3 (by decide), rfl⟩
      cases c with
      | tup zs =>
        cases e0
        obtain ⟨a, vs, rfl, h1, h2⟩ := rep_tup ry
        exact .inr (.inl ⟨d', _, ds', .inr rfl, dp_of st _ _ _ _ e2 rx, .tup h1 (dpAll (dp_of st 59) _ _ _ e3 h2), shaped_of e2 (by decide), shaped_tuple e3 (by decide), rfl⟩)
      | _ => exact .inr (.inl (lst e0))
  cases c with
  | str z =>
    cases rep_str ry
    cases x with
    | str y =>
      cases rep_str rx
      exact .inl ⟨_, _, rfl, rfl, (ok_inj e).symm⟩
    | _ => cases e
  | _ => exact .inr (main (fun _ q => by cases q) e)
theorem cmD_cmp {K : PySem.W.Frag} (o : CmpOp) : CmD K (rCmp K o) (cmpD o) := by
  intro H m S x y v u t Q st rx ry e q
  cases o with
  | Eq =>
    rcases eq_core st rx ry e with ⟨h1, h2⟩ | ⟨d, e', h1, h2, h3, h4, h5⟩ | ⟨a, b, xs, ys, h1, h2, h3, h4, h5, rfl⟩
    · exact .inl ⟨h1, by rw [← h2]; exact q⟩
    · exact .inr (.inl ⟨d, e', h1, h2, h3, h4, by rw [← h5]; exact q⟩)
    · exact .inr (.inr ⟨a, b, xs, ys, h1, h2, h3, h4, h5, q⟩)
  | NotEq =>
    obtain ⟨t', e1, e⟩ := bi_eq_ok e
    cases ok_inj e
    rcases eq_core st rx ry e1 with ⟨h1, h2⟩ | ⟨d, e', h1, h2, h3, h4, h5⟩ | ⟨a, b, xs, ys, h1, h2, h3, h4, h5, rfl⟩
    · exact .inl ⟨h1, by rw [← h2]; exact q⟩
    · exact .inr (.inl ⟨d, e', h1, h2, h3, h4, by rw [← h5]; exact q⟩)
    · exact .inr (.inr ⟨a, b, xs, ys, h1, h2, h3, h4, h5, q⟩)
  | In =>
    rcases in_core st rx ry e with ⟨i, j, h1, h2, h3⟩ | ⟨p, vs, h1, h2, h3, h4, h5⟩ | ⟨d, c, ds, h0, h1, h2, h3, h4, h5⟩ | ⟨a, o, h1, h2, h3⟩
    · exact .inl ⟨i, j, h1, h2, by rw [← h3]; exact q⟩
    · exact .inr (.inl ⟨p, vs, h1, h2, h3, h4, by rw [← h5]; exact q⟩)
    · exact .inr (.inr (.inl ⟨d, c, ds, h0, h1, h2, h3, h4, by rw [← h5]; exact q⟩))
    · exact .inr (.inr (.inr ⟨a, o, h1, h2, by rw [← h3]; exact q⟩))
  | NotIn =>
    obtain ⟨t', e1, e⟩ := bi_eq_ok e
    cases ok_inj e
    rcases in_core st rx ry e1 with ⟨i, j, h1, h2, h3⟩ | ⟨p, vs, h1, h2, h3, h4, h5⟩ | ⟨d, c, ds, h0, h1, h2, h3, h4, h5⟩ | ⟨a, o, h1, h2, h3⟩
    · exact .inl ⟨i, j, h1, h2, by rw [← h3]; exact q⟩
    · exact .inr (.inl ⟨p, vs, h1, h2, h3, h4, by rw [← h5]; exact q⟩)
    · exact .inr (.inr (.inl ⟨d, c, ds, h0, h1, h2, h3, h4, by rw [← h5]; exact q⟩))
    · exact .inr (.inr (.inr ⟨a, o, h1, h2, by rw [← h3]; exact q⟩))
  | Is =>
    simp only [cmpD] at e
    split at e
    · simp only [RepD] at ry; subst ry
      split at e
      · simp only [RepD] at rx; subst rx
        cases ok_inj e
        exact ⟨rfl, q⟩
      · rename_i hx
        cases ok_inj e
        refine ⟨rfl, ?_⟩
        have hne : v ≠ .non := by
          intro z; subst z
          cases x with
          | non => exact hx rfl
          | bl _ => cases rep_bl rx
          | int _ => cases rep_int rx
          | str _ => cases rep_str rx
          | tup _ => obtain ⟨_, _, z, _⟩ := rep_tup rx; cases z
          | loc _ => simp only [RepD] at rx; obtain ⟨_, _, z⟩ := rx; cases z
          | frz _ => simp only [RepD] at rx; obtain ⟨_, _, z, _⟩ := rx; cases z
        rw [decide_eq_false hne]; exact q
    · cases e
  | IsNot =>
    simp only [cmpD] at e
    split at e
    · simp only [RepD] at ry; subst ry
      split at e
      · simp only [RepD] at rx; subst rx
        cases ok_inj e
        exact ⟨rfl, q⟩
      · rename_i hx
        cases ok_inj e
        refine ⟨rfl, ?_⟩
        have hne : v ≠ .non := by
          intro z; subst z
          cases x with
          | non => exact hx rfl
          | bl _ => cases rep_bl rx
          | int _ => cases rep_int rx
          | str _ => cases rep_str rx
          | tup _ => obtain ⟨_, _, z, _⟩ := rep_tup rx; cases z
          | loc _ => simp only [RepD] at rx; obtain ⟨_, _, z⟩ := rx; cases z
          | frz _ => simp only [RepD] at rx; obtain ⟨_, _, z, _⟩ := rx; cases z
        rw [decide_eq_false hne]; exact q
    · cases e
  | Lt =>
    show rI0 _ v u H Q ∨ LtT.rLtP K v u H Q
    simp only [cmpD] at e
    split at e
    · cases ok_inj e
      cases rep_int rx; cases rep_int ry
      exact .inl ⟨_, _, rfl, rfl, q⟩
    · unfold ltP at e
      split at e
      · cases ok_inj e
        exact .inr ⟨_, _, _, _, dp_of st 3 _ _ _ rfl rx, dp_of st 3 _ _ _ rfl ry, q⟩
      · cases e
  | _ =>
    simp only [cmpD] at e
    split at e
    · cases ok_inj e
      cases rep_int rx; cases rep_int ry
      exact ⟨_, _, rfl, rfl, q⟩
    · cases e
end
end Ev
set_option autoImplicit false
set_option linter.all false
set_option maxRecDepth 100000
namespace MaxT
open PySem PySem.Spec PyProof.Rows
open L2
/-- max(xs) of a tuple of ints -/
def rMaxT (K : PySem.W.Frag) : List V → Hp → VK → Prop := fun vs H Q => ∃ (a : Addr) (ns : List Int), vs = [V.ref a] ∧ SqT K H a (ns.map V.int) ∧ 0 < ns.length ∧ ∀ m, m ∈ ns → (∀ y, y ∈ ns → y ≤ m) → Q (.int m) H
theorem top_of (n : Int) : ∀ ns : List Int, ns.foldl max n ∈ n :: ns ∧ ∀ y, y ∈ n :: ns → y ≤ ns.foldl max n := by
  intro ns
  induction ns generalizing n with
  | nil => exact ⟨List.mem_singleton_self _, fun y hy => by rw [List.mem_singleton.mp hy]; exact Int.le_refl _⟩
  | cons k ns ih =>
    obtain ⟨a, b⟩ := ih (max n k)
    rw [List.foldl_cons]
    refine ⟨?_, fun y hy => ?_⟩
    · rcases List.mem_cons.mp a with e | e
      · rw [e]
        rcases Int.le_total n k with h | h
        · rw [Int.max_eq_right h]; simp
        · rw [Int.max_eq_left h]; simp
      · exact List.mem_cons_of_mem _ (List.mem_cons_of_mem _ e)
    · have top := b (max n k) (List.mem_cons_self ..)
      rcases List.mem_cons.mp hy with e | e
      · rw [e]; omega
      · rcases List.mem_cons.mp e with e | e
        · rw [e]; omega
        · exact b y (List.mem_cons_of_mem _ e)
theorem dp_ints {K : PySem.W.Frag} {H : Hp} : ∀ ns : List Int, DpAll K H (ns.map V.int) (ns.map PyData.int)
  | [] => .nil
  | n :: ns => .cons (.int n) (dp_ints ns)
theorem depth_ints : ∀ ns : List Int, PyData.depthAll (ns.map PyData.int) ≤ 1
  | [] => by simp [PyData.depthAll]
  | n :: ns => by
    have := depth_ints ns
    simp only [List.map_cons, PyData.depthAll, PyData.depth]
    omega
theorem cr_maxT {X : Cx} (hc : X.calm = true) (hu : X.A.units + 65 < cLine) : CallR X (.builtin "max") (rMaxT X.K) := by
  rintro pins s σ H _ us Q I r ⟨a, ns, rfl, isT, some_, q⟩
  obtain ⟨its, same, tup, _⟩ := I.tuple isT
  rw [Vals.ref1 r]
  cases ns with
  | nil => exact absurd some_ (by simp)
  | cons n ns =>
    obtain ⟨as, rd⟩ := Dp.readsAll I _ _ its (dp_ints (n :: ns)) same
    refine PySem.W.max_tuple_data (I.ok.hd hc) tup rd ⟨fun x hx y hy => ?_, fun x hx => ?_⟩ ?_ fun i v h' tk bs at_ reads kept => ?_
    · obtain ⟨k, _, rfl⟩ := List.mem_map.mp (show x ∈ (n :: ns).map PyData.int from hx)
      obtain ⟨j, _, rfl⟩ := List.mem_map.mp (show y ∈ (n :: ns).map PyData.int from hy)
      rfl
    · obtain ⟨k, _, rfl⟩ := List.mem_map.mp (show x ∈ (n :: ns).map PyData.int from hx)
      intro e
      cases e
    · have := depth_ints (n :: ns)
      simp only [List.map_cons] at this
      omega
    · rw [PySem.W.maxD_ints] at reads
      have hi : i < (n :: ns).length := by
        have h1 := (Array.getElem?_eq_some_iff.mp at_).1
        have h2 := same.length
        rw [List.length_map] at h2
        rw [List.size_toArray] at h1
        omega
      obtain ⟨m1, m2⟩ := top_of n ns
      cases reads with
      | int j t => exact ⟨.int _, H, I.kept kept, ⟨t, rfl⟩, q _ m1 m2⟩
end MaxT
set_option autoImplicit false
set_option linter.all false
set_option maxRecDepth 100000
namespace SumB
open PySem PySem.Spec PyProof.Rows
open L2
def ones (bs : List Bool) : List Int := bs.map fun b => if b = true then 1 else 0
theorem pre_ones (bs : List Bool) : ∀ j, j ≤ bs.length → preSum (fun i => (ones bs).getD i 0) j = ((ones bs).take j).sum
  | 0, _ => by simp [preSum]
  | j + 1, h => by
    have hl : j < (ones bs).length := by unfold ones; rw [List.length_map]; omega
    have e1 : (ones bs).getD j 0 = (ones bs)[j] := by rw [List.getD_eq_getElem?_getD, List.getElem?_eq_getElem hl]; rfl
    have e2 : (ones bs).take (j + 1) = (ones bs).take j ++ [(ones bs)[j]] := by rw [List.take_succ, List.getElem?_eq_getElem hl]; rfl
    show preSum _ j + (ones bs).getD j 0 = _
    rw [pre_ones bs j (by omega), e1, e2, List.sum_append]
    simp
/-- sum(xs) of a list of bools -/
def rSumB (K : PySem.W.Frag) : List V → Hp → VK → Prop := fun vs H Q => ∃ (a : Addr) (bs : List Bool), vs = [V.ref a] ∧ SqL K H a (bs.map V.bl) ∧ Q (.int (ones bs).sum) H
theorem val_bool {bs : List Bool} {its : List Value} (r : Vals (bs.map V.bl) its) {i : Nat} {v : Value} (h : its[i]? = some v) : NumOf ((ones bs).getD i 0) v := by
  have hi := (List.getElem?_eq_some_iff.mp h).1
  have hl := r.length
  rw [List.length_map] at hl
  have hb : i < bs.length := by omega
  obtain ⟨u, hu, ru⟩ := r.get (i := i) (x := V.bl bs[i]) (by rw [List.getElem?_map, List.getElem?_eq_getElem hb]; rfl)
  rw [h] at hu
  have e : v = .bool bs[i] := by
    rw [Option.some.inj hu]
    cases ru
    rfl
  refine .inr ⟨bs[i], e, ?_⟩
  unfold ones
  rw [List.getD_eq_getElem?_getD, List.getElem?_map, List.getElem?_eq_getElem hb]; rfl
theorem cr_sumB {X : Cx} (hc : X.calm = true) : CallR X (.builtin "sum") (rSumB X.K) := by
  rintro pins s σ H _ us Q I r ⟨a, bs, rfl, isL, q⟩
  obtain ⟨its, same, lst, _⟩ := I.list isL
  rw [Vals.ref1 r]
  have quiet : X.A.in1.handled = none := I.ok.hd hc
  have many : its.toArray.size = bs.length := by
    have := same.length
    rw [List.length_map] at this
    rw [List.size_toArray]; omega
  refine call_sum_walkAnyB (PySem.W.iter_listW quiet lst.isList fun s2 at2 W st0 low _ _ => ?_)
  refine ⟨_, _, _, _, _, _, _, fun i => (ones bs).getD i 0, rfl, W, st0, low, fun i v h => val_bool same (by simpa using h), fun s' t' moved => ?_⟩
  obtain ⟨h', tk, rfl, kept⟩ := PySem.W.moved_old at2 rfl moved
  rw [many, pre_ones bs _ (Nat.le_refl _), List.take_of_length_le (by unfold ones; rw [List.length_map]; exact Nat.le_refl _)]
  exact ⟨.int (ones bs).sum, H, I.kept kept, ⟨_, rfl⟩, q⟩
end SumB
set_option autoImplicit false
set_option linter.all false
namespace Ev
open PySem
open L2
mutual
theorem shown_rl : ∀ p : PyData, p.canLay0 = true → p.shown.length ≤ rl p
  | .none, _ => by decide
  | .bool b, _ => by cases b <;> decide
  | .int i, _ => by
    have e := PySem.int_text_length_le (a := i) (k := i.natAbs.log2 + 1) (by omega) (by omega)
    show (Str.ofString (toString i)).length ≤ i.natAbs.log2 + 3
    rw [ofString_length]; omega
  | .str x, h => by
    have h0 : x.cps.all (· < 0x110000) = true := by simpa only [PyData.canLay0, PyData.strOk] using h
    have := StrLaws.reprText_len x (fun c hc => by
      have h1 := (Array.all_eq_true_iff_forall_mem.mp h0) c (Array.mem_toList_iff.mp hc)
      have e : (16 : Nat) ^ 8 = 4294967296 := by decide
      have h2 : c < 0x110000 := by simpa using h1
      omega)
    simpa only [PyData.shown, rl] using this
  | .list xs, h => by
    have h1 := shownAll_rl xs (by simpa only [PyData.canLay0] using h)
    have h2 := listText_len_le (PyData.shownAll xs)
    rw [PyData.shownAll_length] at h2
    simp only [PyData.shown, rl]
    omega
  | .tuple xs, h => by
    have h1 := shownAll_rl xs (by simpa only [PyData.canLay0] using h)
    have h2 := tupleText_len_le (PyData.shownAll xs)
    rw [PyData.shownAll_length] at h2
    simp only [PyData.shown, rl]
    omega
  | .dict _, h => by simp [PyData.canLay0] at h
theorem shownAll_rl : ∀ xs : List PyData, PyData.canLayAll0 xs = true → ((PyData.shownAll xs).map (·.length)).sum + 2 * xs.length ≤ rlL xs
  | [], _ => by simp [PyData.shownAll, rlL]
  | x :: xs, h => by
    simp only [PyData.canLayAll0, Bool.and_eq_true] at h
    have h1 := shown_rl x h.1
    have h2 := shownAll_rl xs h.2
    simp only [PyData.shownAll, rlL, List.map_cons, List.sum_cons, List.length_cons]
    omega
end
mutual
def okQ : PyData → Bool
  | .none => true
  | .bool _ => true
  | .int _ => true
  | .str x => PyData.strOk x
  | .list _ => false
  | .tuple xs => okQL xs
  | .dict kvs => kvs.isEmpty
def okQL : List PyData → Bool
  | [] => true
  | x :: xs => okQ x && okQL xs
end
mutual
theorem shown_rlQ : ∀ p : PyData, okQ p = true → p.shown.length ≤ rl p
  | .none, _ => shown_rl .none rfl
  | .bool b, _ => shown_rl (.bool b) rfl
  | .int i, _ => shown_rl (.int i) rfl
  | .str x, h => shown_rl (.str x) h
  | .list _, h => by cases h
  | .tuple xs, h => by
    have h1 := shownAll_rlQ xs (by simpa only [okQ] using h)
    have h2 := tupleText_len_le (PyData.shownAll xs)
    rw [PyData.shownAll_length] at h2
    simp only [PyData.shown, rl]
    omega
  | .dict [], _ => by decide +kernel
  | .dict (_ :: _), h => by cases h
theorem shownAll_rlQ : ∀ xs : List PyData, okQL xs = true → ((PyData.shownAll xs).map (·.length)).sum + 2 * xs.length ≤ rlL xs
  | [], _ => by simp [PyData.shownAll, rlL]
  | x :: xs, h => by
    simp only [okQL, Bool.and_eq_true] at h
    have h1 := shown_rlQ x h.1
    have h2 := shownAll_rlQ xs h.2
    simp only [PyData.shownAll, rlL, List.map_cons, List.sum_cons, List.length_cons]
    omega
end
section
variable {K : PySem.W.Frag} {H : Hp} {m : List Addr} {S : Sto}
theorem okQL_of : ∀ ps : List PyData, (∀ p ∈ ps, okQ p = true) → okQL ps = true
  | [], _ => rfl
  | p :: ps, h => by
    simp only [okQL, Bool.and_eq_true]
    exact ⟨h p List.mem_cons_self, okQL_of ps fun q hq => h q (List.mem_cons_of_mem _ hq)⟩
theorem toPyQ_ok : ∀ (n : Nat) (d : D) (p : PyData), toPyQ n S d = some p → okQ p = true ∧ p.depth ≤ n
  | 0, _, _, e => by cases e
  | n + 1, d, p, e => by
    cases d with
    | non => cases e; exact ⟨rfl, by simp [PyData.depth]⟩
    | bl b => cases e; exact ⟨rfl, by simp [PyData.depth]⟩
    | int b => cases e; exact ⟨rfl, by simp [PyData.depth]⟩
    | str b =>
      simp only [toPyQ] at e
      split at e
      · rename_i hs
        cases e; exact ⟨hs, by simp [PyData.depth]⟩
      · cases e
    | tup xs =>
      simp only [toPyQ] at e
      obtain ⟨ps, e1, rfl⟩ := Option.map_eq_some_iff.mp e
      have hm := mapO_all (toPyQ_ok n) xs ps e1
      refine ⟨okQL_of ps fun q hq => (hm q hq).1, ?_⟩
      have h3 : PyData.depthAll ps ≤ n := depthAll_of ps fun q hq => (hm q hq).2
      simp only [PyData.depth]; omega
    | frz xs => cases e
    | loc k =>
      simp only [toPyQ] at e
      split at e
      · cases e; exact ⟨rfl, by simp [PyData.depth, PyData.depthKv]⟩
      · cases e
theorem dqAll {f : D → Option PyData} (hf : ∀ d p v, f d = some p → RepD K H m d v → OddT.Dq K H v p) : ∀ (ds : List D) (ps : List PyData) (vs : List V), mapO f ds = some ps → RepL K H m ds vs → OddT.DqAll K H vs ps
  | [], ps, vs, h, r => by
    cases h
    simp only [RepL] at r; subst r; exact .nil
  | d :: ds, ps, vs, h, r => by
    obtain ⟨y, ys, h1, h2, rfl⟩ := mapO_cons h
    simp only [RepL] at r
    obtain ⟨v, r', rfl, h3, h4⟩ := r
    exact .cons (hf _ _ _ h1 h3) (dqAll hf ds ys r' h2 h4)
theorem dq_of (h : RSt K H m S) : ∀ (n : Nat) (d : D) (p : PyData) (v : V), toPyQ n S d = some p → RepD K H m d v → OddT.Dq K H v p
  | 0, _, _, _, e, _ => by cases e
  | n + 1, d, p, v, e, r => by
    cases d with
    | non => cases e; simp only [RepD] at r; subst r; exact .non
    | bl b => cases e; simp only [RepD] at r; subst r; exact .bl b
    | int b => cases e; simp only [RepD] at r; subst r; exact .int b
    | str b =>
      simp only [toPyQ] at e
      split at e
      · cases e; simp only [RepD] at r; subst r; exact .str b
      · cases e
    | tup xs =>
      simp only [toPyQ] at e
      obtain ⟨ps, e1, rfl⟩ := Option.map_eq_some_iff.mp e
      simp only [RepD] at r
      obtain ⟨a, vs, rfl, h2, h3⟩ := r
      exact .tup h2 (dqAll (dq_of h n) _ _ _ e1 h3)
    | frz xs => cases e
    | loc k =>
      simp only [toPyQ] at e
      split at e
      · rename_i hk
        cases e
        obtain ⟨k', a, ws, _, rfl, _, k1, k2⟩ := h.dct (d := .loc k) (kvs := []) (by simp only [dctO, hk]) r
        simp only [RepK] at k2
        subst k2
        exact .dct k1
      · cases e
theorem ref_of_Q {d : D} {p : PyData} {v : V} (e0 : toPy 60 S d = none) (e : toPyQ 60 S d = some p) (r : RepD K H m d v) : ∃ a, v = .ref a := by
  cases d with
  | non => cases e0
  | bl b => cases e0
  | int b => cases e0
  | str b =>
    simp only [toPyQ] at e
    simp only [toPy] at e0
    split at e
    · rename_i hs
      rw [if_pos hs] at e0
      cases e0
    · cases e
  | tup xs =>
    simp only [RepD] at r
    obtain ⟨a, vs, rfl, _⟩ := r
    exact ⟨a, rfl⟩
  | frz xs => cases e
  | loc k =>
    simp only [RepD] at r
    obtain ⟨a, _, rfl⟩ := r
    exact ⟨a, rfl⟩
end
section
variable {X : Cx}
def rUna (o : UnaryOp) : V → Hp → VK → Prop := match o with
  | .USub => rU fun i => .int (-i)
  | _ => fun _ _ _ => False
theorem unR_una (o : UnaryOp) : UnR X (unaryOp o) (rUna o) := by
  cases o with
  | USub => exact un_neg
  | _ => intro _ _ _ _ _ _ _ _ _ h; exact False.elim h
theorem una_ok {K : PySem.W.Frag} {H : Hp} {m : List Addr} {o : UnaryOp} {x d : D} {v : V} {Q : VK} (rx : RepD K H m x v) (e : unaD o x = .ok d) (q : ∀ w, RepD K H m d w → Q w H) : rUna o v H Q := by
  cases o with
  | USub =>
    simp only [unaD] at e
    split at e
    · cases ok_inj e
      cases rep_int rx
      exact ⟨_, rfl, q _ (mk_int _)⟩
    · cases e
  | _ => cases e
theorem isEmpty_rep {K : PySem.W.Frag} {H : Hp} {m : List Addr} {xs : List D} {vs : List V} (h : RepL K H m xs vs) : xs.isEmpty = vs.isEmpty := by
  cases xs with
  | nil => simp only [RepL] at h; subst h; rfl
  | cons x xs => simp only [RepL] at h; obtain ⟨_, _, rfl, _⟩ := h; rfl
theorem tru_ok' {K : PySem.W.Frag} {H : Hp} {m : List Addr} {S : Sto} {x : D} {v : V} {t : Bool} (st : RSt K H m S) (rx : RepD K H m x v) (e : tru x S = .ok t) : TruV K v H t := by
  have cont : ∀ {x : D}, RepD K H m x v → ((opt (items S x)).bi fun xs => .ok (!xs.isEmpty)) = .ok t → TruV K v H t := fun rx e => by
    obtain ⟨xs, e1, e⟩ := bi_eq_ok e
    cases ok_inj e
    obtain ⟨a, vs, rfl, h1, h2⟩ := st.items (opt_eq_ok e1) rx
    rw [isEmpty_rep h2]
    rcases h1 with h1 | h1
    · exact .inl ⟨vs, h1, rfl⟩
    · exact .inr (.inl ⟨vs, h1, rfl⟩)
  cases x with
  | non => simp only [RepD] at rx; subst rx; exact (ok_inj e).symm
  | bl b => cases rep_bl rx; exact (ok_inj e).symm
  | int i => cases rep_int rx; exact (ok_inj e).symm
  | str s =>
    cases rep_str rx
    obtain ⟨hz, e⟩ := when_ok e
    exact ⟨by rw [sizeM]; exact hz, (ok_inj e).symm⟩
  | loc k =>
    have e' : (match dctO S (.loc k) with
      | some kvs => R.ok (!kvs.isEmpty)
      | none => (opt (items S (.loc k))).bi fun xs => R.ok (!xs.isEmpty)) = R.ok t := e
    cases hd : dctO S (.loc k) with
    | some kvs =>
      rw [hd] at e'
      cases ok_inj e'
      obtain ⟨_, a, ws, _, rfl, h1, h2, h3⟩ := st.dct hd rx
      exact .inr (.inr ⟨ws, h2, by rw [h3.isEmpty]⟩)
    | none =>
      rw [hd] at e'
      exact cont rx e'
  | tup _ => exact cont rx e
  | frz _ => exact cont rx e
theorem atI_rep {K : PySem.W.Frag} {H : Hp} {m : List Addr} {xs : List D} {vs : List V} {i : Int} {d : D} (h : RepL K H m xs vs) (e : nth xs i = some d) : ∃ v, atI vs i = some v ∧ RepD K H m d v := by
  unfold nth atI at e
  unfold atI
  rw [h.length] at e
  cases q : ixN vs.length i with
  | none => rw [q] at e; cases e
  | some j =>
    rw [q] at e
    exact h.get e
theorem sub_ok {K : PySem.W.Frag} {H : Hp} {m : List Addr} {S : Sto} {x i d : D} {v u : V} {Q : VK} (st : RSt K H m S) (rx : RepD K H m x v) (ri : RepD K H m i u) (e : subD x i S = .ok d) (q : ∀ w, RepD K H m d w → Q w H) : rIx K v u H Q := by
  cases i with
  | int j =>
    cases rep_int ri
    have cont : ((opt (items S x)).bi fun xs => opt (nth xs j)) = .ok d → rIx K v (.int j) H Q := fun e => by
      obtain ⟨xs, e1, e⟩ := bi_eq_ok e
      obtain ⟨a, vs, rfl, h1, h2⟩ := st.items (opt_eq_ok e1) rx
      obtain ⟨w, h3, h4⟩ := atI_rep h2 (opt_eq_ok e)
      rcases h1 with h1 | h1
      · exact .inl ⟨a, vs, j, w, rfl, rfl, h1, h3, q _ h4⟩
      · exact .inr (.inl ⟨a, vs, j, w, rfl, rfl, h1, h3, q _ h4⟩)
    cases x with
    | str z =>
      cases rep_str rx
      simp only [subD] at e
      obtain ⟨hz, e⟩ := when_ok e
      obtain ⟨c, e1, e⟩ := bi_eq_ok e
      cases ok_inj e
      exact .inr (.inr ⟨z, j, c, rfl, rfl, by rw [sizeM]; exact hz, opt_eq_ok e1, q _ (mk_str _)⟩)
    | _ => exact cont e
  | _ => cases e
def rDIx : R2 := fun x y H Q => ∃ a v, x = .ref a ∧ DGet H a y (some v) ∧ Q v H
theorem ix_dict (hu : X.A.units + 65 < cLine) : IxR X rDIx := by
  intro value slice pins s σ H x y v u Q I rx ry h hs
  obtain ⟨a, z, rfl, g, q⟩ := h
  obtain rfl : v = Value.ref a := rx
  have hT := dict_typeIs I g
  have h₂ : wpAny (model X.prog X.w) X.A (getItem (.ref a) u) (EP X pins σ Q) X.xe s := d_getItem (by omega) I g ry fun w' s3 I3 rw' => ⟨z, H, I3, rw', q⟩
  unfold PyProof.Rows.subscriptTail
  refine wpAny_bind ?_
  rw [getitemInPython_of_ne hT.not_modules]
  refine wpAny_bind (wpAny_specialOf hT PySem.F.slot_dict_getitem.lookup ?_)
  have fin : wpAny (model X.prog X.w) X.A (subscripted slice false (.ref a) u) (fun r s₃ => wpAny (model X.prog X.w) X.A (letTemporaryGo value (.ref a) r >>= fun _ => pure r) (EP X pins σ Q) X.xe s₃) X.xe s := by
    rw [hs]
    exact wpAny_operating (wpAny_mono h₂ (fun r s₃ h₃ => wpAny_bind (wpAny_letTemporaryGo (wpAny_pure h₃))) fun _ _ x => x)
  first
    | exact wpAny_pure (wpAny_bind fin)
    | exact wpAny_bind (wpAny_pure (wpAny_bind fin))
    | exact wpAny_bind fin
theorem subX_ok {K : PySem.W.Frag} {H : Hp} {m : List Addr} {S : Sto} {x i d : D} {v u : V} {Q : VK} (st : RSt K H m S) (rx : RepD K H m x v) (ri : RepD K H m i u) (e : subX x i S = .ok d) (q : ∀ w, RepD K H m d w → Q w H) : rIx K v u H Q ∨ rDIx v u H Q := by
  unfold subX at e
  cases hd : dctO S x with
  | none => rw [hd] at e; exact .inl (sub_ok st rx ri e q)
  | some kvs =>
    rw [hd] at e
    obtain ⟨k, e1, e2⟩ := bi_eq_ok e
    obtain ⟨_, a, ws, rfl, rfl, h1, h2, h3⟩ := st.dct hd rx
    have hk := keyO_rep (opt_eq_ok e1) ri
    subst hk
    have e3 := opt_eq_ok e2
    rcases h3.get k with ⟨g1, g2⟩ | ⟨d', w, g1, g2, g3⟩
    · rw [e3] at g1; cases g1
    · rw [e3] at g1; cases g1
      exact .inr ⟨a, w, rfl, by rw [← g2]; exact dget_of k h2, q _ g3⟩
def rSetD : V → V → V → Hp → (Hp → Prop) → Prop := fun o i v H Q => ∃ a H', o = .ref a ∧ DPut H a i v H' ∧ Q H'
theorem set_dict (hu : X.A.units + 65 < cLine) : PSet X rSetD := by
  intro pins s σ H o i v ov iv u Q I ro ri rv h
  obtain ⟨a, H', rfl, g, q⟩ := h
  obtain rfl : ov = Value.ref a := ro
  exact d_setItem (by omega) I g ri rv fun s' I' => ⟨H', I', q⟩
theorem PSet.or {r r' : V → V → V → Hp → (Hp → Prop) → Prop} (h : PSet X r) (h' : PSet X r') : PSet X fun o i v H Q => r o i v H Q ∨ r' o i v H Q := by
  intro pins s σ H o i v ov iv u Q I ro ri rv q
  rcases q with q | q
  · exact h pins s σ H o i v ov iv u Q I ro ri rv q
  · exact h' pins s σ H o i v ov iv u Q I ro ri rv q
theorem setX_ok {K : PySem.W.Frag} {H : Hp} {m : List Addr} {S S' : Sto} {o i d : D} {vo vi v : V} {Q : Hp → Prop} (st : RSt K H m S) (ro : RepD K H m o vo) (ri : RepD K H m i vi) (rd : RepD K H m d v) (e : setX o i d S = .ok S')
    (q : ∀ H', Up H m H' m → RSt K H' m S' → Q H') : rSetL vo vi v H Q ∨ rSetD vo vi v H Q := by
  unfold setX at e
  cases hd : dctO S o with
  | none =>
    rw [hd] at e
    cases o with
    | loc k =>
      cases i with
      | int nn =>
        simp only at e
        obtain ⟨xs, e4, e⟩ := bi_eq_ok e
        obtain ⟨mm, e5, e⟩ := bi_eq_ok e
        cases ok_inj e
        obtain ⟨k', hk', e6⟩ := isLst_eq (opt_eq_ok e4)
        cases hk'
        obtain ⟨a, vs, rfl, hm, hl, hr⟩ := st.loc e6 ro
        obtain ⟨u4, st4⟩ := st.put hm hl (hr.set rd mm)
        exact .inl ⟨a, vs, nn, mm, rfl, rep_int ri, hl, by rw [← hr.length]; exact opt_eq_ok e5, q _ u4 st4⟩
      | _ => cases e
    | _ => cases e
  | some kvs =>
    rw [hd] at e
    obtain ⟨k, a, ws, rfl, rfl, h1, h2, h3⟩ := st.dct hd ro
    simp only at e
    obtain ⟨y, e1, e⟩ := bi_eq_ok e
    obtain ⟨hz, e⟩ := when_ok e
    cases ok_inj e
    have hk := keyO_rep (opt_eq_ok e1) ri
    subst hk
    obtain ⟨u4, st4⟩ := st.putD h1 h2 (h3.put y rd)
    exact .inr ⟨a, _, rfl, DPut.k h2 (by rw [← h3.length, sizeM]; exact hz), q _ u4 st4⟩
def rSlc (K : PySem.W.Frag) : V → Option Int → Option Int → Hp → VK → Prop := fun x lo hi H Q => rSlA K x lo hi H Q ∨ rSlL K x lo hi H Q
theorem slR_slc : SlR X (rSlc X.K) := SlR.or sl_tupA sl_list
theorem cut_all {α : Type} {xs : List α} {lo hi : Option Int} (h : HT.sIx xs.length 0 lo = 0 ∧ HT.sIx xs.length xs.length hi = xs.length) : cut xs lo hi = xs := by
  unfold Ev.cut
  rw [h.1, h.2]; simp
theorem slc_ok {K : PySem.W.Frag} {H : Hp} {m : List Addr} {S S' : Sto} {x d : D} {v : V} {lo hi : Option Int} {Q : VK} (st : RSt K H m S) (rx : RepD K H m x v) (e : slcD x lo hi S = .ok (d, S'))
    (q : ∀ w H' m', Up H m H' m' → RepD K H' m' d w → RSt K H' m' S' → Q w H') : rSlc K v lo hi H Q := by
  cases x with
  | tup xs =>
    cases ok_inj e
    obtain ⟨a, vs, rfl, h1, h2⟩ := rep_tup rx
    refine .inl ⟨a, vs, rfl, h1, fun z => ?_, fun z p hp => ?_⟩
    · have z' : HT.sIx xs.length 0 lo = 0 ∧ HT.sIx xs.length xs.length hi = xs.length := by rw [h2.length]; exact z
      exact q _ _ _ Up.refl (by rw [cut_all z']; exact rx) st
    · obtain ⟨u1, st1, r1⟩ := st.freshT hp (h2.cut lo hi)
      exact q _ _ _ u1 r1 st1
  | frz xs =>
    cases ok_inj e
    simp only [RepD] at rx
    obtain ⟨a, vs, rfl, h1, h2⟩ := rx
    refine .inr ⟨a, vs, rfl, h1.sq, fun p hp => ?_⟩
    obtain ⟨u1, st1, r1⟩ := st.fresh hp (h2.cut lo hi)
    exact q _ _ _ u1 r1 st1
  | loc k =>
    simp only [slcD] at e
    cases z : S[k]? with
    | none => rw [z] at e; cases e
    | some c =>
      cases c with
      | dct _ => rw [z] at e; cases e
      | lst xs =>
        rw [z] at e
        cases ok_inj e
        obtain ⟨a, vs, rfl, _, h1, h2⟩ := st.loc z rx
        refine .inr ⟨a, vs, rfl, SqL.of h1, fun p hp => ?_⟩
        obtain ⟨u1, st1, r1⟩ := st.fresh hp (h2.cut lo hi)
        exact q _ _ _ u1 r1 st1
  | _ => cases e
theorem ins_perm (x : Int) : ∀ l : List Int, (ins x l).Perm (x :: l)
  | [] => .refl _
  | y :: ys => by
    unfold ins
    split
    · exact .refl _
    · exact ((ins_perm x ys).cons y).trans (.swap x y ys)
theorem isort_perm : ∀ l : List Int, (isort l).Perm l
  | [] => .refl _
  | x :: xs => (ins_perm x (isort xs)).trans ((isort_perm xs).cons x)
theorem ins_sorted (x : Int) : ∀ l : List Int, l.Pairwise (· ≤ ·) → (ins x l).Pairwise (· ≤ ·)
  | [], _ => by simp [ins]
  | y :: ys, h => by
    have h' := List.pairwise_cons.mp h
    unfold ins
    split
    · rename_i hx
      refine List.pairwise_cons.mpr ⟨fun z hz => ?_, h⟩
      rcases List.mem_cons.mp hz with rfl | hz
      · exact hx
      · exact Int.le_trans hx (h'.1 z hz)
    · refine List.pairwise_cons.mpr ⟨fun z hz => ?_, ins_sorted x ys h'.2⟩
      rcases List.mem_cons.mp ((ins_perm x ys).mem_iff.mp hz) with rfl | hz
      · omega
      · exact h'.1 z hz
theorem isort_sorted : ∀ l : List Int, (isort l).Pairwise (· ≤ ·)
  | [] => List.Pairwise.nil
  | x :: xs => ins_sorted x _ (isort_sorted xs)
theorem sorted_unique {a b : List Int} (p : a.Perm b) (ha : a.Pairwise (· ≤ ·)) (hb : b.Pairwise (· ≤ ·)) : a = b :=
  List.Perm.eq_of_pairwise (le := (· ≤ ·)) (fun x y _ _ h1 h2 => Int.le_antisymm h1 h2) ha hb p
theorem intsO_rep {K : PySem.W.Frag} {H : Hp} {m : List Addr} : ∀ {xs : List D} {ns : List Int} {vs : List V}, intsO xs = some ns → RepL K H m xs vs → vs = ns.map V.int
  | [], ns, vs, e, r => by cases e; simp only [RepL] at r; subst r; rfl
  | x :: xs, ns, vs, e, r => by
    obtain ⟨y, ys, h1, h2, rfl⟩ := mapO_cons e
    simp only [RepL] at r
    obtain ⟨v, ws, rfl, h3, h4⟩ := r
    have := intsO_rep h2 h4
    subst this
    cases x with
    | int i => cases h1; cases rep_int h3; rfl
    | _ => cases h1
theorem blsO_rep {K : PySem.W.Frag} {H : Hp} {m : List Addr} : ∀ {xs : List D} {ns : List Bool} {vs : List V}, blsO xs = some ns → RepL K H m xs vs → vs = ns.map V.bl
  | [], ns, vs, e, r => by cases e; simp only [RepL] at r; subst r; rfl
  | x :: xs, ns, vs, e, r => by
    obtain ⟨y, ys, h1, h2, rfl⟩ := mapO_cons e
    simp only [RepL] at r
    obtain ⟨v, ws, rfl, h3, h4⟩ := r
    have := blsO_rep h2 h4
    subst this
    cases x with
    | bl i => cases h1; cases rep_bl h3; rfl
    | _ => cases h1
theorem most_ok {le : Int → Int → Bool} (tr : ∀ a b c, le a b = true → le b c = true → le a c = true) (rf : ∀ a, le a a = true) (tt : ∀ a b, le a b = false → le b a = true) :
    ∀ (ns : List Int) (z : Int), most le ns = some z → 0 < ns.length ∧ z ∈ ns ∧ ∀ y, y ∈ ns → le z y = true
  | [], z, h => by cases h
  | x :: xs, z, h => by
    unfold most at h
    split at h
    · rename_i e
      cases h
      have : xs = [] := by
        cases xs with
        | nil => rfl
        | cons y ys =>
          unfold most at e
          split at e
          · cases e
          · split at e <;> cases e
      subst this
      exact ⟨by simp, by simp, fun y hy => by rw [List.mem_singleton.mp hy]; exact rf _⟩
    · rename_i y e
      obtain ⟨_, h2, h3⟩ := most_ok tr rf tt xs y e
      split at h
      · rename_i hl
        cases h
        refine ⟨by simp, by simp, fun w hw => ?_⟩
        rcases List.mem_cons.mp hw with rfl | hw
        · exact rf _
        · exact tr _ _ _ hl (h3 w hw)
      · rename_i hl
        cases h
        refine ⟨by simp, List.mem_cons_of_mem _ h2, fun w hw => ?_⟩
        rcases List.mem_cons.mp hw with rfl | hw
        · exact tt _ _ (by simpa using hl)
        · exact h3 w hw
def bVal : B → Value
  | .len => .builtin "len" | .abs => .builtin "abs" | .int => .type "int" | .bool => .type "bool" | .str => .type "str" | .repr => .builtin "repr"
  | .tuple => .type "tuple" | .list => .type "list" | .sorted => .builtin "sorted" | .sum => .builtin "sum" | .any => .builtin "any" | .all => .builtin "all"
  | .max => .builtin "max" | .min => .builtin "min" | .dict => .type "dict"
theorem call_repr (hg : X.A.guards = some []) (hu : X.A.units + 65 < cLine) :
    CallR X (.builtin "repr") (fun xs H Q => ∃ x d, xs = [x] ∧ Dp X.K H x d ∧ d.showable = true ∧ d.hasDict = false ∧ d.depth ≤ 60 ∧ d.shown.length ≤ sizeLine ∧ Q (.str d.shown) H) := by
  intro pins s σ H xs us Q I r h
  obtain ⟨x, d, rfl, hd, h1, h2, h3, h4, q⟩ := h
  obtain ⟨u, rfl, ru⟩ := vals1 r
  obtain ⟨as, hr⟩ := Dp.reads I d x u hd ru
  have fin : ∀ {a : Addr}, u = .ref a → wpAny (model X.prog X.w) X.A (call (.builtin "repr") [u]) (EP X pins σ Q) X.xe s := fun {a} e => by
    subst e
    exact repr_of_reads' hr h1 (fun z => by rw [h2] at z; cases z) hg (by omega) (fun _ _ e => e) (fun h' u tk hk => ⟨.str d.shown, H, I.kept hk, ⟨u, rfl⟩, q⟩) h4
  cases hr with
  | none => exact P.repr_of_none ⟨.str PyData.none.shown, H, I.tok _, ⟨s.toks, by first | rfl | (simp only [PyData.shown])⟩, q⟩
  | bool b => exact P.repr_of_bool ⟨.str (PyData.bool b).shown, H, I.tok _, ⟨s.toks, by cases b <;> first | rfl | (simp [PyData.shown])⟩, q⟩
  | int i t =>
    have hi : i.natAbs.log2 < 1920 := by simpa [PyData.showable] using h1
    exact P.repr_of_int hi ⟨.str (PyData.int i).shown, H, I.tok _, ⟨s.toks, by first | rfl | (simp only [PyData.shown])⟩, q⟩
  | str y t =>
    have hz : (reprText y).length ≤ sizeLine := by simpa only [PyData.shown] using h4
    exact P.repr_of_str ⟨.str (PyData.str y).shown, H, I.tok _, ⟨s.toks, by first | rfl | (simp only [PyData.shown])⟩, q⟩ hz
  | list _ _ _ _ => exact fin rfl
  | tuple _ _ _ _ => exact fin rfl
  | dict _ _ _ _ _ => exact fin rfl
def rDictP (K : PySem.W.Frag) : List V → Hp → VK → Prop := fun xs H Q => ∃ (a : Addr) (ps : List Addr) (kvs : List (Key × V)), xs = [.ref a] ∧ SqL K H a (ps.map V.ref) ∧ Paired (fun p kv => SqT K H p [kV kv.1, kv.2]) ps kvs ∧
    ∀ p, H p = none → Q (.ref p) (upd H p (.dK (mergeK [] kvs)))
def rDictC : List V → Hp → VK → Prop := fun xs H Q => ∃ (a : Addr) (kvs : List (Key × V)), xs = [.ref a] ∧ H a = some (.dK kvs) ∧ ∀ p, H p = none → Q (.ref p) (upd H p (.dK kvs))
theorem call_dictC : CallR X (.type "dict") rDictC := by
  intro pins s σ H xs us Q I r h
  obtain ⟨a, kvs, rfl, h1, q⟩ := h
  obtain ⟨u, rfl, ru⟩ := vals1 r
  obtain rfl : u = Value.ref a := ru
  exact d_copyOf I (.inl h1) fun p s' hp I' => ⟨.ref p, _, I', rfl, q p hp⟩
theorem pairs_rep {K : PySem.W.Frag} {H : Hp} {m : List Addr} : ∀ {xs : List D} {kvs : List (Ky × D)} {vs : List V}, mapO pairO xs = some kvs → RepL K H m xs vs →
    ∃ (ps : List Addr) (ws : List (Key × V)), vs = ps.map V.ref ∧ Paired (fun p kv => SqT K H p [kV kv.1, kv.2]) ps ws ∧ RepK K H m kvs ws
  | [], kvs, vs, e, r => by cases e; simp only [RepL] at r; subst r; exact ⟨[], [], rfl, .nil, .nil⟩
  | x :: xs, kvs, vs, e, r => by
    obtain ⟨y, ys, h1, h2, rfl⟩ := mapO_cons e
    simp only [RepL] at r
    obtain ⟨v, ws, rfl, h3, h4⟩ := r
    obtain ⟨ps, wk, rfl, k2, k3⟩ := pairs_rep h2 h4
    unfold pairO at h1
    split at h1
    · obtain ⟨k, e1, rfl⟩ := Option.map_eq_some_iff.mp h1
      obtain ⟨a, us, rfl, g1, g2⟩ := rep_tup h3
      simp only [RepL] at g2
      obtain ⟨v1, _, rfl, g3, v2, _, rfl, g4, rfl⟩ := g2
      have hk := keyO_rep e1 g3
      subst hk
      exact ⟨a :: ps, (k, v2) :: wk, rfl, .cons g1 k2, .cons g4 k3⟩
    · cases h1
def rB (K : PySem.W.Frag) (b : B) : List V → Hp → VK → Prop := match b with
  | .len => fun xs H Q => ∃ x n, xs = [x] ∧ LenV K x H n ∧ Q (.int n) H
  | .abs => fun xs H Q => ∃ i, xs = [.int i] ∧ Q (.int (if i < 0 then -i else i)) H
  | .int => fun xs H Q => (∃ i, xs = [.int i] ∧ Q (.int i) H) ∨ ∃ k, xs = [.bl k] ∧ Q (.int (if k then 1 else 0)) H
  | .bool => fun xs H Q => (∃ i, xs = [.int i] ∧ Q (.bl (i != 0)) H) ∨ ∃ k, xs = [.bl k] ∧ Q (.bl k) H
  | .str => fun xs H Q => ∃ i, xs = [.int i] ∧ i.natAbs.log2 < 1920 ∧ Q (.str (toString i)) H
  | .repr => fun xs H Q => (∃ x d, xs = [x] ∧ Dp K H x d ∧ d.showable = true ∧ d.hasDict = false ∧ d.depth ≤ 60 ∧ d.shown.length ≤ sizeLine ∧ Q (.str d.shown) H) ∨ OddT.rReprQ K xs H Q
  | .tuple => fun xs H Q => ∃ p ys, xs = [.ref p] ∧ ((SqL K H p ys ∧ ∀ l, H l = none → Q (.ref l) (upd H l (.tup ys))) ∨ (SqT K H p ys ∧ Q (.ref p) H))
  | .list => fun xs H Q => (∃ p ys, xs = [.ref p] ∧ (SqL K H p ys ∨ SqT K H p ys) ∧ ∀ l, H l = none → Q (.ref l) (upd H l (.lst ys))) ∨ ∃ (a : Addr) (kvs : List (Key × V)), xs = [.ref a] ∧ Rd H a (.dK kvs) ∧ ∀ p, H p = none → Q (.ref p) (upd H p (.lst (kvs.map fun kv => kV kv.1)))
  | .sorted => fun xs H Q => rSortedI K xs H Q ∨ rSortedIT K xs H Q ∨ rSortedD K xs H Q
  | .sum => fun vs H Q => rSum K vs H Q ∨ SumB.rSumB K vs H Q
  | .any => rAny K
  | .all => rAll K
  | .max => fun xs H Q => (∃ i j, xs = [.int i, .int j] ∧ Q (.int (if j > i then j else i)) H) ∨ rMax K xs H Q ∨ MaxT.rMaxT K xs H Q
  | .min => fun xs H Q => (∃ i j, xs = [.int i, .int j] ∧ Q (.int (if j < i then j else i)) H) ∨ rMin K xs H Q
  | .dict => fun xs H Q => rDictP K xs H Q ∨ rDictC xs H Q
theorem callR_b (hc : X.calm = true) (hg : X.A.guards = some []) (hu : X.A.units + 65 < cLine) (b : B) : CallR X (bVal b) (rB X.K b) := by
  cases b with
  | len => exact call_len
  | abs => exact call_abs
  | int => exact call_int1
  | bool => exact call_bool1
  | str => exact call_str_int
  | repr => exact CallR.or (call_repr hg hu) (OddT.call_reprQ hg hu)
  | tuple => exact call_tuple_of
  | list => exact CallR.or call_list_of (call_listD hc)
  | sorted => exact CallR.or cr_sortedI (CallR.or cr_sortedIT (cr_sortedD hu))
  | sum => exact CallR.or (cr_sum hc) (SumB.cr_sumB hc)
  | any => exact cr_any hc
  | all => exact cr_all hc
  | max => exact CallR.or (call_max2 hc) (CallR.or (cr_max hc) (MaxT.cr_maxT hc hu))
  | min => exact CallR.or (call_min2 hc) (cr_min hc)
  | dict => exact CallR.or (call_dictP hc) call_dictC
theorem zip_left {α β γ : Type} : ∀ {xs : List α} {ws : List β} {ps : List γ}, xs.length = ws.length → xs.length = ps.length → ((xs.zip ws).zip ps).map (fun t => (t.1.1, t.2)) = xs.zip ps ∧ ((xs.zip ws).zip ps).map (fun t => (t.1.2, t.2)) = ws.zip ps
  | [], [], [], _, _ => ⟨rfl, rfl⟩
  | x :: xs, w :: ws, p :: ps, h1, h2 => by
    obtain ⟨a, b⟩ := zip_left (xs := xs) (ws := ws) (ps := ps) (by simpa using h1) (by simpa using h2)
    simp only [List.zip_cons_cons, List.map_cons, a, b, and_self]
theorem repL_pairs {K : PySem.W.Frag} {H : Hp} {m : List Addr} {γ : Type} : ∀ {T : List ((D × V) × γ)}, (∀ t, t ∈ T → RepD K H m t.1.1 t.1.2) → RepL K H m (T.map fun t => t.1.1) (T.map fun t => t.1.2)
  | [], _ => by simp only [List.map_nil, RepL]
  | t :: T, h => by
    simp only [List.map_cons, RepL]
    exact ⟨_, _, rfl, h t (List.mem_cons_self ..), repL_pairs fun x hx => h x (List.mem_cons_of_mem _ hx)⟩
theorem repL_zip {K : PySem.W.Frag} {H : Hp} {m : List Addr} : ∀ {xs : List D} {ws : List V}, RepL K H m xs ws → ∀ t, t ∈ xs.zip ws → RepD K H m t.1 t.2
  | [], _, _, t, ht => by simp at ht
  | x :: xs, ws, r, t, ht => by
    simp only [RepL] at r
    obtain ⟨v, r', rfl, h1, h2⟩ := r
    rw [List.zip_cons_cons] at ht
    rcases List.mem_cons.mp ht with rfl | ht
    · exact h1
    · exact repL_zip h2 t ht
theorem srt_facts {K : PySem.W.Frag} {H : Hp} {m : List Addr} {S : Sto} {xs ys : List D} {ws : List V} (st : RSt K H m S) (e : srtO S xs = some ys) (r : RepL K H m xs ws) :
    ∃ ds, DpAll K H ws ds ∧ PySem.W.AllAlike ds ∧ PySem.W.Sortable ds ∧ (∀ d, d ∈ ds → d.depth ≤ 60) ∧ RepL K H m ys ((ordered (ws.zip ds)).map Prod.fst) := by
  unfold srtO at e
  cases hp : mapO (toPy 60 S) xs with
  | none => rw [hp] at e; cases e
  | some ps =>
    rw [hp] at e
    simp only [Option.bind_some] at e
    split at e
    · rename_i hc
      cases e
      have hm := mapO_all (toPy_ok (S := S) 60) xs ps hp
      have hd := dpAll (fun d p v h r => dp_of st 60 d p v h r) xs ps ws hp r
      have l1 : xs.length = ws.length := r.length
      have l2 := dpall_len hd
      obtain ⟨z1, z2⟩ := zip_left (xs := xs) (ws := ws) (ps := ps) l1 (by omega)
      refine ⟨ps, hd, fun d hd' d' hd2 => List.all_eq_true.mp (List.all_eq_true.mp hc.1 d hd') d' hd2, .inl fun d hd' => ?_, fun d hd' => (hm d hd').2.1, ?_⟩
      · have := List.all_eq_true.mp hc.2 d hd'
        unfold tupB at this
        split at this
        · exact ⟨_, _, rfl⟩
        · cases this
      · unfold ordered
        have m1 : (((xs.zip ws).zip ps).mergeSort (PySem.W.dataLe false Prod.snd)).map (fun t => (t.1.1, t.2)) = (((xs.zip ws).zip ps).map fun t => (t.1.1, t.2)).mergeSort (PySem.W.dataLe false Prod.snd) := List.map_mergeSort fun a _ b _ => rfl
        have m2 : (((xs.zip ws).zip ps).mergeSort (PySem.W.dataLe false Prod.snd)).map (fun t => (t.1.2, t.2)) = (((xs.zip ws).zip ps).map fun t => (t.1.2, t.2)).mergeSort (PySem.W.dataLe false Prod.snd) := List.map_mergeSort fun a _ b _ => rfl
        rw [← z1, ← z2, ← m1, ← m2, List.map_map, List.map_map]
        refine repL_pairs fun t ht => ?_
        have ht := (List.mergeSort_perm _ _).subset ht
        exact repL_zip r _ (List.of_mem_zip ht).1
    · cases e
theorem repL_keys {K : PySem.W.Frag} {H : Hp} {m : List Addr} : ∀ {kvs : List (Ky × D)} {ws : List (Key × V)}, RepK K H m kvs ws → RepL K H m (kvs.map fun kv => kyD kv.1) (ws.map fun kv => kV kv.1)
  | [], ws, h => by
    simp only [RepK] at h; subst h
    simp only [List.map_nil, RepL]
  | p :: ps, ws, h => by
    simp only [RepK] at h
    obtain ⟨v, r, rfl, _, h3⟩ := h
    simp only [List.map_cons, RepL]
    refine ⟨_, _, rfl, ?_, repL_keys h3⟩
    cases p.1 with
    | inl i => exact mk_int i
    | inr y => exact mk_str y
theorem b_ok {K : PySem.W.Frag} {H : Hp} {m : List Addr} {S S' : Sto} {b : B} {es : List D} {d : D} {vs : List V} {Q : VK} (st : RSt K H m S) (rx : RepL K H m es vs) (e : bltD b es S = .ok (d, S'))
    (q : ∀ w H' m', Up H m H' m' → RepD K H' m' d w → RSt K H' m' S' → Q w H') : rB K b vs H Q := by
  unfold bltD at e
  split at e
  · obtain ⟨hz, e⟩ := when_ok e
    cases ok_inj e
    simp only [RepL] at rx; obtain ⟨v, _, rfl, h1, rfl⟩ := rx
    cases rep_str h1
    exact ⟨_, _, rfl, ⟨by rw [sizeM]; exact hz, rfl⟩, q _ _ _ Up.refl (mk_int _) st⟩
  · obtain ⟨xs, e1, e⟩ := bi_eq_ok e
    cases ok_inj e
    simp only [RepL] at rx; obtain ⟨v, _, rfl, h1, rfl⟩ := rx
    obtain ⟨a, vs, rfl, h2, h3⟩ := st.items (opt_eq_ok e1) h1
    refine ⟨_, vs.length, rfl, ?_, by rw [← h3.length]; exact q _ _ _ Up.refl (mk_int _) st⟩
    rcases h2 with h2 | h2
    · exact .inl ⟨vs, h2, rfl⟩
    · exact .inr ⟨vs, h2, rfl⟩
  · cases ok_inj e
    simp only [RepL] at rx; obtain ⟨v, _, rfl, h1, rfl⟩ := rx
    cases rep_int h1
    exact ⟨_, rfl, q _ _ _ Up.refl (mk_int _) st⟩
  · cases ok_inj e
    simp only [RepL] at rx; obtain ⟨v, _, rfl, h1, rfl⟩ := rx
    cases rep_int h1
    exact .inl ⟨_, rfl, q _ _ _ Up.refl (mk_int _) st⟩
  · cases ok_inj e
    simp only [RepL] at rx; obtain ⟨v, _, rfl, h1, rfl⟩ := rx
    cases rep_bl h1
    exact .inr ⟨_, rfl, q _ _ _ Up.refl (mk_int _) st⟩
  · cases ok_inj e
    simp only [RepL] at rx; obtain ⟨v, _, rfl, h1, rfl⟩ := rx
    cases rep_int h1
    exact .inl ⟨_, rfl, q _ _ _ Up.refl (mk_bl _) st⟩
  · cases ok_inj e
    simp only [RepL] at rx; obtain ⟨v, _, rfl, h1, rfl⟩ := rx
    cases rep_bl h1
    exact .inr ⟨_, rfl, q _ _ _ Up.refl (mk_bl _) st⟩
  · obtain ⟨hz, e⟩ := when_ok e
    cases ok_inj e
    simp only [RepL] at rx; obtain ⟨v, _, rfl, h1, rfl⟩ := rx
    cases rep_int h1
    exact ⟨_, rfl, hz, q _ _ _ Up.refl (mk_str _) st⟩
  · obtain ⟨x, e1, e⟩ := bi_eq_ok e
    cases ok_inj e
    simp only [RepL] at rx; obtain ⟨v, _, rfl, h1, rfl⟩ := rx
    unfold reprD at e1
    split at e1
    · rename_i p e2
      obtain ⟨⟨hs, hz⟩, e1⟩ := when_ok e1
      cases ok_inj e1
      obtain ⟨k1, k2, k3⟩ := toPy_ok _ _ _ e2
      exact .inl ⟨_, p, rfl, dp_of st _ _ _ _ e2 h1, hs, k3, k2, by rw [sizeM]; exact Nat.le_trans (shown_rl p k1) hz, q _ _ _ Up.refl (mk_str _) st⟩
    · rename_i e0
      obtain ⟨p, e2, e1⟩ := bi_eq_ok e1
      obtain ⟨⟨hs, hz⟩, e1⟩ := when_ok e1
      cases ok_inj e1
      have e2 := opt_eq_ok e2
      obtain ⟨k1, k2⟩ := toPyQ_ok _ _ _ e2
      obtain ⟨a, rfl⟩ := ref_of_Q e0 e2 h1
      exact .inr ⟨a, p, rfl, dq_of st _ _ _ _ e2 h1, hs, k2, by rw [sizeM]; exact Nat.le_trans (shown_rlQ p k1) hz, q _ _ _ Up.refl (mk_str _) st⟩
  · obtain ⟨xs, e1, e⟩ := bi_eq_ok e
    cases ok_inj e
    simp only [RepL] at rx; obtain ⟨v, _, rfl, h1, rfl⟩ := rx
    obtain ⟨a, vs, rfl, h2, h3⟩ := st.items (opt_eq_ok e1) h1
    refine ⟨a, vs, rfl, ?_⟩
    rcases h2 with h2 | h2
    · refine .inl ⟨h2, fun l hl => ?_⟩
      obtain ⟨u1, st1, r1⟩ := st.freshT hl h3
      exact q _ _ _ u1 r1 st1
    · exact .inr ⟨h2, q _ _ _ Up.refl (mk_tup h2 h3) st⟩
  · simp only [RepL] at rx; obtain ⟨v, _, rfl, h1, rfl⟩ := rx
    split at e
    · rename_i kvs hd
      cases ok_inj e
      obtain ⟨_, a, ws, rfl, rfl, k1, k2, k3⟩ := st.dct hd h1
      refine .inr ⟨a, ws, rfl, Rd.of k2, fun l hl => ?_⟩
      obtain ⟨u1, st1, r1⟩ := st.fresh hl (repL_keys k3)
      exact q _ _ _ u1 r1 st1
    · obtain ⟨xs, e1, e⟩ := bi_eq_ok e
      cases ok_inj e
      obtain ⟨a, vs, rfl, h2, h3⟩ := st.items (opt_eq_ok e1) h1
      refine .inl ⟨a, vs, rfl, h2, fun l hl => ?_⟩
      obtain ⟨u1, st1, r1⟩ := st.fresh hl h3
      exact q _ _ _ u1 r1 st1
  · obtain ⟨xs, e1, e⟩ := bi_eq_ok e
    simp only [RepL] at rx; obtain ⟨v, _, rfl, h1, rfl⟩ := rx
    obtain ⟨a, vs, rfl, h2, h3⟩ := st.items (opt_eq_ok e1) h1
    unfold sorD at e
    split at e
    · rename_i ns e2
      cases ok_inj e
      have := intsO_rep e2 h3
      subst this
      have fin : ∀ (ns' : List Int) (p : Addr), ns'.Perm ns → ns'.Pairwise (· ≤ ·) → H p = none → Q (.ref p) (upd H p (.lst (ns'.map V.int))) := fun ns' p hp hs hn => by
        have := sorted_unique (hp.trans (isort_perm ns).symm) hs (isort_sorted ns)
        subst this
        obtain ⟨u1, st1, r1⟩ := st.fresh hn (RepL.ints (isort ns))
        exact q _ _ _ u1 r1 st1
      rcases h2 with h2 | h2
      · exact .inl ⟨a, ns, rfl, h2, fin⟩
      · exact .inr (.inl ⟨a, ns, rfl, h2, fin⟩)
    · split at e
      · rename_i k e00
        obtain ⟨ys, e3, e⟩ := bi_eq_ok e
        cases ok_inj e
        have e1' : S[k]? = some (.lst xs) := by
          have z := opt_eq_ok e1
          unfold Ev.items at z
          simp only at z
          split at z
          · rename_i h; rw [h]; cases z; rfl
          · cases z
        obtain ⟨a', ws, z1, _, z2, z3⟩ := st.loc e1' h1
        cases z1
        obtain ⟨ds, f1, f2, f3, f4, f5⟩ := srt_facts st (opt_eq_ok e3) z3
        exact .inr (.inr ⟨a, ws, ds, rfl, SqL.of z2, f1, f2, f3, f4, fun p hp => by
          obtain ⟨u1, st1, r1⟩ := st.fresh hp f5
          exact q _ _ _ u1 r1 st1⟩)
      · cases e
  · obtain ⟨xs, e1, e⟩ := bi_eq_ok e
    obtain ⟨ns, e2, e⟩ := bi_eq_ok e
    cases ok_inj e
    simp only [RepL] at rx; obtain ⟨v, _, rfl, h1, rfl⟩ := rx
    obtain ⟨a, vs, rfl, h2, h3⟩ := st.lst (opt_eq_ok e1) h1
    have e3 := opt_eq_ok e2
    unfold sumO at e3
    split at e3
    · rename_i ms hms
      cases e3
      have := intsO_rep hms h3
      subst this
      exact .inl ⟨a, ms, rfl, SqL.of h2, q _ _ _ Up.refl (mk_int _) st⟩
    · obtain ⟨bs, hbs, rfl⟩ := Option.map_eq_some_iff.mp e3
      have := blsO_rep hbs h3
      subst this
      exact .inr ⟨a, bs, rfl, SqL.of h2, q _ _ _ Up.refl (mk_int _) st⟩
  · obtain ⟨xs, e1, e⟩ := bi_eq_ok e
    obtain ⟨bs, e2, e⟩ := bi_eq_ok e
    cases ok_inj e
    simp only [RepL] at rx; obtain ⟨v, _, rfl, h1, rfl⟩ := rx
    obtain ⟨a, vs, rfl, h2, h3⟩ := st.lst (opt_eq_ok e1) h1
    have := blsO_rep (opt_eq_ok e2) h3
    subst this
    exact ⟨a, bs, rfl, SqL.of h2, q _ _ _ Up.refl (mk_bl _) st⟩
  · obtain ⟨xs, e1, e⟩ := bi_eq_ok e
    obtain ⟨bs, e2, e⟩ := bi_eq_ok e
    cases ok_inj e
    simp only [RepL] at rx; obtain ⟨v, _, rfl, h1, rfl⟩ := rx
    obtain ⟨a, vs, rfl, h2, h3⟩ := st.lst (opt_eq_ok e1) h1
    have := blsO_rep (opt_eq_ok e2) h3
    subst this
    exact ⟨a, bs, rfl, SqL.of h2, q _ _ _ Up.refl (mk_bl _) st⟩
  · cases ok_inj e
    simp only [RepL] at rx; obtain ⟨v, _, rfl, h1, v2, _, rfl, h2, rfl⟩ := rx
    cases rep_int h1; cases rep_int h2
    exact .inl ⟨_, _, rfl, q _ _ _ Up.refl (mk_int _) st⟩
  · obtain ⟨xs, e1, e⟩ := bi_eq_ok e
    obtain ⟨ns, e2, e⟩ := bi_eq_ok e
    obtain ⟨z, e3, e⟩ := bi_eq_ok e
    cases ok_inj e
    simp only [RepL] at rx; obtain ⟨v, _, rfl, h1, rfl⟩ := rx
    obtain ⟨k1, k2, k3⟩ := most_ok (le := fun a b => decide (b ≤ a)) (fun a b c => by simp; omega) (fun a => by simp) (fun a b => by simp; omega) _ _ (opt_eq_ok e3)
    have top : ∀ m, m ∈ ns → (∀ y, y ∈ ns → y ≤ m) → Q (.int m) H := fun m hm hy => by
      have e4 : m = z := by
        have h4 := hy z k2
        have h5 := k3 m hm
        simp at h5
        omega
      rw [e4]
      exact q _ _ _ Up.refl (mk_int _) st
    have e1 := opt_eq_ok e1
    unfold lstTup at e1
    split at e1
    · cases e1
      obtain ⟨a, vs, rfl, h2, h3⟩ := rep_tup h1
      have := intsO_rep (opt_eq_ok e2) h3
      subst this
      exact .inr (.inr ⟨a, ns, rfl, h2, k1, top⟩)
    · obtain ⟨a, vs, rfl, h2, h3⟩ := st.lst e1 h1
      have := intsO_rep (opt_eq_ok e2) h3
      subst this
      exact .inr (.inl ⟨a, ns, rfl, SqL.of h2, k1, top⟩)
  · cases ok_inj e
    simp only [RepL] at rx; obtain ⟨v, _, rfl, h1, v2, _, rfl, h2, rfl⟩ := rx
    cases rep_int h1; cases rep_int h2
    exact .inl ⟨_, _, rfl, q _ _ _ Up.refl (mk_int _) st⟩
  · obtain ⟨xs, e1, e⟩ := bi_eq_ok e
    obtain ⟨ns, e2, e⟩ := bi_eq_ok e
    obtain ⟨z, e3, e⟩ := bi_eq_ok e
    cases ok_inj e
    simp only [RepL] at rx; obtain ⟨v, _, rfl, h1, rfl⟩ := rx
    obtain ⟨a, vs, rfl, h2, h3⟩ := st.lst (opt_eq_ok e1) h1
    have := intsO_rep (opt_eq_ok e2) h3
    subst this
    obtain ⟨k1, k2, k3⟩ := most_ok (le := fun a b => decide (a ≤ b)) (fun a b c => by simp; omega) (fun a => by simp) (fun a b => by simp; omega) _ _ (opt_eq_ok e3)
    refine .inr ⟨a, ns, rfl, SqL.of h2, k1, fun m hm hy => ?_⟩
    have e4 : m = z := by
      have h4 := hy z k2
      have h5 := k3 m hm
      simp at h5
      omega
    rw [e4]
    exact q _ _ _ Up.refl (mk_int _) st
  · simp only [RepL] at rx; obtain ⟨v, _, rfl, h1, rfl⟩ := rx
    split at e
    · rename_i kvs hd
      cases ok_inj e
      obtain ⟨_, a, ws, rfl, rfl, k1, k2, k3⟩ := st.dct hd h1
      refine .inr ⟨a, ws, rfl, k2, fun p hp => ?_⟩
      obtain ⟨u1, st1, r1⟩ := st.freshD hp k3
      exact q _ _ _ u1 r1 st1
    · obtain ⟨xs, e1, e⟩ := bi_eq_ok e
      obtain ⟨kvs, e2, e⟩ := bi_eq_ok e
      cases ok_inj e
      obtain ⟨a, vs, rfl, h2, h3⟩ := st.lst (opt_eq_ok e1) h1
      obtain ⟨ps, ws, rfl, k2, k3⟩ := pairs_rep (opt_eq_ok e2) h3
      refine .inl ⟨a, ps, ws, rfl, SqL.of h2, k2, fun p hp => ?_⟩
      obtain ⟨u1, st1, r1⟩ := st.freshD hp (k3.merge .nil)
      exact q _ _ _ u1 r1 st1
  · cases e
def tyS : Ty → String
  | .int => "int" | .bool => "bool" | .str => "str" | .tuple => "tuple" | .list => "list"
theorem isi_ok {K : PySem.W.Frag} {H : Hp} {m : List Addr} {S : Sto} {t : Ty} {x : D} {v : V} {b : Bool} {Q : VK} (st : RSt K H m S) (rx : RepD K H m x v) (e : isiD t x S = .ok b) (q : Q (.bl b) H) : rIsi K [v, .ty (tyS t)] H Q := by
  have mk : ∀ {w : V} {T : String}, TyX K H w (.type T) → PySem.W.kitOne K (.type T) (.type (tyS t)) = some b → rIsi K [w, .ty (tyS t)] H Q := fun ty h => ⟨_, _, _, _, b, rfl, .ty _, ty, h, q⟩
  cases x with
  | non => simp only [RepD] at rx; subst rx; refine mk (.base .non) ?_; cases ok_inj e; cases t <;> exact kit_ty (by decide +kernel)
  | bl k => cases rep_bl rx; refine mk (.base (.bl _)) ?_; cases ok_inj e; cases t <;> exact kit_ty (by decide +kernel)
  | int i => cases rep_int rx; refine mk (.base (.int _)) ?_; cases ok_inj e; cases t <;> exact kit_ty (by decide +kernel)
  | str y => cases rep_str rx; refine mk (.base (.str _)) ?_; cases ok_inj e; cases t <;> exact kit_ty (by decide +kernel)
  | tup xs =>
    obtain ⟨a, vs, rfl, h1, h2⟩ := rep_tup rx
    have ty : TyX K H (.ref a) (.type "tuple") := by
      rcases h1 with (h1 | ⟨o, h1⟩) | ⟨o, its, n, h1, h3, _⟩
      · exact .base (.tup h1)
      · exact .fTuple h1
      · exact .kTuple h1 h3
    refine mk ty ?_; cases ok_inj e; cases t <;> exact kit_ty (by decide +kernel)
  | frz xs =>
    simp only [RepD] at rx
    obtain ⟨a, vs, rfl, h1, h2⟩ := rx
    have ty : TyX K H (.ref a) (.type "list") := by
      rcases h1.sq with (h1 | ⟨o, h1⟩) | ⟨o, its, n, h1, h3, _⟩
      · exact .base (.lst h1)
      · exact .base (.frz h1)
      · exact .kList h1 h3
    refine mk ty ?_; cases ok_inj e; cases t <;> exact kit_ty (by decide +kernel)
  | loc k =>
    unfold isiD at e
    simp only at e
    split at e
    · rename_i kvs hd
      obtain ⟨k', a, ws, _, rfl, _, k1, _⟩ := st.dct hd rx
      refine mk (.base (.dK k1)) ?_; cases ok_inj e; cases t <;> exact kit_ty (by decide +kernel)
    obtain ⟨xs, e1, e⟩ := bi_eq_ok e
    obtain ⟨a, vs, rfl, h1, h2⟩ := st.lst (opt_eq_ok e1) rx
    refine mk (.base (.lst h1)) ?_; cases ok_inj e; cases t <;> exact kit_ty (by decide +kernel)
theorem RepL.reverse {K : PySem.W.Frag} {H : Hp} {m : List Addr} : ∀ {ds : List D} {vs : List V}, RepL K H m ds vs → RepL K H m ds.reverse vs.reverse
  | [], vs, h => by simp only [RepL] at h; subst h; exact .nil
  | d :: ds, vs, h => by
    simp only [RepL] at h
    obtain ⟨v, r, rfl, h2, h3⟩ := h
    rw [List.reverse_cons, List.reverse_cons]
    exact (RepL.reverse h3).append (RepL.one h2)
theorem rev_ok {K : PySem.W.Frag} {H : Hp} {m : List Addr} {S S' : Sto} {x d : D} {v : V} {Q : VK} (st : RSt K H m S) (rx : RepD K H m x v) (e : revD x S = .ok (d, S'))
    (q : ∀ w H' m', Up H m H' m' → RepD K H' m' d w → RSt K H' m' S' → Q w H') :
    ∃ a xs, v = .ref a ∧ ((SqL K H a xs ∧ ∀ p, H p = none → Q (.ref p) (upd H p (.lst xs.reverse))) ∨ (SqT K H a xs ∧ ∀ p, H p = none → Q (.ref p) (upd H p (.tup xs.reverse)))) := by
  have cont : ∀ {x : D}, RepD K H m x v → ((opt (isLst S x)).bi fun xs => R.ok (D.loc S.length, S ++ [Cell.lst xs.reverse])) = .ok (d, S') →
      ∃ a xs, v = .ref a ∧ ((SqL K H a xs ∧ ∀ p, H p = none → Q (.ref p) (upd H p (.lst xs.reverse))) ∨ (SqT K H a xs ∧ ∀ p, H p = none → Q (.ref p) (upd H p (.tup xs.reverse)))) := fun {x} rx e => by
    obtain ⟨xs, e1, e⟩ := bi_eq_ok e
    cases ok_inj e
    obtain ⟨a, vs, rfl, h1, h2⟩ := st.lst (opt_eq_ok e1) rx
    refine ⟨a, vs, rfl, .inl ⟨SqL.of h1, fun p hp => ?_⟩⟩
    obtain ⟨u1, st1, r1⟩ := st.fresh hp h2.reverse
    exact q _ _ _ u1 r1 st1
  cases x with
  | tup xs =>
    cases ok_inj e
    obtain ⟨a, vs, rfl, h1, h2⟩ := rep_tup rx
    refine ⟨a, vs, rfl, .inr ⟨h1, fun p hp => ?_⟩⟩
    obtain ⟨u1, st1, r1⟩ := st.freshT hp h2.reverse
    exact q _ _ _ u1 r1 st1
  | frz xs =>
    cases ok_inj e
    simp only [RepD] at rx
    obtain ⟨a, vs, rfl, h1, h2⟩ := rx
    refine ⟨a, vs, rfl, .inl ⟨h1.sq, fun p hp => ?_⟩⟩
    obtain ⟨u1, st1, r1⟩ := st.fresh hp h2.reverse
    exact q _ _ _ u1 r1 st1
  | loc k => exact cont rx e
  | non => exact cont rx e
  | bl _ => exact cont rx e
  | int _ => exact cont rx e
  | str _ => exact cont rx e
def dId : DM → String
  | .get => "dict.get" | .update => "dict.update"
def rDM (m : DM) : V → List V → Hp → VK → Prop := match m with
  | .get => fun x vs H Q => ∃ a y o d, x = .ref a ∧ (vs = [y] ∧ d = .non ∨ vs = [y, d]) ∧ DGet H a y o ∧ Q (o.getD d) H
  | .update => fun x vs H Q => ∃ a b ws us, x = .ref a ∧ vs = [.ref b] ∧ a ≠ b ∧ H a = some (.dK ws) ∧ H b = some (.dK us) ∧ ws.length + us.length ≤ sizeLine ∧ Q .non (upd H a (.dK (mergeK ws us)))
theorem mtR_d (hu : X.A.units + 65 < cLine) (m : DM) : MtR X (dId m) (rDM m) := by
  cases m with
  | get =>
    intro pins s σ H x vs v us Q I rx rv h
    obtain ⟨a, y, o, d, rfl, hv, g, q⟩ := h
    obtain rfl : v = Value.ref a := rx
    rcases hv with ⟨rfl, rfl⟩ | rfl
    · obtain ⟨u, rfl, ru⟩ := vals1 rv
      exact d_get1 (by omega) I g ru fun w' s' I' rw' => ⟨_, H, I', rw', q⟩
    · obtain ⟨u, z, rfl, ru, rz⟩ := vals2 rv
      exact d_get2 (by omega) I g ru rz fun w' s' I' rw' => ⟨_, H, I', rw', q⟩
  | update =>
    intro pins s σ H x vs v us Q I rx rv h
    obtain ⟨a, b, ws, us', rfl, rfl, hab, h1, h2, hz, q⟩ := h
    obtain rfl : v = Value.ref a := rx
    obtain ⟨u, rfl, ru⟩ := vals1 rv
    obtain rfl : u = Value.ref b := ru
    obtain ⟨z1, hd1, vs1, rel1, dd1⟩ := dk_of I.hok h1
    obtain ⟨z2, hd2, vs2, rel2, dd2⟩ := dk_of I.hok h2
    refine call_meetsIn PySem.F.slot_dict_update dd1.typeIs PySem.F.entry_dict_update (PySem.F.args_dict_update_2 _ _) (meets_dict_update (mixKind X.prog X.w) a b hab hd2)
      ⟨vs1, vs2, dd1, dd2, by rw [← rel1.length, ← rel2.length]; exact hz, fun h' k1 k2 k3 => ?_⟩
    refine ⟨.non, _, d_write (t' := s.toks) I (by rw [h1]; trivial) k3 (let ⟨o, _, _, ho, _⟩ := k1; ⟨o, ho⟩) (dk_new (by have := length_mergeK us' ws; omega) hd1 (KV.merge rel2 rel1) k1), rfl, q⟩
theorem dmt_ok {K : PySem.W.Frag} {H : Hp} {mu : List Addr} {S S' : Sto} {m : DM} {o : D} {es : List D} {d : D} {v : V} {vs : List V} {Q : VK} (st : RSt K H mu S) (ro : RepD K H mu o v) (rx : RepL K H mu es vs) (e : dmtD m o es S = .ok (d, S'))
    (q : ∀ w H' m', Up H mu H' m' → RepD K H' m' d w → RSt K H' m' S' → Q w H') : rDM m v vs H Q := by
  cases o with
  | loc n =>
    simp only [dmtD] at e
    obtain ⟨kvs, e1, e⟩ := bi_eq_ok e
    obtain ⟨k', a, ws, hk', rfl, hk, h1, h2⟩ := st.dct (opt_eq_ok e1) ro
    cases hk'
    have get : ∀ {k x : D} {y : Ky} {vk vx : V}, keyO k = some y → RepD K H mu k vk → RepD K H mu x vx → RepD K H mu ((kvGet kvs y).getD x) ((valV ws y).getD vx) ∧ vk = kV y := fun {k x y vk vx} ek rk rx => by
      refine ⟨?_, keyO_rep ek rk⟩
      rcases h2.get y with ⟨g1, g2⟩ | ⟨d', w, g1, g2, g3⟩
      · rw [g1, g2]; exact rx
      · rw [g1, g2]; exact g3
    split at e
    · obtain ⟨y, e2, e⟩ := bi_eq_ok e
      cases ok_inj e
      simp only [RepL] at rx; obtain ⟨w, _, rfl, r1, rfl⟩ := rx
      obtain ⟨g1, rfl⟩ := get (opt_eq_ok e2) r1 mk_non
      exact ⟨a, _, _, _, rfl, .inl ⟨rfl, rfl⟩, dget_of y h1, q _ _ _ Up.refl g1 st⟩
    · obtain ⟨y, e2, e⟩ := bi_eq_ok e
      cases ok_inj e
      simp only [RepL] at rx; obtain ⟨w, _, rfl, r1, w2, _, rfl, r2, rfl⟩ := rx
      obtain ⟨g1, rfl⟩ := get (opt_eq_ok e2) r1 r2
      exact ⟨a, _, _, _, rfl, .inr rfl, dget_of y h1, q _ _ _ Up.refl g1 st⟩
    · obtain ⟨hne, e⟩ := when_ok e
      obtain ⟨more, e2, e⟩ := bi_eq_ok e
      obtain ⟨hz, e⟩ := when_ok e
      cases ok_inj e
      simp only [RepL] at rx; obtain ⟨w, _, rfl, r1, rfl⟩ := rx
      obtain ⟨k2, b, us, hk2, rfl, hkb, h3, h4⟩ := st.dct (opt_eq_ok e2) r1
      cases hk2
      have hab : a ≠ b := fun z => by
        subst z
        exact hne (by
          obtain ⟨x1, x2⟩ := List.getElem?_eq_some_iff.mp hk
          obtain ⟨x3, x4⟩ := List.getElem?_eq_some_iff.mp hkb
          exact (List.getElem_inj st.nd).mp (x2.trans x4.symm))
      obtain ⟨u4, st4⟩ := st.putD hk h1 (h4.merge h2)
      exact ⟨a, b, ws, us, rfl, rfl, hab, h1, h3, by rw [← h2.length, ← h4.length, sizeM]; exact hz, q _ _ _ u4 mk_non st4⟩
    · cases e
  | _ => cases e
theorem ixO_at {xs : List D} {i : Int} {j : Nat} (h : ixO xs i = some j) : ∃ ns, intsO xs = some ns ∧ ∃ z, ns[j]? = some z ∧ (z == i) = true ∧ ∀ (m : Nat) (y : Int), m < j → ns[m]? = some y → (y == i) = false := by
  unfold ixO at h
  obtain ⟨ns, hns, e⟩ := Option.bind_eq_some_iff.mp h
  split at e
  · rename_i hlt
    cases e
    refine ⟨ns, hns, ns[ns.findIdx fun n => decide (n = i)], List.getElem?_eq_getElem hlt, ?_, fun m y hm hy => ?_⟩
    · have := List.findIdx_getElem (p := fun n => decide (n = i)) (w := hlt)
      simpa using this
    · have h5 := List.not_of_lt_findIdx (p := fun n => decide (n = i)) hm
      rw [List.getElem?_eq_getElem (Nat.lt_trans hm hlt)] at hy
      rw [Option.some.inj hy] at h5
      rw [beq_eq_false_iff_ne]
      simpa using h5
  · cases e
def mId : M → String
  | .append => "list.append" | .pop => "list.pop" | .insert => "list.insert" | .extend => "list.extend" | .index => "list.index"
def rM (K : PySem.W.Frag) (m : M) : V → List V → Hp → VK → Prop := match m with
  | .append => rAppend
  | .pop => fun x xs H Q => rPop x xs H Q ∨ rPopAt x xs H Q
  | .insert => fun x vs H Q => ∃ (l : Addr) (xs : List V) (i : Int) (y : V), x = .ref l ∧ vs = [.int i, y] ∧ H l = some (.lst xs) ∧ xs.length < sizeLine ∧ 0 ≤ i ∧ i < 2 ^ 63 ∧
    Q .non (upd H l (.lst (xs.take i.toNat ++ [y] ++ xs.drop i.toNat)))
  | .extend => fun x xs H Q => rExtend x xs H Q ∨ rExtendT K x xs H Q
  | .index => rIndex K
theorem mtR_m (m : M) : MtR X (mId m) (rM X.K m) := by
  cases m with
  | append => exact mt_append
  | pop => exact MtR.or mt_pop mt_popAt
  | insert => exact mt_insert
  | extend => exact MtR.or mt_extend mt_extendT
  | index => exact mt_index
theorem m_ok {K : PySem.W.Frag} {H : Hp} {mu : List Addr} {S S' : Sto} {m : M} {o : D} {es : List D} {d : D} {v : V} {vs : List V} {Q : VK} (st : RSt K H mu S) (ro : RepD K H mu o v) (rx : RepL K H mu es vs) (e : mthD m o es S = .ok (d, S'))
    (q : ∀ w H' m', Up H mu H' m' → RepD K H' m' d w → RSt K H' m' S' → Q w H') : rM K m v vs H Q := by
  cases o with
  | loc k =>
    simp only [mthD] at e
    obtain ⟨xs, e1, e⟩ := bi_eq_ok e
    obtain ⟨k', hk', e1⟩ := isLst_eq (opt_eq_ok e1)
    cases hk'
    obtain ⟨a, ws, rfl, hk, h1, h2⟩ := st.loc e1 ro
    have len : ws.length = xs.length := h2.length.symm
    split at e
    · obtain ⟨hz, e⟩ := when_ok e
      cases ok_inj e
      simp only [RepL] at rx; obtain ⟨y, _, rfl, r1, rfl⟩ := rx
      obtain ⟨u1, st1⟩ := st.put hk h1 (h2.append (RepL.one r1))
      exact ⟨a, ws, y, rfl, rfl, h1, by rw [sizeM, len]; exact hz, q _ _ _ u1 mk_non st1⟩
    · obtain ⟨y, e2, e⟩ := bi_eq_ok e
      cases ok_inj e
      simp only [RepL] at rx; subst rx
      obtain ⟨w, h3, h4⟩ := h2.get (opt_eq_ok e2)
      obtain ⟨u1, st1⟩ := st.put hk h1 h2.dropLast
      exact .inl ⟨a, ws, w, rfl, rfl, h1, by rw [len]; exact h3, q _ _ _ u1 (RepD.up u1 _ _ h4) st1⟩
    · obtain ⟨⟨z1, z2⟩, e⟩ := when_ok e
      obtain ⟨y, e2, e⟩ := bi_eq_ok e
      cases ok_inj e
      simp only [RepL] at rx; obtain ⟨y', _, rfl, r1, rfl⟩ := rx
      cases rep_int r1
      obtain ⟨w, h3, h4⟩ := h2.get (opt_eq_ok e2)
      obtain ⟨u1, st1⟩ := st.put hk h1 (h2.eraseIdx _)
      have hix : ∀ i : Int, 0 ≤ i → i.toNat < ws.length → ixN ws.length i = some i.toNat := fun i z1 hl => by
        unfold ixN
        rw [if_pos z1, if_pos (by omega)]
      exact .inr ⟨a, ws, _, _, w, rfl, rfl, h1, by omega, by omega, (ixN_seq (hix _ z1 (List.getElem?_eq_some_iff.mp h3).1)).1, h3, q _ _ _ u1 (RepD.up u1 _ _ h4) st1⟩
    · obtain ⟨⟨z1, z2, z3⟩, e⟩ := when_ok e
      cases ok_inj e
      simp only [RepL] at rx; obtain ⟨y', _, rfl, r1, y, _, rfl, r2, rfl⟩ := rx
      cases rep_int r1
      obtain ⟨u1, st1⟩ := st.put hk h1 (((h2.take _).append (RepL.one r2)).append (h2.drop _))
      exact ⟨a, ws, _, y, rfl, rfl, h1, by rw [sizeM, len]; exact z1, z2, by omega, q _ _ _ u1 mk_non st1⟩
    · obtain ⟨ys, e2, e⟩ := bi_eq_ok e
      obtain ⟨z1, e⟩ := when_ok e
      cases ok_inj e
      simp only [RepL] at rx; obtain ⟨y', _, rfl, r1, rfl⟩ := rx
      obtain ⟨b, us, rfl, h3, h4⟩ := st.lst (opt_eq_ok e2) r1
      obtain ⟨u1, st1⟩ := st.put hk h1 (h2.append h4)
      exact .inl ⟨a, b, ws, us, rfl, rfl, h1, h3, by rw [sizeM, len, ← h4.length]; exact z1, q _ _ _ u1 mk_non st1⟩
    · obtain ⟨z1, e⟩ := when_ok e
      cases ok_inj e
      simp only [RepL] at rx; obtain ⟨y', _, rfl, r1, rfl⟩ := rx
      obtain ⟨b, us, rfl, h3, h4⟩ := rep_tup r1
      obtain ⟨u1, st1⟩ := st.put hk h1 (h2.append h4)
      exact .inr ⟨a, b, ws, us, rfl, rfl, h1, h3, by rw [sizeM, len, ← h4.length]; exact z1, q _ _ _ u1 mk_non st1⟩
    · obtain ⟨j, e2, e⟩ := bi_eq_ok e
      cases ok_inj e
      simp only [RepL] at rx; obtain ⟨y', _, rfl, r1, rfl⟩ := rx
      cases rep_int r1
      obtain ⟨ns, hns, z, h3, h4, h5⟩ := ixO_at (opt_eq_ok e2)
      have hws := intsO_rep hns h2
      subst hws
      refine ⟨a, _, _, _, V.int z, rfl, rfl, SqL.of h1, rfl, ?_, ?_, h4, ?_, q _ _ _ Up.refl (mk_int _) st⟩
      · rw [List.all_map, List.all_eq_true]
        intro _ _
        rfl
      · rw [List.getElem?_map, h3]; rfl
      · intro m z hm hz
        rw [List.getElem?_map] at hz
        obtain ⟨n, hn, rfl⟩ := Option.map_eq_some_iff.mp hz
        exact h5 m n hm hn
    · cases e
  | _ => cases e
end
end Ev
set_option autoImplicit false
set_option linter.all false
namespace Ev
open PySem
open L2
structure FnG (P : Program) (w : World) (K : PySem.W.Frag) (mg : Str → Option Value) (base : Heap) (k : Nat) (f : Addr) (fd : FuncData) (ps : List Str) (sp : Sp) : Prop where
  len : ∀ vs H Q E, sp vs H Q E → vs.length = ps.length
  run : ∀ (A : Around) (outer : List PySem.Env) (s : Shared) (H : Hp) (args : Args) (us : List Value) (vs : List V) (Q : VK), Room k A → A.guards = some [] →
    Env0 P w K mg base A outer s H → BindsTo s fd args (ps.zip us) → Vals vs us → sp vs H Q E0 → codeAny (model P w) A (.call (.ref f) args) (CR CX0 outer P w H s Q E0) s
section
variable {X : Cx} {k : Nat} {f : Addr} {fd : FuncData} {ps ks : List Str} {sp : Sp} {x : Str} {p pos : Pos} {e : Expr} {es : List Expr} {t tk : TA} {kws : List Keyword}
theorem run_G {pins : List (Addr × Obj)} {σ : L2.St} {H : Hp} {s : Shared} {Q : VK} {args : Args} {us : List Value} {vs : List V} (F : FnG X.prog X.w X.K X.mg X.base k f fd ps sp) (hr : Room k X.A) (hg : X.A.guards = some [])
    (I : Inv X pins σ H s) (hb : us.length = ps.length → BindsTo s fd args (ps.zip us)) (r : Vals vs us) (h : sp vs H Q E0) : codeAny (model X.prog X.w) X.A (.call (.ref f) args) (fun r s' => match r with
      | .ok (.ret u) => EP X pins σ Q u s'
      | _ => False) s := by
  have hl : us.length = ps.length := by rw [← r.length]; exact F.len _ _ _ _ h
  refine codeAny_mono (F.run X.A X.stack s H args us vs Q hr hg I.env0 (hb hl) r h) fun r s' hq => ?_
  match r with
  | .error e => exact hq
  | .ok (.ret u) => exact I.after hq
  | .ok .next => exact hq
  | .ok .brk => exact hq
  | .ok .cont => exact hq
theorem callK_G {pins : List (Addr × Obj)} {σ : L2.St} {H : Hp} {s : Shared} {Q : VK} {us ws : List Value} {kw : List (Str × Value)} {vs : List V} (F : FnG X.prog X.w X.K X.mg X.base k f fd ps sp) (hr : Room k X.A) (hg : X.A.guards = some [])
    (I : Inv X pins σ H s) (hb : ws.length = ps.length → BindsTo s fd ⟨us, kw⟩ (ps.zip ws)) (r : Vals vs ws) (h : sp vs H Q E0) : wpAny (model X.prog X.w) X.A (call (.ref f) us kw) (EP X pins σ Q) X.xe s := by
  refine wpAny_call (codeAny_mono (run_G F hr hg I hb r h) fun r s' hq => ?_)
  match r with
  | .error e => exact False.elim hq
  | .ok (.ret u) => exact hq
  | .ok .next => exact False.elim hq
  | .ok .brk => exact False.elim hq
  | .ok .cont => exact False.elim hq
def tCallG (sp : Sp) (t : TA) : TE := fun σ H Q => t σ H fun vs H1 => sp vs H1 Q E0
theorem pe_callG (F : FnG X.prog X.w X.K X.mg X.base k f fd ps sp) (hr : Room k X.A) (hgd : X.A.guards = some []) (hg : Gl X x) (hm : X.mg x = some (.ref f)) (hk : PySem.W.keepIn X.K (.ref f) = true) (hb : Binds X.K fd ps [])
    (ha : PA X es t) (hne : es ≠ []) (hst : ∀ e ∈ es, ∀ r env, starEach (e :: r) env = (false, eval e env) :: starEach r env) (hpl : ∀ env, (backTo pos (starEach es env)).any (·.1) = false) (hdb : (x == ("__debug__" : Str)) = false) :
    PE X (.Call (.Name x p) es [] pos) (tCallG sp t) := by
  refine ⟨fun pins s σ H Q I h => wpAny_Call_Name_kw (ld_glob I hg hm ?_ hdb)⟩
  cases es with
  | nil => exact absurd rfl hne
  | cons e es =>
    have he := fun env => hst e List.mem_cons_self es env
    refine PySem.W.callWith_K (h₀ := X.base) I.ok.mod.kin hk (thn (ha.run pos pins s σ H _ I h) fun us s1 ⟨vs, H1, I1, r, q⟩ => ⟨I1.kIn, ?_⟩) (he _) (by
      have := hpl X.env
      rw [he] at this
      exact this)
    refine callK_G F hr hgd I1 (fun hl => ?_) r q
    have hb' := hb s1 us I1.kIn (by simpa using hl)
    simpa using hb'
theorem pe_callG0 (F : FnG X.prog X.w X.K X.mg X.base k f fd ps sp) (hr : Room k X.A) (hgd : X.A.guards = some []) (hg : Gl X x) (hm : X.mg x = some (.ref f)) (hk : PySem.W.keepIn X.K (.ref f) = true) (hb : Binds X.K fd ps [])
    (hdb : (x == ("__debug__" : Str)) = false) : PE X (.Call (.Name x p) [] [] pos) (tCallG sp tNil) := by
  refine ⟨fun pins s σ H Q I h => wpAny_Call_Name_kw (ld_glob I hg hm ?_ hdb)⟩
  refine PySem.W.callWith_K0 I.kIn hk ?_
  refine callK_G (us := []) (ws := []) F hr hgd I (fun hl => ?_) .nil h
  exact hb s [] I.kIn (by simpa using hl)
/-- f(.., k = v, ..) -/
theorem pe_callKG {g : List Value → List Value → List Value} {gV : List V → List V → List V} (F : FnG X.prog X.w X.K X.mg X.base k f fd ps sp) (hr : Room k X.A) (hgd : X.A.guards = some []) (hg : Gl X x) (hm : X.mg x = some (.ref f)) (hk : PySem.W.keepIn X.K (.ref f) = true)
    (hb : ∀ (s : Shared) (us ws : List Value), X.K.In s.heap → us.length = es.length → ws.length = kws.length → (g us ws).length = ps.length → BindsTo s fd ⟨us, ks.zip ws⟩ (ps.zip (g us ws)))
    (hr2 : ∀ {vs : List V} {us : List Value} {zs : List V} {ws : List Value}, Vals vs us → Vals zs ws → Vals (gV vs zs) (g us ws))
    (ha : PA X es t) (hle : ∀ σ H Q, t σ H Q → t σ H fun vs H1 => vs.length = es.length ∧ Q vs H1) (hkw : PK X kws tk) (hlk : ∀ σ H Q, tk σ H Q → tk σ H fun vs H1 => vs.length = kws.length ∧ Q vs H1)
    (hall : ∀ env, (backToKw pos (keywordEach kws env)).all (·.1.isSome) = true) (hks : ∀ env, (backToKw pos (keywordEach kws env)).filterMap (·.1) = ks) (hno : ∀ env, (backToKw pos (keywordEach kws env)).any (·.1.isNone) = false)
    (hst : ∀ e ∈ es, ∀ r env, starEach (e :: r) env = (false, eval e env) :: starEach r env) (hpl : ∀ env, (backTo pos (starEach es env)).any (·.1) = false) (hdb : (x == ("__debug__" : Str)) = false)
    (hnil : es = [] → ∀ σ H Q, t σ H Q → Q [] H) :
    PE X (.Call (.Name x p) es kws pos) (tCallK sp gV E0 t tk) := by
  refine ⟨fun pins s σ H Q I h => wpAny_Call_Name_kw (ld_glob I hg hm ?_ hdb)⟩
  have fin : ∀ {us : List Value} {vs : List V} {s1 : Shared} {H1 : Hp}, Inv X pins σ H1 s1 → Vals vs us → us.length = es.length → (tk σ H1 fun zs H2 => sp (gV vs zs) H2 Q E0) →
      wpAny (model X.prog X.w) X.A (evalAll ((backToKw pos (keywordEach kws X.env)).map (·.2))) (fun ws s2 => X.K.In s2.heap ∧ wpAny (model X.prog X.w) X.A (call (.ref f) us (((backToKw pos (keywordEach kws X.env)).filterMap (·.1)).zip ws)) (EP X pins σ Q) X.xe s2) X.xe s1 := fun {us vs s1 H1} I1 r hl q => by
    refine thn (hkw.run pos pins s1 σ H1 _ I1 (hlk _ _ _ q)) fun ws s2 ⟨zs, H2, I2, rz, hz, q2⟩ => ⟨I2.kIn, ?_⟩
    rw [hks]
    exact callK_G F hr hgd I2 (fun hw => hb s2 us ws I2.kIn hl (by rw [← rz.length]; exact hz) hw) (hr2 r rz) q2
  cases es with
  | nil =>
    refine PySem.W.callWith_KW0 (h₀ := X.base) I.ok.mod.kin hk (hall _) ?_ (by rw [hno]; rfl)
    exact fin (us := []) I .nil rfl (hnil rfl _ _ _ h)
  | cons e es =>
    have he := fun env => hst e List.mem_cons_self es env
    refine PySem.W.callWith_KW (h₀ := X.base) I.ok.mod.kin hk (hall _) (thn (ha.run pos pins s σ H _ I (hle _ _ _ h)) fun us s1 ⟨vs, H1, I1, r, hl, q⟩ => fin (us := us) I1 r (r.length.symm.trans hl) q) (by rw [hpl, hno]; rfl) (he _)
end
end Ev
set_option autoImplicit false
set_option linter.all false
namespace Ev
open PySem
open L2
mutual
def Pt.slots : Pt → List Nat
  | .nm i => [i]
  | .tp ps => Pt.slotsL ps
def Pt.slotsL : List Pt → List Nat
  | [] => []
  | p :: ps => Pt.slots p ++ Pt.slotsL ps
end
/-- what a target does -/
def gP (K : PySem.W.Frag) (p : Pt) : TG := fun v σ H Q => ∃ d m r r1, RepD K H m d v ∧ REnv K H m r σ ∧ bindP p d r = some r1 ∧
  ∀ σ', REnv K H m r1 σ' → (∀ i, i ∉ p.slots → σ'[i]? = σ[i]?) → σ'.length = σ.length → Q σ' H
def gPs (K : PySem.W.Frag) (ps : List Pt) : TGs := fun vs σ H Q => ∃ ds m r r1, RepL K H m ds vs ∧ REnv K H m r σ ∧ bindPs ps ds r = some r1 ∧
  ∀ σ', REnv K H m r1 σ' → (∀ i, i ∉ Pt.slotsL ps → σ'[i]? = σ[i]?) → σ'.length = σ.length → Q σ' H
theorem _root_.L2.PG.imp {X : Cx} {e : Expr} {t t' : TG} (h : PG X e t) (w : ∀ v σ H Q, t' v σ H Q → t v σ H Q) : PG X e t' :=
  ⟨fun pins s σ H v u Q I r q => h.run pins s σ H v u Q I r (w _ _ _ _ q)⟩
theorem _root_.L2.PGs.imp {X : Cx} {e : List Expr} {t t' : TGs} (h : PGs X e t) (w : ∀ v σ H Q, t' v σ H Q → t v σ H Q) : PGs X e t' :=
  ⟨fun pins s σ H v u Q I r q => h.run pins s σ H v u Q I r (w _ _ _ _ q)⟩
theorem _root_.L2.PE.imp {X : Cx} {e : Expr} {t t' : TE} (h : PE X e t) (w : ∀ σ H Q, t' σ H Q → t σ H Q) : PE X e t' := ⟨fun pins s σ H Q I q => h.run pins s σ H Q I (w _ _ _ q)⟩
theorem _root_.L2.PT.imp {X : Cx} {e : Expr} {t t' : TT} (h : PT X e t) (w : ∀ σ H Q, t' σ H Q → t σ H Q) : PT X e t' := ⟨fun pins s σ H Q I q => h.run pins s σ H Q I (w _ _ _ q)⟩
theorem _root_.L2.PW.imp {X : Cx} {e : Expr} {t t' : TT} (h : PW X e t) (w : ∀ σ H Q, t' σ H Q → t σ H Q) : PW X e t' := ⟨fun wh pins s σ H Q I q => h.run wh pins s σ H Q I (w _ _ _ q)⟩
theorem _root_.L2.PA.imp {X : Cx} {e : List Expr} {t t' : TA} (h : PA X e t) (w : ∀ σ H Q, t' σ H Q → t σ H Q) : PA X e t' := ⟨fun p pins s σ H Q I q => h.run p pins s σ H Q I (w _ _ _ q)⟩
theorem _root_.L2.PI.imp {X : Cx} {e g : Expr} {t t' : TI} (h : PI X g e t) (w : ∀ σ H Q, t' σ H Q → t σ H Q) : PI X g e t' := ⟨fun pins s σ H Q I q => h.run pins s σ H Q I (w _ _ _ q)⟩
theorem _root_.L2.PS.imp {X : Cx} {e : Stmt} {t t' : TS} (h : PS X e t) (w : ∀ D σ H, t' D σ H → t D σ H) : PS X e t' := ⟨fun pins s σ H D I q => h.run pins s σ H D I (w _ _ _ q)⟩
theorem _root_.L2.PSs.imp {X : Cx} {e : List Stmt} {t t' : TS} (h : PSs X e t) (w : ∀ D σ H, t' D σ H → t D σ H) : PSs X e t' := ⟨fun pins s σ H D I q => h.run pins s σ H D I (w _ _ _ q)⟩
def isStar : Expr → Bool
  | .Starred _ _ => true
  | _ => false
theorem star_no {e : Expr} (h : isStar e = false) (r : List Expr) (env : PySem.Env) : starEach (e :: r) env = (false, eval e env) :: starEach r env := by
  cases e <;> first | rfl | (cases h)
theorem assign_no {e : Expr} (h : isStar e = false) (r : List Expr) (env : PySem.Env) : assignEach (e :: r) env = (false, assign e env) :: assignEach r env := by
  cases e <;> first | rfl | (cases h)
theorem assign_all {env : PySem.Env} : ∀ {es : List Expr}, es.any isStar = false → (assignEach es env).length = es.length ∧ (assignEach es env).findIdx? (·.1) = none
  | [], _ => ⟨rfl, rfl⟩
  | e :: es, h => by
    simp only [List.any_cons, Bool.or_eq_false_iff] at h
    obtain ⟨h1, h2⟩ := assign_all (env := env) h.2
    rw [assign_no h.1]
    exact ⟨by simp [h1], by simp [List.findIdx?_cons, h2]⟩
theorem back_no {pos : Pos} {env : PySem.Env} : ∀ {es : List Expr}, es.any isStar = false → (backTo pos (starEach es env)).any (·.1) = false
  | [], _ => rfl
  | e :: es, h => by
    simp only [List.any_cons, Bool.or_eq_false_iff] at h
    rw [star_no h.1]
    have := back_no (pos := pos) (env := env) h.2
    unfold backTo at this ⊢
    simp only [List.map_cons, List.any_cons, Bool.false_or]
    exact this
def idx (ns : List Str) (x : Str) : Option Nat := match ns with
  | [] => none
  | y :: r => if y = x then some 0 else (idx r x).map (· + 1)
theorem idx_get : ∀ {ns : List Str} {x : Str} {i : Nat}, idx ns x = some i → ns[i]? = some x
  | [], _, _, h => by cases h
  | y :: r, x, i, h => by
    unfold idx at h
    split at h
    · rename_i e
      cases h; simp [e]
    · obtain ⟨j, e1, rfl⟩ := Option.map_eq_some_iff.mp h
      simpa using idx_get e1
inductive Gn where
  | fn (i : Nat) (ps : List Str) | cst (d : D) | blt | gdc (kvs : List (Str × Int))
structure Ctx where
  ns : List Str
  gl : List (Str × Gn)
  kw : List (Nat × Nat × List Str)
def dunder (x : Str) : Bool := x == ("__debug__" : Str) || x == ("__classdict__" : Str) || x == ("__name__" : Str)
def scK (sc : Scope) (x : Str) : Option NameKind := sc.names.lookup x
/-- may be stored here -/
def stK (sc : Scope) (x : Str) : Bool := match scK sc x with
  | some .local => true
  | some .cell => true
  | _ => false
def cP (ns : List Str) (ok : Str → Bool) : Nat → Expr → Option Pt
  | 0, _ => none
  | n + 1, e => match e with
    | .Name x _ => if ok x = true then (idx ns x).map .nm else none
    | .Tuple es _ _ => if es.any isStar = true then none else (mapO (cP ns ok n) es).map .tp
    | _ => none
def tnames : Nat → Expr → List Str
  | 0, _ => []
  | n + 1, e => match e with
    | .Name x _ => [x]
    | .Tuple es _ _ => es.flatMap (tnames n)
    | _ => []
def ownOf (ns : List Str) (xs : List Str) : List (Str × Nat) := xs.filterMap fun x => (idx ns x).map fun i => (x, i)
def permOf (ps : List Str) (np : Nat) (ks : List Str) : Option (List Nat) :=
  mapO (fun p : Str × Nat => if p.2 < np then some p.2 else (idx ks p.1).map (· + np)) (ps.zipIdx)
def bName2 (x : Str) : Option B :=
  if x = ("any" : Str) then some .any else if x = ("all" : Str) then some .all else if x = ("max" : Str) then some .max else if x = ("min" : Str) then some .min else if x = ("dict" : Str) then some .dict else if x = ("str" : Str) then some .str else none
def bName (x : Str) : Option B :=
  if x = ("len" : Str) then some .len else if x = ("abs" : Str) then some .abs else if x = ("int" : Str) then some .int else if x = ("bool" : Str) then some .bool
  else if x = ("repr" : Str) then some .repr else if x = ("tuple" : Str) then some .tuple else if x = ("list" : Str) then some .list else if x = ("sorted" : Str) then some .sorted
  else if x = ("sum" : Str) then some .sum else bName2 x
def tyName (x : Str) : Option Ty :=
  if x = ("int" : Str) then some .int else if x = ("bool" : Str) then some .bool else if x = ("str" : Str) then some .str else if x = ("tuple" : Str) then some .tuple else if x = ("list" : Str) then some .list else none
def mName (x : Str) : Option M :=
  if x = ("append" : Str) then some .append else if x = ("pop" : Str) then some .pop else if x = ("insert" : Str) then some .insert else if x = ("extend" : Str) then some .extend else if x = ("index" : Str) then some .index else none
def dmName (x : Str) : Option DM :=
  if x = ("get" : Str) then some .get else if x = ("update" : Str) then some .update else none
def interl : List (Option Expr) → List Expr → Option (List Expr)
  | [], vs => match vs with
    | [] => some []
    | _ => none
  | k :: ks, vs => match k, vs with
    | some k, v :: vs => (interl ks vs).map fun r => k :: v :: r
    | _, _ => none
def okBase : Expr → Bool
  | .Name _ _ => true
  | .Subscript _ _ _ => true
  | .Call _ (_ :: _) _ _ => true
  | .Dict _ _ _ => true
  | _ => false
def isSlice : Expr → Bool
  | .Slice _ _ _ _ => true
  | _ => false
def kwNames : List Keyword → Option (List Str) := mapO fun k => k.arg
/-- D.get(key, other), D a table of the module -/
def gdcO (g : Ctx) (sc : Scope) (o : Expr) (m : Str) (as : List Expr) : Option (List (Str × Int)) := match o with
  | .Name x _ => if m = ("get" : Str) ∧ as.length = 2 ∧ dunder x = false then (match scK sc x with
    | some .globalImplicit => (match g.gl.lookup x with
      | some (.gdc kvs) => some kvs
      | _ => none)
    | _ => none) else none
  | _ => none
def gget2 (kvs : List (Str × Int)) : List C → Option C
  | [a, b] => some (.gget kvs a b)
  | _ => none
def gBlt (g : Ctx) (sc : Scope) (x : Str) : Bool := !dunder x && (match scK sc x with
  | some .globalImplicit => true
  | _ => false) && (match g.gl.lookup x with
  | some .blt => true
  | _ => false)
/-- a walked thing: (kind, the parts) -/
def cI (g : Ctx) (sc : Scope) (tup : Bool) (e : Expr) : K × List Expr := match e with
  | .Call (.Name x _) as [] _ =>
    if gBlt g sc x = true then
      if x = ("range" : Str) then (match as with
        | [_] => (.rng1, as)
        | [_, _] => (.rng2, as)
        | _ => (.seq, [e]))
      else if x = ("enumerate" : Str) then (match as with
        | [_] => if tup = true then (.enum, as) else (.seq, [e])
        | _ => (.seq, [e]))
      else if x = ("zip" : Str) then (match as with
        | [_, _] => if tup = true then (.zip, as) else (.seq, [e])
        | [_, _, _] => if tup = true then (.zip, as) else (.seq, [e])
        | _ => (.seq, [e]))
      else (.seq, [e])
    else (.seq, [e])
  | _ => (.seq, [e])
def isTup : Expr → Bool
  | .Tuple _ _ _ => true
  | _ => false
def isPlain : C → Bool
  | .and _ _ => false
  | .or _ _ => false
  | .not _ => false
  | .ife _ _ _ => false
  | _ => true
def plainC (c : C) : Option C := if isPlain c = true then some c else none
theorem plainC_of {x : Option C} {c : C} (h : x.bind plainC = some c) : x = some c ∧ isPlain c = true := by
  obtain ⟨d, hx, h2⟩ := Option.bind_eq_some_iff.mp h
  unfold plainC at h2
  split at h2
  · rename_i hp
    cases h2; exact ⟨hx, hp⟩
  · cases h2
/-- a display with stars: tuples joined, from the right -/
def cStar (f : Expr → Option C) : List Expr → Option C
  | [] => some (.tup [])
  | .Starred e _ :: es => (f e).bind fun c => (cStar f es).map fun d => .bin .Add (.blt .tuple [c]) d
  | e :: es => (f e).bind fun c => (cStar f es).map fun d => .bin .Add (.tup [c]) d
def cE (g : Ctx) : Nat → Scope → Expr → Option C
  | 0, _, _ => none
  | n + 1, sc, e => match e with
    | .Constant k _ _ => (match k with
      | .int i => some (.cst (.int i))
      | .bool b => some (.cst (.bl b))
      | .none => some (.cst .non)
      | .str s => some (.cst (.str s))
      | _ => none)
    | .Name x _ => if dunder x = true then none else (match scK sc x with
      | some .local => (idx g.ns x).map .var
      | some .cell => (idx g.ns x).map .var
      | some .free => (idx g.ns x).map .var
      | some .globalImplicit => (match g.gl.lookup x with
        | some (.cst d) => some (.cst d)
        | _ => none)
      | _ => none)
    | .BinOp a o b _ => (cE g n sc a).bind fun x => (cE g n sc b).bind fun y => some (.bin o x y)
    | .UnaryOp o a _ => (match o with
      | .Not => (cE g n sc a).bind fun x => some (.not x)
      | .USub => (cE g n sc a).bind fun x => some (.una .USub x)
      | _ => none)
    | .BoolOp o vs pos => (match vs with
      | [a] => cE g n sc a
      | a :: b :: r => (cE g n sc a).bind fun x => (cE g n sc (.BoolOp o (b :: r) pos)).bind fun y => (match o with
        | .And => some (.and x y)
        | .Or => some (.or x y))
      | _ => none)
    | .IfExp c a b _ => (cE g n sc c).bind fun z => (cE g n sc a).bind fun x => (cE g n sc b).bind fun y => some (.ife z x y)
    | .Compare a os bs _ => (match os, bs with
      | [o], [b] => if behindInMarks o b = true then none else (cE g n sc a).bind fun x => (cE g n sc b).bind fun y => some (.cmp o x y)
      | [o, o2], [b, c] => if behindInMarks o b = true ∨ behindInMarks o2 c = true then none else (cE g n sc a).bind fun x => (cE g n sc b).bind fun y => (cE g n sc c).bind fun z => some (.cmp2 o o2 x y z)
      | _, _ => none)
    | .Tuple es _ _ => if 1000 < es.length then none else if es.any isStar = true then cStar (cE g n sc) es else (mapO (cE g n sc) es).map .tup
    | .Dict ks vs _ => (interl ks vs).bind fun es => if 15 < ks.length then none else (mapO (cE g n sc) es).map .dic
    | .List es _ => if 1000 < es.length then none else if es.any isStar = true then (cStar (cE g n sc) es).map (fun c => .blt .list [c]) else (mapO (cE g n sc) es).map .lst
    | .Subscript a i _ => (match i with
      | .Slice none none (some (.UnaryOp .USub (.Constant (.int 1) _ _) _)) _ => (cE g n sc a).bind fun x => some (.rev x)
      | .Slice lo hi none _ => (cE g n sc a).bind fun x => (match lo with
          | none => (match hi with
            | none => some (.slc x false (.cst .non) false (.cst .non))
            | some h => (cE g n sc h).bind fun z => some (.slc x false (.cst .non) true z))
          | some l => (cE g n sc l).bind fun y => (match hi with
            | none => some (.slc x true y false (.cst .non))
            | some h => (cE g n sc h).bind fun z => some (.slc x true y true z)))
      | i => if isSlice i = true then none else (cE g n sc a).bind fun x => (cE g n sc i).bind fun y => some (.sub x y))
    | .ListComp elt gs scope _ => Option.bind (match gs with
      | [⟨tg, iter, ifs, 0⟩] =>
        let own := ownOf g.ns (tnames 9 tg)
        if blkC g.ns sc scope own = true then
          (cP g.ns (stK scope) 9 tg).bind fun p =>
          if p.slots.all (fun i => (own.map (·.2)).contains i) = true then
          (mapO (cE g n sc) (cI g sc (isTup tg) iter).2).bind fun src =>
          (cE g n (relS scope sc) elt).bind fun x =>
          (match ifs with
            | [] => some (.lc x (own.map (·.2)) p (cI g sc (isTup tg) iter).1 src (.cst (.bl true)))
            | [c] => (cE g n (relS scope sc) c).bind fun y => some (.lc x (own.map (·.2)) p (cI g sc (isTup tg) iter).1 src y)
            | _ => none)
          else none
        else none
      | _ => none) plainC
    | .Call f as kws cpos => Option.bind (if as.any isStar = true then none else (match f with
      | .Name x _ => if dunder x = true then none else (match scK sc x with
        | some .globalImplicit => (match g.gl.lookup x with
          | some (.fn i ps) => (mapO (cE g n sc) as).bind fun es => (match kws with
            | [] => some (.call i es)
            | _ => (kwNames kws).bind fun ks => if (i, as.length, ks) ∈ g.kw then (mapO (fun k => cE g n sc k.value) kws).bind fun zs => (permOf ps as.length ks).bind fun gp => some (.calk i es zs gp) else none)
          | some .blt => (match kws with
            | [] => (match bName x with
              | some .list => (match as with
                | [.Call (.Name y _) bs [] _] => if y = ("range" : Str) ∧ gBlt g sc y = true ∧ bs.any isStar = false ∧ (bs.length = 1 ∨ bs.length = 2 ∨ bs.length = 3) then (mapO (cE g n sc) bs).map .lrng else (mapO (cE g n sc) as).map (.blt .list)
                | [.Call (.Attribute o m apos) [] [] cp] => if m = ("items" : Str) ∧ okBase o = true ∧ (apos.endLine == cp.line) = true then (cE g n sc o).map .lit else (mapO (cE g n sc) as).map (.blt .list)
                | [_] => (mapO (cE g n sc) as).map (.blt .list)
                | _ => none)
              | some .tuple => (match as with
                | [.Call (.Name y _) bs [] _] => if y = ("range" : Str) ∧ gBlt g sc y = true ∧ bs.any isStar = false ∧ (bs.length = 1 ∨ bs.length = 2) then (mapO (cE g n sc) bs).map .trng else (mapO (cE g n sc) as).map (.blt .tuple)
                | _ :: _ => (mapO (cE g n sc) as).map (.blt .tuple)
                | _ => none)
              | some .sorted => (match as with
                | [.Call (.Name y _) bs [] _] => if y = ("set" : Str) ∧ gBlt g sc y = true ∧ bs.any isStar = false ∧ bs.length = 1 then (mapO (cE g n sc) bs).bind fun cs => cs.head?.map .srs else (mapO (cE g n sc) as).map (.blt .sorted)
                | _ :: _ => (mapO (cE g n sc) as).map (.blt .sorted)
                | _ => none)
              | some .len => (match as with
                | [.Call (.Name y _) bs [] _] => if y = ("set" : Str) ∧ gBlt g sc y = true ∧ bs.any isStar = false ∧ bs.length = 1 then (mapO (cE g n sc) bs).bind fun cs => cs.head?.map .lset else (mapO (cE g n sc) as).map (.blt .len)
                | _ :: _ => (mapO (cE g n sc) as).map (.blt .len)
                | _ => none)
              | some b => (match as with
                | _ :: _ => (mapO (cE g n sc) as).map (.blt b)
                | _ => none)
              | none => if x = ("isinstance" : Str) then (match as with
                | [e, .Name t _] => if gBlt g sc t = true then (tyName t).bind fun ty => (cE g n sc e).map (.isi ty) else none
                | _ => none) else none)
            | [⟨some y, .Constant (.bool true) _ _, _⟩] => (match as with
              | [a] => if x = ("sorted" : Str) ∧ y = ("reverse" : Str) then (cE g n sc a).map .srv else none
              | _ => none)
            | _ => none)
          | _ => none)
        | _ => none)
      | .Attribute o m apos => (match kws with
        | [] => if okBase o = true ∧ (apos.endLine == cpos.line) = true ∧ as.length < 20 then (match mName m with
          | some m => (cE g n sc o).bind fun x => (mapO (cE g n sc) as).map (.mth m x)
          | none => (match gdcO g sc o m as with
            | some kvs => (mapO (cE g n sc) as).bind (gget2 kvs)
            | none => (dmName m).bind fun m => (cE g n sc o).bind fun x => (mapO (cE g n sc) as).map (.dmt m x))) else none
        | _ => none)
      | _ => none)) plainC
    | _ => none
end Ev
set_option autoImplicit false
set_option linter.all false
set_option maxRecDepth 100000
namespace ZipM
open PySem PySem.Spec PyProof.Rows
open L2
/-- what such a zip yields: the tuple never changes, the list as it stands -/
def Itzm (K : PySem.W.Frag) (t l : Addr) : It where
  go := fun n H => ∃ us vs : List V, ∃ p q : V, SqT K H t us ∧ SqL K H l vs ∧ us[n]? = some p ∧ vs[n]? = some q
  yld := fun n H r H' => ∃ (N : Addr) (p q : V), r = .ref N ∧ H N = none ∧ H' = upd H N (.tup [p, q]) ∧ (∀ us, SqT K H t us → us[n]? = some p) ∧ (∀ vs, SqL K H l vs → vs[n]? = some q)
  stop := fun n H => ∃ us vs : List V, SqT K H t us ∧ SqL K H l vs ∧ n ≤ us.length ∧ n ≤ vs.length ∧ (n = us.length ∨ n = vs.length)
/-- the five cells of the zip at its n-th turn -/
structure Cells (z u o i j t l : Addr) (n : Nat) (h : Heap) : Prop where
  zz : IsZip h z u o .none
  uu : IsTupOf2 h u (.ref i) (.ref j)
  oo : ∃ p q, IsTupOf2 h o p q
  ii : h.IsTupleIter i t n
  jj : h.IsListIter j l n
theorem Cells.has {z u o i j t l : Addr} {n : Nat} {h : Heap} (c : Cells z u o i j t l n h) : ∀ b ∈ [z, u, o, i, j], ∃ ob, h.get? b = some ob ∧ ∀ v, ob.data ≠ .cell v := by
  intro b hb
  simp only [List.mem_cons, List.not_mem_nil, or_false] at hb
  obtain ⟨p, q, oo⟩ := c.oo
  obtain ⟨oi, ei, _, di⟩ := c.ii
  obtain ⟨oj, ej, _, dj⟩ := c.jj
  rcases hb with rfl | rfl | rfl | rfl | rfl
  · exact ⟨_, c.zz, by intro v z; cases z⟩
  · exact ⟨_, c.uu, by intro v z; cases z⟩
  · exact ⟨_, oo, by intro v z; cases z⟩
  · exact ⟨_, ei, by intro v z; rw [di] at z; cases z⟩
  · exact ⟨_, ej, by intro v z; rw [dj] at z; cases z⟩
theorem Cells.stay {z u o i j t l : Addr} {n : Nat} {h h' : Heap} (c : Cells z u o i j t l n h) (k : ∀ b ∈ [z, u, o, i, j], ∀ ob, h.get? b = some ob → h'.get? b = some ob) : Cells z u o i j t l n h' where
  zz := k z (by simp) _ c.zz
  uu := k u (by simp) _ c.uu
  oo := by
    obtain ⟨p, q, e⟩ := c.oo
    exact ⟨p, q, k o (by simp) _ e⟩
  ii := c.ii.at (k i (by simp))
  jj := c.jj.at (k j (by simp))
theorem not_among {z u o i j c : Addr} (h : c ∉ [z, u, o, i, j]) : c ≠ z ∧ c ≠ o ∧ c ≠ i ∧ c ≠ j := by
  simp only [List.mem_cons, List.not_mem_nil, or_false, not_or] at h
  exact ⟨h.1, h.2.2.1, h.2.2.2.1, h.2.2.2.2⟩
theorem turn_zm {P : Program} {w : World} {K : PySem.W.Frag} {elts : List Expr} {kk : Nat} {tpos : Pos} {z u o i j t l : Addr} (S : ZipSep2 z u o i j [i, t] [j, l]) (hi : t ≠ i) (hj : l ≠ j) :
    Turn P w K (.Tuple elts kk tpos) (Itzm K t l) [z, u, o, i, j] z (Cells z u o i j t l) where
  mem := List.mem_cons_self ..
  obj := fun _ _ c => c.has
  keep := fun _ _ _ c k => c.stay k
  self := fun A n s Q E c q => wpAny_pyIter_zip c.zz q
  done := by
    rintro X rfl rfl rfl calm n pins s σ H E I hf c ⟨us, vs, hu, hv, m1, m2, hend⟩
    have hd : X.A.in1.handled = none := I.ok.hd calm
    obtain ⟨as, r1, p1, _⟩ := I.tuple hu
    obtain ⟨bs, r2, p2, _⟩ := I.list hv
    obtain ⟨x, y, oo⟩ := c.oo
    have n1 : as.toArray.size = us.length := by rw [List.size_toArray, r1.length]
    have n2 : bs.toArray.size = vs.length := by rw [List.size_toArray, r2.length]
    refine wpAny_pyNext_zipD2_end S (Draws.tuple hd i t hi as.toArray) (Draws.list hd j l hj bs.toArray) c.zz c.uu oo ⟨c.ii, p1⟩ ⟨c.jj, p2.isList⟩ (by omega) (by omega) (by omega) fun h' tk k => ⟨rfl, ?_⟩
    refine I.turnedL (t' := tk) (ch := [z, u, o, i, j]) (fun b ob hb e => ?_) hf
    obtain ⟨q1, q2, q3, q4⟩ := not_among hb
    exact k b ob q1 q2 q3 q4 e
  item := by
    rintro X rfl rfl rfl calm n pins s σ H E I hf c ⟨us, vs, p, q, hu, hv, hp, hq⟩
    have hd : X.A.in1.handled = none := I.ok.hd calm
    obtain ⟨as, r1, p1, _⟩ := I.tuple hu
    obtain ⟨bs, r2, p2, _⟩ := I.list hv
    obtain ⟨x, y, oo⟩ := c.oo
    obtain ⟨a, ga, ra⟩ := r1.get hp
    obtain ⟨b, gb, rb⟩ := r2.get hq
    have la : n < as.toArray.size := by
      rw [List.size_toArray]; exact (List.getElem?_eq_some_iff.mp ga).1
    have lb : n < bs.toArray.size := by
      rw [List.size_toArray]; exact (List.getElem?_eq_some_iff.mp gb).1
    refine wpAny_pyNext_zipD2_item S (Draws.tuple hd i t hi as.toArray) (Draws.list hd j l hj bs.toArray) c.zz c.uu oo ⟨c.ii, p1⟩ ⟨c.jj, p2.isList⟩ la lb fun a' b' h1 tk ea eb gz go si sj gN _ k => ?_
    have ea' : a' = a := by
      rw [List.getElem?_toArray, ga] at ea
      exact (Option.some.inj ea).symm
    have eb' : b' = b := by
      rw [List.getElem?_toArray, gb] at eb
      exact (Option.some.inj eb).symm
    rw [ea', eb'] at go gN
    refine ⟨_, rfl, wpAny_letOwnedTupleGo_zip (s := { s with heap := h1, toks := tk }) gz fun h2 gz2 same => ?_⟩
    have lz := Heap.lt_size c.zz
    have free : H s.heap.objs.size = none := I.hok.fresh (Nat.le_refl _)
    have made : ObjOk X.prog X.w (upd H s.heap.objs.size (.tup [p, q])) h2 s.heap.objs.size (.tup [p, q]) := by
      refine ⟨?_, [a, b], .cons ra (.cons rb .nil), _, (same.2 _ (Nat.ne_of_gt lz)).trans gN, rfl, _, rfl⟩
      show 2 ≤ sizeLine
      decide
    have J : Inv X pins σ (upd H s.heap.objs.size (.tup [p, q])) { s with heap := h2, toks := tk } := by
      refine I.turnedNew (t' := tk) (ch := [z, u, o, i, j]) (fun m ob hm e => ?_) hf (Nat.le_refl _) made
      obtain ⟨q1, q2, q3, q4⟩ := not_among hm
      exact (same.2 m q1).trans (k m ob q1 q2 q3 q4 e)
    have still : ∀ {m : Addr}, m ≠ z → ∀ ob, h1.get? m = some ob → h2.get? m = some ob := fun hm ob e => (same.2 _ hm).trans e
    refine ⟨.ref s.heap.objs.size, _, J, rfl, ⟨_, p, q, rfl, free, rfl, fun us' h' => ?_, fun vs' h' => ?_⟩, ⟨gz2, ?_, ⟨a, b, still S.TOz _ go⟩, ?_, ?_⟩, fun m hm => ?_⟩
    · rw [I.tuple_inj h' hu]; exact hp
    · rw [I.list_inj h' hv]; exact hq
    · exact still S.TIz _ (k _ _ S.TIz S.TITO S.TIi1 S.TIi2 c.uu)
    · exact si.1.at (still (Ne.symm S.zi1))
    · exact sj.1.at (still (Ne.symm S.zi2))
    · obtain ⟨ob, e, _⟩ := c.has m hm
      rw [upd_ne (Nat.ne_of_lt (Heap.lt_size e))]
      exact (hf m hm).1
/-- zip(t, l) of a tuple and a list -/
def iZm (K : PySem.W.Frag) (ta : TA) : TI := fun σ H R => ta σ H fun vs H1 => ∃ (t l : Addr) (xs ys : List V), vs = [.ref t, .ref l] ∧ SqT K H1 t xs ∧ SqL K H1 l ys ∧ R (Itzm K t l) H1
theorem pi_zm {X : Cx} {e e2 : Expr} {ta : TA} {p pos tpos : Pos} {elts : List Expr} {kk : Nat} (hg : Gl X "zip") (hm : X.mg "zip" = none) (ha : PA X [e, e2] ta)
    (hs : starEach [e, e2] X.env = (false, eval e X.env) :: starEach [e2] X.env) (hpl : (backTo pos (starEach [e2] X.env)).any (·.1) = false) :
    PI X (.Tuple elts kk tpos) (.Call (.Name "zip" p) [e, e2] [] pos) (iZm X.K ta) := by
  constructor
  intro pins s σ H R I h
  have args := ha.run pos pins s σ H _ I h
  refine Call_ (ld_blt I hg hm PyProof.Rows.boot_zip (PyProof.Rows.callWith_type1 (thn args ?_) hs hpl))
  rintro us s1 ⟨_, H1, J, vals, t, l, xs, ys, rfl, ht, hl, r⟩
  cases vals with
  | cons k ks =>
    cases ks with
    | cons k2 ks =>
      cases ks
      obtain rfl := k
      obtain rfl := k2
      obtain ⟨as, ra, pa, _⟩ := J.tuple ht
      obtain ⟨bs, rb, pb, _⟩ := J.list hl
      have lt1 : t < s1.heap.objs.size := by
        obtain ⟨ob, e, _⟩ := id pa
        exact Heap.lt_size e
      have lt2 : l < s1.heap.objs.size := pb.lt
      refine zip_begins2 (begins_tuple t as.toArray) (begins_list l bs.toArray) pa pb.isList fun h' gz gu go gi gj _ same => wpAny_pyIter_zip gz ?_
      have J2 : Inv X pins σ H1 { s1 with heap := h' } := J.kept (t' := s1.toks) same
      refine ⟨_, [s1.heap.objs.size + 4, s1.heap.objs.size + 2, s1.heap.objs.size + 3, s1.heap.objs.size, s1.heap.objs.size + 1], _, _, H1, rfl, J2,
        turn_zm (zip_sep2 (fp1 := [t]) (fp2 := [l]) (fun b hb => by rw [List.mem_singleton.mp hb]; exact lt1) (fun b hb => by rw [List.mem_singleton.mp hb]; exact lt2)) (Nat.ne_of_lt lt1) (Nat.ne_of_lt (Nat.lt_succ_of_lt lt2)),
        ⟨gz, gu, ⟨_, _, go⟩, ⟨_, gi, rfl, rfl⟩, ⟨_, gj, rfl, rfl⟩⟩, fun b hb => ?_, r⟩
      have old : s1.heap.objs.size ≤ b := by
        simp only [List.mem_cons, List.not_mem_nil, or_false] at hb
        rcases hb with rfl | rfl | rfl | rfl | rfl
        · exact Nat.le_add_right ..
        · exact Nat.le_add_right ..
        · exact Nat.le_add_right ..
        · exact Nat.le_refl _
        · exact Nat.le_add_right ..
      exact J.fpOk old (J.hok.fresh old)
/-- either of two ways -/
theorem pi_either {X : Cx} {tg it : Expr} {w1 w2 : TI} (h1 : PI X tg it w1) (h2 : PI X tg it w2) : PI X tg it (fun σ H R => w1 σ H R ∨ w2 σ H R) :=
  ⟨fun pins s σ H R I h => h.elim (h1.run pins s σ H R I) (h2.run pins s σ H R I)⟩
end ZipM
set_option autoImplicit false
set_option linter.all false
set_option maxRecDepth 100000
namespace Zip3
open PySem PySem.Spec PyProof.Rows
open L2
/-- what such a zip yields: the lists as they stand -/
def Itz3 (K : PySem.W.Frag) (k l m : Addr) : It where
  go := fun n H => ∃ us vs ws : List V, ∃ p q r : V, SqL K H k us ∧ SqL K H l vs ∧ SqL K H m ws ∧ us[n]? = some p ∧ vs[n]? = some q ∧ ws[n]? = some r
  yld := fun n H x H' => ∃ (N : Addr) (p q r : V), x = .ref N ∧ H N = none ∧ H' = upd H N (.tup [p, q, r]) ∧ (∀ us, SqL K H k us → us[n]? = some p) ∧ (∀ vs, SqL K H l vs → vs[n]? = some q) ∧ (∀ ws, SqL K H m ws → ws[n]? = some r)
  stop := fun n H => ∃ us vs ws : List V, SqL K H k us ∧ SqL K H l vs ∧ SqL K H m ws ∧ n ≤ us.length ∧ n ≤ vs.length ∧ n ≤ ws.length ∧ (n = us.length ∨ n = vs.length ∨ n = ws.length)
/-- the six cells of the zip at its n-th turn -/
structure Cells (z u o a b c k l m : Addr) (n : Nat) (h : Heap) : Prop where
  zz : IsZip h z u o .none
  uu : IsTupOf3 h u (.ref a) (.ref b) (.ref c)
  oo : ∃ p q r, IsTupOf3 h o p q r
  aa : h.IsListIter a k n
  bb : h.IsListIter b l n
  cc : h.IsListIter c m n
theorem Cells.has {z u o a b c k l m : Addr} {n : Nat} {h : Heap} (s : Cells z u o a b c k l m n h) : ∀ x ∈ [z, u, o, a, b, c], ∃ ob, h.get? x = some ob ∧ ∀ v, ob.data ≠ .cell v := by
  intro x hx
  simp only [List.mem_cons, List.not_mem_nil, or_false] at hx
  obtain ⟨p, q, r, oo⟩ := s.oo
  obtain ⟨oa, ea, _, da⟩ := s.aa
  obtain ⟨ob, eb, _, db⟩ := s.bb
  obtain ⟨oc, ec, _, dc⟩ := s.cc
  rcases hx with rfl | rfl | rfl | rfl | rfl | rfl
  · exact ⟨_, s.zz, by intro v z; cases z⟩
  · exact ⟨_, s.uu, by intro v z; cases z⟩
  · exact ⟨_, oo, by intro v z; cases z⟩
  · exact ⟨_, ea, by intro v z; rw [da] at z; cases z⟩
  · exact ⟨_, eb, by intro v z; rw [db] at z; cases z⟩
  · exact ⟨_, ec, by intro v z; rw [dc] at z; cases z⟩
theorem Cells.stay {z u o a b c k l m : Addr} {n : Nat} {h h' : Heap} (s : Cells z u o a b c k l m n h) (keep : ∀ x ∈ [z, u, o, a, b, c], ∀ ob, h.get? x = some ob → h'.get? x = some ob) : Cells z u o a b c k l m n h' where
  zz := keep z (by simp) _ s.zz
  uu := keep u (by simp) _ s.uu
  oo := by
    obtain ⟨p, q, r, e⟩ := s.oo
    exact ⟨p, q, r, keep o (by simp) _ e⟩
  aa := s.aa.at (keep a (by simp))
  bb := s.bb.at (keep b (by simp))
  cc := s.cc.at (keep c (by simp))
theorem not_among {z u o a b c x : Addr} (h : x ∉ [z, u, o, a, b, c]) : x ≠ z ∧ x ≠ o ∧ x ≠ a ∧ x ≠ b ∧ x ≠ c := by
  simp only [List.mem_cons, List.not_mem_nil, or_false, not_or] at h
  exact ⟨h.1, h.2.2.1, h.2.2.2.1, h.2.2.2.2.1, h.2.2.2.2.2⟩
theorem turn_z3 {P : Program} {w : World} {K : PySem.W.Frag} {elts : List Expr} {kk : Nat} {tpos : Pos} {z u o a b c k l m : Addr} (S : ZipSep3 z u o a b c [a, k] [b, l] [c, m]) (ha : k ≠ a) (hb : l ≠ b) (hc : m ≠ c) :
    Turn P w K (.Tuple elts kk tpos) (Itz3 K k l m) [z, u, o, a, b, c] z (Cells z u o a b c k l m) where
  mem := List.mem_cons_self ..
  obj := fun _ _ s => s.has
  keep := fun _ _ _ s h => s.stay h
  self := fun A n s Q E c q => wpAny_pyIter_zip c.zz q
  done := by
    rintro X rfl rfl rfl calm n pins s σ H E I hf C ⟨us, vs, ws, hu, hv, hw, m1, m2, m3, hend⟩
    have hd : X.A.in1.handled = none := I.ok.hd calm
    obtain ⟨as, r1, p1, _⟩ := I.list hu
    obtain ⟨bs, r2, p2, _⟩ := I.list hv
    obtain ⟨cs, r3, p3, _⟩ := I.list hw
    obtain ⟨x, y, t, oo⟩ := C.oo
    have n1 : as.toArray.size = us.length := by rw [List.size_toArray, r1.length]
    have n2 : bs.toArray.size = vs.length := by rw [List.size_toArray, r2.length]
    have n3 : cs.toArray.size = ws.length := by rw [List.size_toArray, r3.length]
    refine wpAny_pyNext_zipD3_end S (Draws.list hd a k ha as.toArray) (Draws.list hd b l hb bs.toArray) (Draws.list hd c m hc cs.toArray) C.zz C.uu oo ⟨C.aa, p1.isList⟩ ⟨C.bb, p2.isList⟩ ⟨C.cc, p3.isList⟩ (by omega) (by omega) (by omega) (by omega) fun h' tk keep => ⟨rfl, ?_⟩
    refine I.turnedL (t' := tk) (ch := [z, u, o, a, b, c]) (fun x ob hx e => ?_) hf
    obtain ⟨q1, q2, q3, q4, q5⟩ := not_among hx
    exact keep x ob q1 q2 q3 q4 q5 e
  item := by
    rintro X rfl rfl rfl calm n pins s σ H E I hf C ⟨us, vs, ws, p, q, r, hu, hv, hw, hp, hq, hr⟩
    have hd : X.A.in1.handled = none := I.ok.hd calm
    obtain ⟨as, r1, p1, _⟩ := I.list hu
    obtain ⟨bs, r2, p2, _⟩ := I.list hv
    obtain ⟨cs, r3, p3, _⟩ := I.list hw
    obtain ⟨x, y, t, oo⟩ := C.oo
    obtain ⟨x1, g1, rr1⟩ := r1.get hp
    obtain ⟨x2, g2, rr2⟩ := r2.get hq
    obtain ⟨x3, g3, rr3⟩ := r3.get hr
    have la : n < as.toArray.size := by
      rw [List.size_toArray]; exact (List.getElem?_eq_some_iff.mp g1).1
    have lb : n < bs.toArray.size := by
      rw [List.size_toArray]; exact (List.getElem?_eq_some_iff.mp g2).1
    have lc : n < cs.toArray.size := by
      rw [List.size_toArray]; exact (List.getElem?_eq_some_iff.mp g3).1
    refine wpAny_pyNext_zipD3_item S (Draws.list hd a k ha as.toArray) (Draws.list hd b l hb bs.toArray) (Draws.list hd c m hc cs.toArray) C.zz C.uu oo ⟨C.aa, p1.isList⟩ ⟨C.bb, p2.isList⟩ ⟨C.cc, p3.isList⟩ la lb lc fun a' b' c' h1 tk ea eb ec gz go sa sb sc gN _ keep => ?_
    have ea' : a' = x1 := by
      rw [List.getElem?_toArray, g1] at ea
      exact (Option.some.inj ea).symm
    have eb' : b' = x2 := by
      rw [List.getElem?_toArray, g2] at eb
      exact (Option.some.inj eb).symm
    have ec' : c' = x3 := by
      rw [List.getElem?_toArray, g3] at ec
      exact (Option.some.inj ec).symm
    rw [ea', eb', ec'] at go gN
    refine ⟨_, rfl, wpAny_letOwnedTupleGo_zip (s := { s with heap := h1, toks := tk }) gz fun h2 gz2 same => ?_⟩
    have lz := Heap.lt_size C.zz
    have free : H s.heap.objs.size = none := I.hok.fresh (Nat.le_refl _)
    have made : ObjOk X.prog X.w (upd H s.heap.objs.size (.tup [p, q, r])) h2 s.heap.objs.size (.tup [p, q, r]) := by
      refine ⟨?_, [x1, x2, x3], .cons rr1 (.cons rr2 (.cons rr3 .nil)), _, (same.2 _ (Nat.ne_of_gt lz)).trans gN, rfl, _, rfl⟩
      show 3 ≤ sizeLine
      decide
    have J : Inv X pins σ (upd H s.heap.objs.size (.tup [p, q, r])) { s with heap := h2, toks := tk } := by
      refine I.turnedNew (t' := tk) (ch := [z, u, o, a, b, c]) (fun x ob hx e => ?_) hf (Nat.le_refl _) made
      obtain ⟨q1, q2, q3, q4, q5⟩ := not_among hx
      exact (same.2 x q1).trans (keep x ob q1 q2 q3 q4 q5 e)
    have still : ∀ {x : Addr}, x ≠ z → ∀ ob, h1.get? x = some ob → h2.get? x = some ob := fun hx ob e => (same.2 _ hx).trans e
    refine ⟨.ref s.heap.objs.size, _, J, rfl, ⟨_, p, q, r, rfl, free, rfl, fun us' h' => ?_, fun vs' h' => ?_, fun ws' h' => ?_⟩, ⟨gz2, ?_, ⟨x1, x2, x3, still S.TOz _ go⟩, ?_, ?_, ?_⟩, fun x hx => ?_⟩
    · rw [I.list_inj h' hu]; exact hp
    · rw [I.list_inj h' hv]; exact hq
    · rw [I.list_inj h' hw]; exact hr
    · exact still S.TIz _ (keep _ _ S.TIz S.TITO S.TIi1 S.TIi2 S.TIi3 C.uu)
    · exact sa.1.at (still (Ne.symm S.zi1))
    · exact sb.1.at (still (Ne.symm S.zi2))
    · exact sc.1.at (still (Ne.symm S.zi3))
    · obtain ⟨ob, e, _⟩ := C.has x hx
      rw [upd_ne (Nat.ne_of_lt (Heap.lt_size e))]
      exact (hf x hx).1
/-- zip(k, l, m) of three lists -/
def iZ3 (K : PySem.W.Frag) (ta : TA) : TI := fun σ H R => ta σ H fun vs H1 => ∃ (k l m : Addr) (xs ys zs : List V), vs = [.ref k, .ref l, .ref m] ∧ SqL K H1 k xs ∧ SqL K H1 l ys ∧ SqL K H1 m zs ∧ R (Itz3 K k l m) H1
theorem pi_z3 {X : Cx} {e e2 e3 : Expr} {ta : TA} {p pos tpos : Pos} {elts : List Expr} {kk : Nat} (hg : Gl X "zip") (hm : X.mg "zip" = none) (ha : PA X [e, e2, e3] ta)
    (hs : starEach [e, e2, e3] X.env = (false, eval e X.env) :: starEach [e2, e3] X.env) (hpl : (backTo pos (starEach [e2, e3] X.env)).any (·.1) = false) :
    PI X (.Tuple elts kk tpos) (.Call (.Name "zip" p) [e, e2, e3] [] pos) (iZ3 X.K ta) := by
  constructor
  intro pins s σ H R I h
  have args := ha.run pos pins s σ H _ I h
  refine Call_ (ld_blt I hg hm PyProof.Rows.boot_zip (PyProof.Rows.callWith_type1 (thn args ?_) hs hpl))
  rintro us s1 ⟨_, H1, J, vals, k, l, m, xs, ys, zs, rfl, hk, hl, hmm, r⟩
  cases vals with
  | cons q qs =>
    cases qs with
    | cons q2 qs =>
      cases qs with
      | cons q3 qs =>
        cases qs
        obtain rfl := q
        obtain rfl := q2
        obtain rfl := q3
        obtain ⟨as, ra, pa, _⟩ := J.list hk
        obtain ⟨bs, rb, pb, _⟩ := J.list hl
        obtain ⟨cs, rc, pc, _⟩ := J.list hmm
        have lt1 : k < s1.heap.objs.size := pa.lt
        have lt2 : l < s1.heap.objs.size := pb.lt
        have lt3 : m < s1.heap.objs.size := pc.lt
        refine zip_begins3 (begins_list k as.toArray) (begins_list l bs.toArray) (begins_list m cs.toArray) pa.isList pb.isList pc.isList fun h' gz gu go gi gj gk _ same => wpAny_pyIter_zip gz ?_
        have J2 : Inv X pins σ H1 { s1 with heap := h' } := J.kept (t' := s1.toks) same
        refine ⟨_, [s1.heap.objs.size + 5, s1.heap.objs.size + 3, s1.heap.objs.size + 4, s1.heap.objs.size, s1.heap.objs.size + 1, s1.heap.objs.size + 2], _, _, H1, rfl, J2,
          turn_z3 (zip_sep3 (fp1 := [k]) (fp2 := [l]) (fp3 := [m]) (fun b hb => by rw [List.mem_singleton.mp hb]; exact lt1) (fun b hb => by rw [List.mem_singleton.mp hb]; exact lt2) (fun b hb => by rw [List.mem_singleton.mp hb]; exact lt3)) (Nat.ne_of_lt lt1) (Nat.ne_of_lt (Nat.lt_succ_of_lt lt2)) (Nat.ne_of_lt (Nat.lt_succ_of_lt (Nat.lt_succ_of_lt lt3))),
          ⟨gz, gu, ⟨_, _, _, go⟩, ⟨_, gi, rfl, rfl⟩, ⟨_, gj, rfl, rfl⟩, ⟨_, gk, rfl, rfl⟩⟩, fun b hb => ?_, r⟩
        have old : s1.heap.objs.size ≤ b := by
          simp only [List.mem_cons, List.not_mem_nil, or_false] at hb
          rcases hb with rfl | rfl | rfl | rfl | rfl | rfl
          · exact Nat.le_add_right ..
          · exact Nat.le_add_right ..
          · exact Nat.le_add_right ..
          · exact Nat.le_refl _
          · exact Nat.le_add_right ..
          · exact Nat.le_add_right ..
        exact J.fpOk old (J.hok.fresh old)
end Zip3
set_option autoImplicit false
set_option linter.all false
set_option maxRecDepth 100000
namespace RgS
open PySem PySem.Spec PyProof.Rows
open L2
/-- the ints i, i - 1, .. down to j + 1 -/
def dnV (i j : Int) : List V := (List.range (i - j).toNat).map fun k => V.int (i - (k : Nat))
/-- a list of these, newly made -/
def tDn (ta : TA) : TE := fun σ H Q => ta σ H fun vs H1 => ∃ i j : Int, vs = [.int i, .int j, .int (-1)] ∧ RgOk j i ∧ ∀ q, H1 q = none → Q (.ref q) (upd H1 q (.lst (dnV i j)))
section
variable {X : Cx}
theorem dn_made {a b c : Expr} {ta : TA} {p pos : Pos} (hg : Gl X "range") (hm : X.mg "range" = none) (ha : PA X [a, b, c] ta)
    (hs : starEach [a, b, c] X.env = (false, eval a X.env) :: starEach [b, c] X.env) (hpl : (backTo pos (starEach [b, c] X.env)).any (·.1) = false)
    {pins : List (Addr × Obj)} {s : Shared} {σ : L2.St} {H : Hp} {Q : VK} (I : Inv X pins σ H s) (h : tDn ta σ H Q) :
    wpAny (model X.prog X.w) X.A (eval (.Call (.Name "range" p) [a, b, c] [] pos) X.env) (fun x s' => ∃ (r : Addr) (i j : Int) (t u v : Tok) (H' : Hp), x = .ref r ∧ IsRange s'.heap r i j (-1) t u v ∧ Inv X pins σ H' s' ∧ RgOk j i ∧ ∀ q, H' q = none → Q (.ref q) (upd H' q (.lst (dnV i j)))) X.xe s := by
  have args := ha.run pos pins s σ H _ I h
  refine Call_ (ld_blt I hg hm boot_range (PyProof.Rows.callWith_type1 (thn args ?_) hs hpl))
  rintro us s1 ⟨_, H1, J, vals, i, j, rfl, ok, q⟩
  cases vals with
  | cons k1 ks =>
    cases ks with
    | cons k2 ks =>
      cases ks with
      | cons k3 ks =>
        cases ks
        obtain ⟨t, rfl⟩ := k1
        obtain ⟨u, rfl⟩ := k2
        obtain ⟨v, rfl⟩ := k3
        refine call_range_3 (by decide) ?_ (.inl (PyProof.noPylong_small (by decide)))
        exact ⟨_, i, j, t, u, v, H1, rfl, IsRange.new _ _ _ _ _ _ _, J.kept (t' := s1.toks) fun b o e => Heap.get?_push_of_some _ e, ok, q⟩
theorem vals_dn {i j : Int} {acc : Array Value} (h : ItemsOf (fun k v => ∃ t, v = .int (i + k * (-1)) t) acc (i - j).toNat) : Vals (dnV i j) acc.toList := by
  have len : acc.toList.length = (i - j).toNat := (Array.length_toList ..).trans h.1
  unfold dnV
  rw [← len]
  refine vals_of_get _ _ fun n u hn => ?_
  have hn' : acc[n]? = some u := by rw [← Array.getElem?_toList]; exact hn
  obtain ⟨t, rfl⟩ := h.2 n u hn'
  refine ⟨t, ?_⟩
  congr 1
  omega
theorem pe_dn {a b c : Expr} {ta : TA} {p pos p2 pos2 : Pos} (calm : X.calm = true) (hgl : Gl X "list") (hml : X.mg "list" = none) (hg : Gl X "range") (hm : X.mg "range" = none) (ha : PA X [a, b, c] ta)
    (hs : starEach [a, b, c] X.env = (false, eval a X.env) :: starEach [b, c] X.env) (hpl : (backTo pos (starEach [b, c] X.env)).any (·.1) = false) :
    PE X (.Call (.Name "list" p2) [.Call (.Name "range" p) [a, b, c] [] pos] [] pos2) (tDn ta) := by
  constructor
  intro pins s σ H Q I h
  have na : starEach [Expr.Call (.Name "range" p) [a, b, c] [] pos] X.env = (false, eval (Expr.Call (.Name "range" p) [a, b, c] [] pos) X.env) :: starEach [] X.env := rfl
  refine Call_ (ld_blt I hgl hml boot_list (PyProof.Rows.callWith_type1 (args_cons (thn (dn_made hg hm ha hs hpl I h) ?_) na) na))
  rintro _ s1 ⟨r, i, j, t, u, v, H1, rfl, made, J, ⟨o1, o2, o3, o4, o5⟩, q⟩
  refine args_nil ?_
  obtain ⟨_, _, sm, sz⟩ := RgC.neg o3 o4 o1 o2
  refine call_list_range (n := (i - j).toNat) (J.ok.hd calm) made sm sz o5 fun h' tk acc cap same at_ items => ?_
  have few : (dnV i j).length ≤ sizeLine := by
    unfold dnV
    rw [List.length_map, List.length_range, sizeLine_eq]
    omega
  have cell : ObjOk X.prog X.w (upd H1 s1.heap.objs.size (.lst (dnV i j))) h' s1.heap.objs.size (.lst (dnV i j)) := by
    refine ⟨few, acc.toList, cap, vals_dn items, ?_⟩
    rw [Array.toArray_toList]
    exact at_
  exact ⟨.ref s1.heap.objs.size, _, J.laid same (Nat.le_refl _) cell, rfl, q _ (J.hok.fresh (Nat.le_refl _))⟩
end
end RgS
set_option autoImplicit false
set_option linter.all false
namespace Ev
open PySem
open L2
def tE (K : PySem.W.Frag) (ev : Env → Sto → R (D × Sto)) : TE := fun σ H Q => ∃ r S m d S', REnv K H m r σ ∧ RSt K H m S ∧ ev r S = .ok (d, S') ∧
  ∀ v H' m', Up H m H' m' → RepD K H' m' d v → RSt K H' m' S' → Q v H'
def tT (K : PySem.W.Frag) (ev : Env → Sto → R (Bool × Sto)) : TT := fun σ H Q => ∃ r S m t S', REnv K H m r σ ∧ RSt K H m S ∧ ev r S = .ok (t, S') ∧
  ∀ H' m', Up H m H' m' → RSt K H' m' S' → Q t H'
def tL (K : PySem.W.Frag) (ev : Env → Sto → R (List D × Sto)) : TA := fun σ H Q => ∃ r S m ds S', REnv K H m r σ ∧ RSt K H m S ∧ ev r S = .ok (ds, S') ∧
  ∀ vs H' m', Up H m H' m' → RepL K H' m' ds vs → RSt K H' m' S' → Q vs H'
/-- a walked thing's turns -/
structure WalksD (K : PySem.W.Frag) (J : It) (g : G) (xs : List D) (H0 : Hp) (m0 : List Addr) : Prop where
  go : ∀ H m S, Up H0 m0 H m → RSt K H m S → gok g S → ∀ i, i < xs.length → J.go i H
  yld : ∀ H m S, Up H0 m0 H m → RSt K H m S → gok g S → ∀ i x H' d, xs[i]? = some d → J.yld i H x H' → Up H m H' m ∧ RSt K H' m S ∧ RepD K H' m d x
  stop : ∀ H m S, Up H0 m0 H m → RSt K H m S → gok g S → J.stop xs.length H
def tI (K : PySem.W.Frag) (k : Ev.K) (ev : Env → Sto → R (List D × Sto)) : TI := fun σ H Q => ∃ r S m z it, REnv K H m r σ ∧ RSt K H m S ∧ ev r S = .ok z ∧ srcD k z.1 z.2 = .ok it ∧
  ∀ J H' m', Up H m H' m' → RSt K H' m' z.2 → WalksD K J it.2 it.1 H' m' → Q J H'
theorem REnv.set {K : PySem.W.Frag} {H : Hp} {m : List Addr} {r : Env} {σ : L2.St} {d : D} {v : V} (h : REnv K H m r σ) (i : Nat) (rd : RepD K H m d v) : REnv K H m (r.set i (some d)) (σ.set i (some v)) := by
  refine ⟨by simp [h.len], fun j d' e => ?_⟩
  by_cases hj : i = j
  · subst hj
    by_cases hl : i < r.length
    · rw [List.getElem?_set_self hl] at e
      cases e
      exact ⟨v, by rw [List.getElem?_set_self (by rw [← h.len]; exact hl)], rd⟩
    · rw [List.getElem?_eq_none (by simpa using hl)] at e; cases e
  · rw [List.getElem?_set_ne hj] at e ⊢
    exact h.at_ j d' e
theorem bindPs_cons {p : Pt} {ps : List Pt} {ds : List D} {r r1 : Env} (h : bindPs (p :: ps) ds r = some r1) : ∃ d ds' r', ds = d :: ds' ∧ bindP p d r = some r' ∧ bindPs ps ds' r' = some r1 := by
  cases ds with
  | nil => simp [bindPs] at h
  | cons d ds' =>
    simp only [bindPs] at h
    cases e : bindP p d r with
    | none => rw [e] at h; cases h
    | some r' => rw [e] at h; exact ⟨d, ds', r', rfl, e, h⟩
section
variable {X : Cx}
theorem pgs_of {ns : List Str} {ok : Str → Bool} (n : Nat) (ih : ∀ e p, cP ns ok n e = some p → PG X e (gP X.K p)) : ∀ (es : List Expr) (ps : List Pt), es.any isStar = false → mapO (cP ns ok n) es = some ps → PGs X es (gPs X.K ps)
  | [], ps, _, h => by
    cases h
    refine pgs_nil.imp fun vs σ H Q q => ?_
    obtain ⟨ds, m, r, r1, h1, h2, h3, h4⟩ := q
    cases ds with
    | nil =>
      simp only [bindPs] at h3
      cases h3
      simp only [RepL] at h1
      exact ⟨h1, h4 _ h2 (fun _ _ => rfl) rfl⟩
    | cons d ds => simp [bindPs] at h3
  | e :: es, ps, hs, h => by
    simp only [List.any_cons, Bool.or_eq_false_iff] at hs
    obtain ⟨p, ps', h1, h2, rfl⟩ := mapO_cons h
    refine (pgs_cons (ih _ _ h1) (pgs_of n ih es ps' hs.2 h2) (by rw [assign_no hs.1]; rfl)).imp fun vs σ H Q q => ?_
    obtain ⟨ds, m, r, r1, r3, r4, h5, h6⟩ := q
    obtain ⟨d, ds', r', rfl, e1, e2⟩ := bindPs_cons h5
    simp only [RepL] at r3
    obtain ⟨v, vs', rfl, k1, k2⟩ := r3
    refine ⟨v, vs', rfl, d, m, r, r', k1, r4, e1, fun σ' z1 z2 z3 => ⟨ds', m, r', r1, k2, z1, e2, fun σ2 y1 y2 y3 => h6 σ2 y1 (fun i hi => ?_) (y3.trans z3)⟩⟩
    simp only [Pt.slotsL, List.mem_append, not_or] at hi
    rw [y2 i hi.2, z2 i hi.1]
theorem pg_of {ns : List Str} {ok : Str → Bool} (hN : X.N = ns) (nd : ns.Nodup) (hc : X.calm = true) (hok : ∀ x, ok x = true → Loc X.env.scope x ∧ (X.fn x = true ∨ X.env.scope.names.lookup x = some .local)) :
    ∀ (n : Nat) (e : Expr) (p : Pt), cP ns ok n e = some p → PG X e (gP X.K p)
  | 0, _, _, h => by cases h
  | n + 1, e, p, h => by
    cases e with
    | Name x pos =>
      simp only [cP] at h
      split at h
      · rename_i ho
        obtain ⟨i, e1, rfl⟩ := Option.map_eq_some_iff.mp h
        obtain ⟨k1, k2⟩ := hok x ho
        refine (pg_name (i := i) (by rw [hN]; exact nd) (by rw [hN]; exact idx_get e1) k1 k2).imp fun v σ H Q q => ?_
        obtain ⟨d, m, r, r1, h1, h2, h3, h4⟩ := q
        simp only [bindP] at h3
        cases h3
        refine h4 _ (h2.set i h1) (fun j hj => ?_) (by simp)
        simp only [Pt.slots, List.mem_singleton] at hj
        exact List.getElem?_set_ne (Ne.symm hj)
      · cases h
    | Tuple es k pos =>
      simp only [cP] at h
      split at h
      · cases h
      · rename_i hs
        have hs' : es.any isStar = false := by simpa using hs
        obtain ⟨ps, e1, rfl⟩ := Option.map_eq_some_iff.mp h
        obtain ⟨a1, a2⟩ := assign_all (env := X.env) hs'
        refine (pg_tup (n := es.length) hc (pgs_of n (pg_of hN nd hc hok n) es ps hs' e1) a1 a2).imp fun v σ H Q q => ?_
        obtain ⟨d, m, r, r1, h1, h2, h3, h4⟩ := q
        cases d with
        | tup ds =>
          simp only [bindP] at h3
          obtain ⟨a, vs, rfl, k1, k2⟩ := rep_tup h1
          refine ⟨a, vs, rfl, k1, ?_, ds, m, r, r1, k2, h2, h3, fun σ' y1 y2 y3 => h4 σ' y1 (by simpa only [Pt.slots] using y2) y3⟩
          rw [← k2.length]
          have len1 : ∀ (es : List Expr) (ps : List Pt), mapO (cP ns ok n) es = some ps → es.length = ps.length := by
            intro es
            induction es with
            | nil => intro ps h; cases h; rfl
            | cons e es ih => intro ps h; obtain ⟨y, ys, _, q2, rfl⟩ := mapO_cons h; simp [ih ys q2]
          have len2 : ∀ (ps : List Pt) (ds : List D) (r r1 : Env), bindPs ps ds r = some r1 → ds.length = ps.length := by
            intro ps
            induction ps with
            | nil => intro ds r r1 h; cases ds with
              | nil => rfl
              | cons _ _ => simp [bindPs] at h
            | cons p ps ih => intro ds r r1 h; obtain ⟨d, ds', r', rfl, _, q2⟩ := bindPs_cons h; simp [ih ds' r' r1 q2]
          rw [len2 _ _ _ _ h3, len1 _ _ e1]
        | _ => simp [bindP] at h3
    | _ => cases h
theorem walks_loc {K : PySem.W.Frag} {H0 : Hp} {m0 : List Addr} {k : Nat} {a : Addr} {xs : List D} (hk : m0[k]? = some a) : WalksD K (Itl K a) (.one (k, xs)) xs H0 m0 := by
  have core : ∀ {H m S}, Up H0 m0 H m → RSt K H m S → gok (.one (k, xs)) S → ∃ vs, H a = some (.lst vs) ∧ RepL K H m xs vs := fun {H m S} u st g => by
    obtain ⟨b, vs, e1, _, e2, e3⟩ := st.loc (v := .ref a) (show S[k]? = some (.lst xs) from g) (by simp only [RepD]; exact ⟨a, u.get hk, rfl⟩)
    cases e1
    exact ⟨vs, e2, e3⟩
  refine ⟨fun H m S u st g i hi => ?_, fun H m S u st g i x H' d hd y => ?_, fun H m S u st g => ?_⟩
  · obtain ⟨vs, h1, h2⟩ := core u st g
    have hl : i < vs.length := by rw [← h2.length]; exact hi
    exact ⟨vs, vs[i], SqL.of h1, List.getElem?_eq_getElem hl⟩
  · obtain ⟨vs, h1, h2⟩ := core u st g
    obtain ⟨rfl, y⟩ := y
    obtain ⟨w, h3, h4⟩ := h2.get hd
    have h5 := y vs (SqL.of h1)
    rw [h3] at h5; cases h5
    exact ⟨Up.refl, st, h4⟩
  · obtain ⟨vs, h1, h2⟩ := core u st g
    exact ⟨vs, SqL.of h1, by rw [h2.length]; exact Nat.le_refl _⟩
theorem walks_tup {K : PySem.W.Frag} {H0 : Hp} {m0 : List Addr} {a : Addr} {xs : List D} {vs : List V} (h : SqT K H0 a vs) (r : RepL K H0 m0 xs vs) : WalksD K (Itt K a) .no xs H0 m0 := by
  refine ⟨fun H m S u st g i hi => ?_, fun H m S u st g i x H' d hd y => ?_, fun H m S u st g => ?_⟩
  · exact ⟨vs, vs[i]'(by rw [← r.length]; exact hi), u.sqT h, List.getElem?_eq_getElem _⟩
  · obtain ⟨rfl, y⟩ := y
    obtain ⟨w, h3, h4⟩ := (RepL.up u _ _ r).get hd
    have h5 := y vs (u.sqT h)
    rw [h3] at h5; cases h5
    exact ⟨Up.refl, st, h4⟩
  · exact ⟨vs, u.sqT h, by rw [r.length]; exact Nat.le_refl _⟩
theorem walks_frz {K : PySem.W.Frag} {H0 : Hp} {m0 : List Addr} {a : Addr} {xs : List D} {vs : List V} (h : FrzL K H0 a vs) (r : RepL K H0 m0 xs vs) : WalksD K (Itl K a) .no xs H0 m0 := by
  refine ⟨fun H m S u st g i hi => ?_, fun H m S u st g i x H' d hd y => ?_, fun H m S u st g => ?_⟩
  · exact ⟨vs, vs[i]'(by rw [← r.length]; exact hi), (u.frzL h).sq, List.getElem?_eq_getElem _⟩
  · obtain ⟨rfl, y⟩ := y
    obtain ⟨w, h3, h4⟩ := (RepL.up u _ _ r).get hd
    have h5 := y vs (u.frzL h).sq
    rw [h3] at h5; cases h5
    exact ⟨Up.refl, st, h4⟩
  · exact ⟨vs, (u.frzL h).sq, by rw [r.length]; exact Nat.le_refl _⟩
theorem rg_length (a b : Int) : (rg a b).length = (b - a).toNat := by unfold rg; simp
theorem rg_get {a b : Int} {i : Nat} {d : D} (h : (rg a b)[i]? = some d) : d = .int (a + (i : Nat)) := by
  unfold rg at h
  rw [List.getElem?_map] at h
  obtain ⟨j, h1, rfl⟩ := Option.map_eq_some_iff.mp h
  obtain ⟨h2, h3⟩ := List.getElem?_eq_some_iff.mp h1
  simp at h3; subst h3; rfl
theorem walks_rg {K : PySem.W.Frag} {H0 : Hp} {m0 : List Addr} (a b : Int) : WalksD K (Itr a (b - a).toNat) .no (rg a b) H0 m0 := by
  refine ⟨fun H m S u st g i hi => ?_, fun H m S u st g i x H' d hd y => ?_, fun H m S u st g => ?_⟩
  · rw [rg_length] at hi; exact hi
  · obtain ⟨rfl, rfl⟩ := y
    cases rg_get hd
    exact ⟨Up.refl, st, mk_int _⟩
  · rw [rg_length]; exact Nat.le_refl _
theorem pairs_get {xs : List D} {i : Nat} {d : D} (h : (pairs xs)[i]? = some d) : ∃ x, xs[i]? = some x ∧ d = .tup [.int (i : Nat), x] := by
  unfold pairs at h
  rw [List.getElem?_zipWith] at h
  cases h1 : (List.range xs.length)[i]? with
  | none => rw [h1] at h; simp at h
  | some j =>
    cases h2 : xs[i]? with
    | none => rw [h1, h2] at h; simp at h
    | some x =>
      rw [h1, h2] at h
      obtain ⟨_, h3⟩ := List.getElem?_eq_some_iff.mp h1
      simp at h3 h
      subst h3; subst h
      exact ⟨x, rfl, rfl⟩
theorem pairs_length (xs : List D) : (pairs xs).length = xs.length := by unfold pairs; simp
theorem walks_enum {K : PySem.W.Frag} {H0 : Hp} {m0 : List Addr} {k : Nat} {a : Addr} {xs : List D} (hk : m0[k]? = some a) : WalksD K (Ite K a) (.one (k, xs)) (pairs xs) H0 m0 := by
  have core : ∀ {H m S}, Up H0 m0 H m → RSt K H m S → gok (.one (k, xs)) S → ∃ vs, H a = some (.lst vs) ∧ RepL K H m xs vs := fun {H m S} u st g => by
    obtain ⟨b, vs, e1, _, e2, e3⟩ := st.loc (v := .ref a) (show S[k]? = some (.lst xs) from g) (by simp only [RepD]; exact ⟨a, u.get hk, rfl⟩)
    cases e1
    exact ⟨vs, e2, e3⟩
  refine ⟨fun H m S u st g i hi => ?_, fun H m S u st g i x H' d hd y => ?_, fun H m S u st g => ?_⟩
  · obtain ⟨vs, h1, h2⟩ := core u st g
    rw [pairs_length] at hi
    have hl : i < vs.length := by rw [← h2.length]; exact hi
    exact ⟨vs, vs[i], SqL.of h1, List.getElem?_eq_getElem hl⟩
  · obtain ⟨vs, h1, h2⟩ := core u st g
    obtain ⟨T, w, rfl, hT, rfl, y⟩ := y
    obtain ⟨e, h3, rfl⟩ := pairs_get hd
    obtain ⟨w', h4, h5⟩ := h2.get h3
    have h6 := y vs (SqL.of h1)
    rw [h4] at h6; cases h6
    exact st.freshT hT (.cons (mk_int _) (RepL.one h5))
  · obtain ⟨vs, h1, h2⟩ := core u st g
    exact ⟨vs, SqL.of h1, by rw [pairs_length, h2.length]; exact Nat.le_refl _⟩
theorem walks_enumT {K : PySem.W.Frag} {H0 : Hp} {m0 : List Addr} {a : Addr} {xs : List D} {vs : List V} (h : SqT K H0 a vs) (r : RepL K H0 m0 xs vs) : WalksD K (EnT.It' K a) .no (pairs xs) H0 m0 := by
  refine ⟨fun H m S u st g i hi => ?_, fun H m S u st g i x H' d hd y => ?_, fun H m S u st g => ?_⟩
  · rw [pairs_length] at hi
    exact ⟨vs, vs[i]'(by rw [← r.length]; exact hi), u.sqT h, List.getElem?_eq_getElem _⟩
  · obtain ⟨T, w, rfl, hT, rfl, y⟩ := y
    obtain ⟨e, h3, rfl⟩ := pairs_get hd
    obtain ⟨w', h4, h5⟩ := (RepL.up u _ _ r).get h3
    have h6 := y vs (u.sqT h)
    rw [h4] at h6; cases h6
    exact st.freshT hT (.cons (mk_int _) (RepL.one h5))
  · exact ⟨vs, u.sqT h, by rw [pairs_length, r.length]⟩
theorem zipT_get {xs ys : List D} {i : Nat} {d : D} (h : (zipT xs ys)[i]? = some d) : ∃ x y, xs[i]? = some x ∧ ys[i]? = some y ∧ d = .tup [x, y] := by
  unfold zipT at h
  rw [List.getElem?_zipWith] at h
  cases h1 : xs[i]? with
  | none => rw [h1] at h; simp at h
  | some x =>
    cases h2 : ys[i]? with
    | none => rw [h1, h2] at h; simp at h
    | some y =>
      rw [h1, h2] at h
      cases h
      exact ⟨x, y, rfl, rfl, rfl⟩
theorem zipT_length (xs ys : List D) : (zipT xs ys).length = min xs.length ys.length := by unfold zipT; simp
theorem walks_zip {K : PySem.W.Frag} {H0 : Hp} {m0 : List Addr} {a b : Addr} {xs ys : List D} {vs ws : List V} (h : SqT K H0 a vs) (r : RepL K H0 m0 xs vs) (h' : SqT K H0 b ws) (r' : RepL K H0 m0 ys ws) : WalksD K (RZ.ItzT K a b) .no (zipT xs ys) H0 m0 := by
  refine ⟨fun H m S u st g i hi => ?_, fun H m S u st g i x H' d hd y => ?_, fun H m S u st g => ?_⟩
  · rw [zipT_length, r.length, r'.length] at hi
    exact ⟨vs, ws, vs[i]'(by omega), ws[i]'(by omega), u.sqT h, u.sqT h', List.getElem?_eq_getElem _, List.getElem?_eq_getElem _⟩
  · obtain ⟨T, w, w2, rfl, hT, rfl, y1, y2⟩ := y
    obtain ⟨e, e2, h3, h4, rfl⟩ := zipT_get hd
    obtain ⟨v1, h5, h6⟩ := (RepL.up u _ _ r).get h3
    obtain ⟨v2, h7, h8⟩ := (RepL.up u _ _ r').get h4
    have z1 := y1 vs (u.sqT h)
    rw [h5] at z1; cases z1
    have z2 := y2 ws (u.sqT h')
    rw [h7] at z2; cases z2
    exact st.freshT hT (.cons h6 (RepL.one h8))
  · refine ⟨vs, ws, u.sqT h, u.sqT h', ?_⟩
    rw [zipT_length, r.length, r'.length]
    omega
theorem walks_zipL {K : PySem.W.Frag} {H0 : Hp} {m0 : List Addr} {k l : Nat} {a b : Addr} {xs ys : List D} (hk : m0[k]? = some a) (hl : m0[l]? = some b) : WalksD K (Itz K a b) (.two (k, xs) (l, ys)) (zipT xs ys) H0 m0 := by
  have core : ∀ {H m S}, Up H0 m0 H m → RSt K H m S → gok (.two (k, xs) (l, ys)) S → ∃ vs ws, H a = some (.lst vs) ∧ RepL K H m xs vs ∧ H b = some (.lst ws) ∧ RepL K H m ys ws := fun {H m S} u st g => by
    obtain ⟨g1, g2⟩ := g
    obtain ⟨a', vs, e1, _, e2, e3⟩ := st.loc (v := .ref a) g1 (by simp only [RepD]; exact ⟨a, u.get hk, rfl⟩)
    cases e1
    obtain ⟨b', ws, e4, _, e5, e6⟩ := st.loc (v := .ref b) g2 (by simp only [RepD]; exact ⟨b, u.get hl, rfl⟩)
    cases e4
    exact ⟨vs, ws, e2, e3, e5, e6⟩
  refine ⟨fun H m S u st g i hi => ?_, fun H m S u st g i x H' d hd y => ?_, fun H m S u st g => ?_⟩
  · obtain ⟨vs, ws, h1, h2, h3, h4⟩ := core u st g
    rw [zipT_length, h2.length, h4.length] at hi
    exact ⟨vs, ws, vs[i]'(by omega), ws[i]'(by omega), SqL.of h1, SqL.of h3, List.getElem?_eq_getElem _, List.getElem?_eq_getElem _⟩
  · obtain ⟨vs, ws, h1, h2, h3, h4⟩ := core u st g
    obtain ⟨T, w, w2, rfl, hT, rfl, y1, y2⟩ := y
    obtain ⟨e, e2, h5, h6, rfl⟩ := zipT_get hd
    obtain ⟨v1, h7, h8⟩ := h2.get h5
    obtain ⟨v2, h9, h10⟩ := h4.get h6
    have z1 := y1 vs (SqL.of h1)
    rw [h7] at z1; cases z1
    have z2 := y2 ws (SqL.of h3)
    rw [h9] at z2; cases z2
    exact st.freshT hT (.cons h8 (RepL.one h10))
  · obtain ⟨vs, ws, h1, h2, h3, h4⟩ := core u st g
    refine ⟨vs, ws, SqL.of h1, SqL.of h3, ?_⟩
    rw [zipT_length, h2.length, h4.length]
    omega
theorem walks_zipM {K : PySem.W.Frag} {H0 : Hp} {m0 : List Addr} {l : Nat} {a b : Addr} {xs ys : List D} {vs : List V} (h : SqT K H0 a vs) (r : RepL K H0 m0 xs vs) (hl : m0[l]? = some b) : WalksD K (ZipM.Itzm K a b) (.one (l, ys)) (zipT xs ys) H0 m0 := by
  have core : ∀ {H m S}, Up H0 m0 H m → RSt K H m S → gok (.one (l, ys)) S → SqT K H a vs ∧ RepL K H m xs vs ∧ ∃ ws, SqL K H b ws ∧ RepL K H m ys ws := fun {H m S} u st g => by
    obtain ⟨b', ws, e4, _, e5, e6⟩ := st.loc (v := .ref b) g (by simp only [RepD]; exact ⟨b, u.get hl, rfl⟩)
    cases e4
    exact ⟨u.sqT h, RepL.up u _ _ r, ws, SqL.of e5, e6⟩
  refine ⟨fun H m S u st g i hi => ?_, fun H m S u st g i x H' d hd y => ?_, fun H m S u st g => ?_⟩
  · obtain ⟨h1, h2, ws, h3, h4⟩ := core u st g
    rw [zipT_length, h2.length, h4.length] at hi
    exact ⟨vs, ws, vs[i]'(by omega), ws[i]'(by omega), h1, h3, List.getElem?_eq_getElem _, List.getElem?_eq_getElem _⟩
  · obtain ⟨h1, h2, ws, h3, h4⟩ := core u st g
    obtain ⟨T, w, w2, rfl, hT, rfl, y1, y2⟩ := y
    obtain ⟨e, e2, h5, h6, rfl⟩ := zipT_get hd
    obtain ⟨v1, h7, h8⟩ := h2.get h5
    obtain ⟨v2, h9, h10⟩ := h4.get h6
    have z1 := y1 vs h1
    rw [h7] at z1; cases z1
    have z2 := y2 ws h3
    rw [h9] at z2; cases z2
    exact st.freshT hT (.cons h8 (RepL.one h10))
  · obtain ⟨h1, h2, ws, h3, h4⟩ := core u st g
    refine ⟨vs, ws, h1, h3, ?_⟩
    rw [zipT_length, h2.length, h4.length]
    omega
theorem zip3T_get {xs ys zs : List D} {i : Nat} {d : D} (h : (zip3T xs ys zs)[i]? = some d) : ∃ x y z, xs[i]? = some x ∧ ys[i]? = some y ∧ zs[i]? = some z ∧ d = .tup [x, y, z] := by
  unfold zip3T at h
  rw [List.getElem?_map] at h
  obtain ⟨⟨x, y, z⟩, hp, rfl⟩ := Option.map_eq_some_iff.mp h
  obtain ⟨h1, h2⟩ := List.getElem?_zip_eq_some.mp hp
  obtain ⟨h3, h4⟩ := List.getElem?_zip_eq_some.mp h2
  exact ⟨x, y, z, h1, h3, h4, rfl⟩
theorem zip3T_length (xs ys zs : List D) : (zip3T xs ys zs).length = min xs.length (min ys.length zs.length) := by
  unfold zip3T
  rw [List.length_map, List.length_zip, List.length_zip]
theorem walks_zip3 {K : PySem.W.Frag} {H0 : Hp} {m0 : List Addr} {k l m' : Nat} {a b c : Addr} {xs ys zs : List D} (hk : m0[k]? = some a) (hl : m0[l]? = some b) (hm : m0[m']? = some c) : WalksD K (Zip3.Itz3 K a b c) (.thr (k, xs) (l, ys) (m', zs)) (zip3T xs ys zs) H0 m0 := by
  have core : ∀ {H m S}, Up H0 m0 H m → RSt K H m S → gok (.thr (k, xs) (l, ys) (m', zs)) S → ∃ us vs ws, H a = some (.lst us) ∧ RepL K H m xs us ∧ H b = some (.lst vs) ∧ RepL K H m ys vs ∧ H c = some (.lst ws) ∧ RepL K H m zs ws := fun {H m S} u st g => by
    obtain ⟨g1, g2, g3⟩ := g
    obtain ⟨a', us, e1, _, e2, e3⟩ := st.loc (v := .ref a) g1 (by simp only [RepD]; exact ⟨a, u.get hk, rfl⟩)
    cases e1
    obtain ⟨b', vs, e4, _, e5, e6⟩ := st.loc (v := .ref b) g2 (by simp only [RepD]; exact ⟨b, u.get hl, rfl⟩)
    cases e4
    obtain ⟨c', ws, e7, _, e8, e9⟩ := st.loc (v := .ref c) g3 (by simp only [RepD]; exact ⟨c, u.get hm, rfl⟩)
    cases e7
    exact ⟨us, vs, ws, e2, e3, e5, e6, e8, e9⟩
  refine ⟨fun H m S u st g i hi => ?_, fun H m S u st g i x H' d hd y => ?_, fun H m S u st g => ?_⟩
  · obtain ⟨us, vs, ws, h1, h2, h3, h4, h5, h6⟩ := core u st g
    rw [zip3T_length, h2.length, h4.length, h6.length] at hi
    exact ⟨us, vs, ws, us[i]'(by omega), vs[i]'(by omega), ws[i]'(by omega), SqL.of h1, SqL.of h3, SqL.of h5, List.getElem?_eq_getElem _, List.getElem?_eq_getElem _, List.getElem?_eq_getElem _⟩
  · obtain ⟨us, vs, ws, h1, h2, h3, h4, h5, h6⟩ := core u st g
    obtain ⟨T, w, w2, w3, rfl, hT, rfl, y1, y2, y3⟩ := y
    obtain ⟨p, q, r, i1, i2, i3, rfl⟩ := zip3T_get hd
    obtain ⟨v1, j1, k1⟩ := h2.get i1
    obtain ⟨v2, j2, k2⟩ := h4.get i2
    obtain ⟨v3, j3, k3⟩ := h6.get i3
    have z1 := y1 us (SqL.of h1)
    rw [j1] at z1; cases z1
    have z2 := y2 vs (SqL.of h3)
    rw [j2] at z2; cases z2
    have z3 := y3 ws (SqL.of h5)
    rw [j3] at z3; cases z3
    exact st.freshT hT (.cons k1 (.cons k2 (RepL.one k3)))
  · obtain ⟨us, vs, ws, h1, h2, h3, h4, h5, h6⟩ := core u st g
    refine ⟨us, vs, ws, SqL.of h1, SqL.of h3, SqL.of h5, ?_⟩
    rw [zip3T_length, h2.length, h4.length, h6.length]
    omega
/-- a list or a tuple, whichever it is -/
theorem pi_any {tg l : Expr} {tl : TE} (hl : PE X l tl) : PI X tg l (fun σ H Q => tl σ H fun x H1 => ∃ a, x = .ref a ∧ (((∃ xs, SqL X.K H1 a xs) ∧ Q (Itl X.K a) H1) ∨ ((∃ xs, SqT X.K H1 a xs) ∧ Q (Itt X.K a) H1))) := by
  refine ⟨fun pins s σ H Q I h => thn (hl.run pins s σ H _ I h) ?_⟩
  rintro v s1 ⟨x, H1, I1, r1, a, rfl, q⟩
  cases r1
  have fresh : ∀ b ∈ [s1.heap.objs.size], FpOk X pins H1 b := fun b hb => by
    simp only [List.mem_singleton] at hb
    subst hb
    exact I1.fpOk (Nat.le_refl _) (I1.hok.fresh (Nat.le_refl _))
  rcases q with ⟨⟨xs, hq⟩, q⟩ | ⟨⟨xs, hq⟩, q⟩
  · obtain ⟨its, rv, pl, hz⟩ := I1.list hq
    refine wpAny_pyIter_list pl.isList ⟨_, _, _, Itl X.K a, H1, rfl, I1.kept (t' := s1.toks) (fun b o e => Heap.get?_push_of_some _ e), turn_list a _, ⟨_, Heap.get?_push_size _ rfl, rfl, rfl⟩, fresh, q⟩
  · obtain ⟨its, rv, pl, hz⟩ := I1.tuple hq
    refine wpAny_pyIter_tuple (show s1.heap.IsTuple a its.toArray from pl) ⟨_, _, _, Itt X.K a, H1, rfl, I1.kept (t' := s1.toks) (fun b o e => Heap.get?_push_of_some _ e), turn_tuple a _, ⟨_, Heap.get?_push_size _ rfl, rfl, rfl⟩, fresh, q⟩
end
end Ev
set_option autoImplicit false
set_option linter.all false
namespace Ev
open PySem PySem.Spec PyProof.Rows L2
/-- at a lies a table of the module -/
structure GDct (P : Params) (K : PySem.W.Frag) (a : Addr) (kvs : List (Str × Int)) : Prop where
  at_ : ∃ es n, K.lookup a = some ⟨.type "dict", none, .dict es n, #[]⟩ ∧ PySem.W.KeysLit P es.toList
  low : (a == sysModules) = false
  got : ∀ (z : Str) (i : Int), kvs.lookup z = some i → ∃ t, PySem.W.nsIn K a z = some (some (.int i t))
  mis : ∀ z : Str, kvs.lookup z = none → PySem.W.nsIn K a z = some none
def tKGet (a : Addr) (kvs : List (Str × Int)) (td ty tx : TE) : TE := fun σ H Q => td σ H fun x H1 => x = .ref a ∧ ty σ H1 fun y H2 => tx σ H2 fun z H3 => ∃ k, y = .str k ∧ Q (match kvs.lookup k with
  | some i => .int i
  | none => z) H3
section
variable {X : Cx} {o e f : Expr} {apos cpos : Pos} {td ty tx : TE} {a : Addr} {kvs : List (Str × Int)}
theorem pe_kget (g : GDct X.w.params X.K a kvs) (ho : PE X o td) (he : PE X e ty) (hf : PE X f tx) (m : M2 X o "get" apos e f cpos) : PE X (.Call (.Attribute o "get" apos) [e, f] [] cpos) (tKGet a kvs td ty tx) := by
  refine ⟨fun pins s σ H Q I h => ?_⟩
  obtain ⟨⟨es, n, hl, hk⟩, low, got, mis⟩ := g
  refine wpAny_Call_method m.base m.few m.line PySem.F.plainAttrs_dict PySem.F.slot_dict_get PySem.F.type_dict_get (thn (ho.run pins s σ H _ I h) fun u s1 ⟨x, H1, I1, rx, ex, q1⟩ => ?_)
  subst ex
  obtain rfl : u = Value.ref a := rx
  have hm1 := PySem.W.mapOf_K (prog := X.prog) (w := X.w) I1.kIn hl hk
  refine ⟨hm1.typeIs, fun b q => ?_, ?_⟩
  · cases q
    exact ⟨_, I1.kIn _ _ hl, rfl⟩
  rw [m.trees]
  refine Calls.callWith_builtin rfl (Calls.evalArgs_plain (Calls.spliced_cons (thn (he.run pins s1 σ H1 _ I1 q1) fun iv s2 ⟨y, H2, I2, ry, q2⟩ =>
    Calls.spliced_cons (thn (hf.run pins s2 σ H2 _ I2 q2) fun fv s3 ⟨z, H3, I3, rz, k, ey, q3⟩ => Calls.spliced_nil ?_))))
  subst ey
  obtain ⟨t, rfl⟩ := (show ∃ t, iv = Value.str k t from ry)
  have hm3 := PySem.W.mapOf_K (prog := X.prog) (w := X.w) I3.kIn hl hk
  refine call_meetsIn PySem.F.slot_dict_get hm3.typeIs PySem.F.entry_dict_get (PySem.F.args_dict_get_3 _ _ _) (meets_dict_get_default (strKind X.prog X.w) a (strKind_is X.prog X.w k t) low fv) ⟨_, hm3, ?_⟩
  cases hc : kvs.lookup k with
  | some i =>
    rw [hc] at q3
    obtain ⟨t2, e2⟩ := got k i hc
    rw [PySem.W.find_K hl e2]
    exact ⟨.int i, H3, I3.tok _, ⟨t2, rfl⟩, q3⟩
  | none =>
    rw [hc] at q3
    rw [PySem.W.find_K hl (mis k hc)]
    exact ⟨z, H3, I3.tok _, rz, q3⟩
end
end Ev
set_option autoImplicit false
set_option linter.all false
namespace Ev
open PySem
open L2
def spF (K : PySem.W.Frag) (F : Nat → List D → Sto → R (D × Sto)) (i : Nat) : Sp := fun vs H Q _ => ∃ S m ds d S', RepL K H m ds vs ∧ RSt K H m S ∧ F i ds S = .ok (d, S') ∧
  ∀ v H' m', Up H m H' m' → RepD K H' m' d v → RSt K H' m' S' → Q v H'
def pickL {α : Type} (g : List Nat) (l : List α) : List α := g.filterMap fun i => l[i]?
structure FnAt (X : Cx) (g : Ctx) (F : Nat → List D → Sto → R (D × Sto)) (l : Nat) (x : Str) (i : Nat) (ps : List Str) (f : Addr) (fd : FuncData) : Prop where
  mg : X.mg x = some (.ref f)
  kp : PySem.W.keepIn X.K (.ref f) = true
  ok : FnG X.prog X.w X.K X.mg X.base l f fd ps (spF X.K F i)
  bd : Binds X.K fd ps []
  kb : ∀ np ks, (i, np, ks) ∈ g.kw → ∀ gp, permOf ps np ks = some gp → ∀ (s : Shared) (us ws : List Value), X.K.In s.heap → us.length = np → ws.length = ks.length →
    (pickL gp (us ++ ws)).length = ps.length → BindsTo s fd ⟨us, ks.zip ws⟩ (ps.zip (pickL gp (us ++ ws)))
structure Gd (X : Cx) (g : Ctx) (F : Nat → List D → Sto → R (D × Sto)) (l : Nat) (sc : Scope) : Prop where
  nm : X.N = g.ns
  nd : g.ns.Nodup
  sc : X.env.scope = sc
  calm : X.calm = true
  room : Room l X.A
  gd : X.A.guards = some []
  fn : ∀ x i ps, g.gl.lookup x = some (.fn i ps) → ∃ f fd, FnAt X g F l x i ps f fd
  cst : ∀ x d, g.gl.lookup x = some (.cst d) → ∃ v u, X.mg x = some u ∧ RelV v u ∧ ∀ H m, RepD X.K H m d v
  blt : ∀ x, g.gl.lookup x = some .blt → X.mg x = none
  gdc : ∀ x kvs, g.gl.lookup x = some (.gdc kvs) → ∃ a, X.mg x = some (.ref a) ∧ GDct X.w.params X.K a kvs
section
variable {X : Cx} {g : Ctx} {F : Nat → List D → Sto → R (D × Sto)} {l : Nat} {sc : Scope}
theorem Gd.hu (G : Gd X g F l sc) : X.A.units + 65 < cLine := by have := G.room.un; omega
theorem Gd.kind (G : Gd X g F l sc) {x : Str} {k : NameKind} (h : scK sc x = some k) : X.env.kindOf x = some k := by
  unfold scK at h
  rw [← G.sc] at h; exact h
theorem Gd.vis (G : Gd X g F l sc) {x : Str} (h : scK sc x = some .local ∨ scK sc x = some .cell ∨ scK sc x = some .free) : Vis X.env.scope x := by
  unfold scK at h
  rw [← G.sc] at h; exact h
theorem Gd.gblt (G : Gd X g F l sc) {x : Str} (h : gBlt g sc x = true) : Gl X x ∧ X.mg x = none ∧ dunder x = false := by
  unfold gBlt at h
  simp only [Bool.and_eq_true, Bool.not_eq_true'] at h
  obtain ⟨⟨h1, h2⟩, h3⟩ := h
  split at h2
  · rename_i h2'
    split at h3
    · rename_i h3'
      exact ⟨G.kind h2', G.blt x h3', h1⟩
    · cases h3
  · cases h2
theorem dun {x : Str} (h : dunder x = false) : (x == ("__debug__" : Str)) = false ∧ (x == ("__classdict__" : Str)) = false ∧ x ≠ "__name__" := by
  unfold dunder at h
  simp only [Bool.or_eq_false_iff] at h
  exact ⟨h.1.1, h.1.2, by simpa using h.2⟩
theorem plain_pt {e : Expr} {v : Env → Sto → R (D × Sto)} (h : PE X e (tE X.K v)) (he : ∀ whole, isTrue e X.env whole = (do let v ← whole; standAt e.pos; holding [v] (truthy v))) : PT X e (tT X.K (plainT v).t) := by
  refine (pt_truth h he).imp fun σ H Q q => ?_
  obtain ⟨r, S, m, t, S', h1, h2, h3, h4⟩ := q
  obtain ⟨p, e1, h3⟩ := bi_eq_ok h3
  obtain ⟨t', e2, h3⟩ := bi_eq_ok h3
  cases ok_inj h3
  exact ⟨r, S, m, p.1, p.2, h1, h2, e1, fun w H' m' u rd st => ⟨t, tru_ok' st rd e2, h4 H' m' u st⟩⟩
theorem two_of {K : PySem.W.Frag} {r2 : R2} {k : D → D → Sto → R (D × Sto)} (hk : OpD K r2 k) {ea eb : Env → Sto → R (D × Sto)} {σ : L2.St} {H : Hp} {Q : VK}
    (q : tE K (fun r S => (ea r S).bi fun p => (eb r p.2).bi fun z => k p.1 z.1 z.2) σ H Q) : tOp r2 (tE K ea) (tE K eb) σ H Q := by
  obtain ⟨r, S, m, d, S', h1, h2, h3, h4⟩ := q
  obtain ⟨p, e1, h3⟩ := bi_eq_ok h3
  obtain ⟨z, e2, h3⟩ := bi_eq_ok h3
  refine ⟨r, S, m, p.1, p.2, h1, h2, e1, fun w H1 m1 u1 rd1 st1 => ⟨r, p.2, m1, z.1, z.2, h1.up u1, st1, e2, fun w2 H2 m2 u2 rd2 st2 => ?_⟩⟩
  exact hk H2 m2 z.2 p.1 z.1 w w2 d S' Q st2 (RepD.up u2 _ _ rd1) rd2 h3 fun w3 H3 m3 u3 => h4 w3 H3 m3 ((u1.trans u2).trans u3)
theorem cmp_of {K : PySem.W.Frag} {r2 : R2} {k : D → D → Sto → R Bool} (hk : CmD K r2 k) {ea eb : Env → Sto → R (D × Sto)} {σ : L2.St} {H : Hp} {Q : VK}
    (q : tE K (fun r S => (ea r S).bi fun p => (eb r p.2).bi fun z => (k p.1 z.1 z.2).bi fun t => .ok (.bl t, z.2)) σ H Q) : tOp r2 (tE K ea) (tE K eb) σ H Q := by
  refine two_of (k := fun x y S => (k x y S).bi fun t => .ok (.bl t, S)) (fun H m S x y v u d S' Q st rx ry e q => ?_) q
  obtain ⟨t, e1, e⟩ := bi_eq_ok e
  cases ok_inj e
  exact hk H m S x y v u t Q st rx ry e1 (q _ _ _ Up.refl (mk_bl _) st)
theorem pa_of (n : Nat) (ih : ∀ e c, cE g n sc e = some c → PE X e (tE X.K (ev F c))) : ∀ (es : List Expr) (cs : List C), es.any isStar = false → mapO (cE g n sc) es = some cs → PA X es (tL X.K (evL F cs))
  | [], cs, _, h => by
    cases h
    refine pa_nil.imp fun σ H Q q => ?_
    obtain ⟨r, S, m, ds, S', h1, h2, h3, h4⟩ := q
    simp only [evL] at h3
    cases ok_inj h3
    exact h4 _ _ _ Up.refl .nil h2
  | e :: es, cs, hs, h => by
    simp only [List.any_cons, Bool.or_eq_false_iff] at hs
    obtain ⟨c, cs', h1, h2, rfl⟩ := mapO_cons h
    refine (pa_cons (ih _ _ h1) (pa_of n ih es cs' hs.2 h2) (star_no hs.1 _ _)).imp fun σ H Q q => ?_
    obtain ⟨r, S, m, ds, S', k1, k2, k3, k4⟩ := q
    simp only [evL] at k3
    obtain ⟨p, e1, k3⟩ := bi_eq_ok k3
    obtain ⟨z, e2, k3⟩ := bi_eq_ok k3
    cases ok_inj k3
    exact ⟨r, S, m, p.1, p.2, k1, k2, e1, fun w H1 m1 u1 rd1 st1 => ⟨r, p.2, m1, z.1, z.2, k1.up u1, st1, e2, fun ws H2 m2 u2 rd2 st2 => k4 _ _ _ (u1.trans u2) (.cons (RepD.up u2 _ _ rd1) rd2) st2⟩⟩
noncomputable def evSt (F : Nat → List D → Sto → R (D × Sto)) (c : C) (r : Env) (S : Sto) : R (List D × Sto) := (ev F c r S).bi fun p => match p.1 with
  | .tup ds => .ok (ds, p.2)
  | _ => .no
theorem evSt_ok {c : C} {r : Env} {S S' : Sto} {ds : List D} (h : evSt F c r S = .ok (ds, S')) : ev F c r S = .ok (.tup ds, S') := by
  obtain ⟨p, e1, h⟩ := bi_eq_ok h
  obtain ⟨d, S1⟩ := p
  cases d <;> first | (cases h; exact e1) | (cases h)
theorem evSt_of {c : C} {r : Env} {S S' : Sto} {ds : List D} (h : ev F c r S = .ok (.tup ds, S')) : evSt F c r S = .ok (ds, S') := by
  unfold evSt; rw [h]; rfl
theorem add_tup {xs : List D} {y d : D} {S S' : Sto} (h : binD .Add (.tup xs) y S = .ok (d, S')) : ∃ ys, y = .tup ys ∧ d = .tup (xs ++ ys) ∧ S' = S ∧ xs.length + ys.length ≤ 16777216 := by
  cases y with
  | tup ys =>
    obtain ⟨hz, e⟩ := when_ok (show when (xs.length + ys.length ≤ 16777216) (R.ok (D.tup (xs ++ ys), S)) = .ok (d, S') from h)
    cases ok_inj e
    exact ⟨ys, rfl, rfl, rfl, hz⟩
  | _ =>
    exfalso
    simp only [binD] at h
    obtain ⟨zs, e1, _⟩ := bi_eq_ok h
    cases opt_eq_ok e1
theorem evL1 {c : C} {r : Env} {S : Sto} {q : List D × Sto} (h : evL F [c] r S = .ok q) : ∃ a, ev F c r S = .ok a ∧ q = ([a.1], a.2) := by
  simp only [evL] at h
  obtain ⟨a, e1, h⟩ := bi_eq_ok h
  obtain ⟨b, e2, h⟩ := bi_eq_ok h
  cases ok_inj e2
  cases ok_inj h
  exact ⟨a, e1, rfl⟩
theorem ev_tup1 {c : C} {r : Env} {S : Sto} {z : D × Sto} (h : ev F (.blt .tuple [c]) r S = .ok z) : ∃ a xs, ev F c r S = .ok a ∧ items a.2 a.1 = some xs ∧ z = (.tup xs, a.2) := by
  obtain ⟨q, k, h⟩ := bi_eq_ok (show ((evL F [c] r S).bi fun p => bltD .tuple p.1 p.2) = .ok z from h)
  obtain ⟨a, e1, rfl⟩ := evL1 k
  obtain ⟨xs, e2, h⟩ := bi_eq_ok (show ((opt (items a.2 a.1)).bi fun xs => .ok (.tup xs, a.2)) = .ok z from h)
  cases ok_inj h
  exact ⟨a, xs, e1, opt_eq_ok e2, rfl⟩
theorem ev_one1 {c : C} {r : Env} {S : Sto} {z : D × Sto} (h : ev F (.tup [c]) r S = .ok z) : ∃ a, ev F c r S = .ok a ∧ z = (.tup [a.1], a.2) := by
  obtain ⟨q, k, h⟩ := bi_eq_ok (show ((evL F [c] r S).bi fun p => .ok (.tup p.1, p.2)) = .ok z from h)
  obtain ⟨a, e1, rfl⟩ := evL1 k
  cases ok_inj h
  exact ⟨a, e1, rfl⟩
theorem pa_star_of (n : Nat) (ih : ∀ e c, cE g n sc e = some c → PE X e (tE X.K (ev F c))) : ∀ (es : List Expr) (c : C), cStar (cE g n sc) es = some c → PA X es (tL X.K (evSt F c))
  | [], c, h => by
    cases h
    refine pa_nil.imp fun σ H Q q => ?_
    obtain ⟨r, S, m, ds, S', h1, h2, h3, h4⟩ := q
    have h3 := evSt_ok h3
    cases ok_inj h3
    exact h4 _ _ _ Up.refl .nil h2
  | e :: es, c, h => by
    by_cases hs : isStar e = true
    · cases e with
      | Starred e pos =>
        simp only [cStar] at h
        obtain ⟨c1, h1, h⟩ := Option.bind_eq_some_iff.mp h
        obtain ⟨c2, h2, rfl⟩ := Option.map_eq_some_iff.mp h
        refine (StX.pa_star (ih _ _ h1) (pa_star_of n ih es c2 h2) rfl).imp fun σ H Q q => ?_
        obtain ⟨r, S, m, ds, S', k1, k2, k3, k4⟩ := q
        have k3 := evSt_ok k3
        obtain ⟨p, e1, k3⟩ := bi_eq_ok (show ((ev F (.blt .tuple [c1]) r S).bi fun p => (ev F c2 r p.2).bi fun q => binD .Add p.1 q.1 q.2) = .ok (.tup ds, S') from k3)
        obtain ⟨z, e2, k3⟩ := bi_eq_ok k3
        obtain ⟨a, xs, e3, e4, rfl⟩ := ev_tup1 e1
        obtain ⟨ys, ey, ed, es', hz⟩ := add_tup k3
        cases ed
        subst es'
        have e2' : evSt F c2 r a.2 = .ok (ys, z.2) := evSt_of (by rw [← ey]; exact e2)
        refine ⟨r, S, m, a.1, a.2, k1, k2, e3, fun w H1 m1 u1 rd1 st1 => ?_⟩
        obtain ⟨b, ws, rfl, hq, rl⟩ := st1.items e4 rd1
        exact ⟨b, ws, rfl, hq.symm, r, a.2, m1, ys, z.2, k1.up u1, st1, e2', fun vs H2 m2 u2 rd2 st2 => k4 _ _ _ (u1.trans u2) ((RepL.up u2 _ _ rl).append rd2) st2⟩
      | _ => cases hs
    · have hs' : isStar e = false := by simpa using hs
      have h' : ((cE g n sc e).bind fun c => (cStar (cE g n sc) es).map fun d => C.bin .Add (.tup [c]) d) = some c := by
        cases e <;> first | exact h | (cases hs')
      obtain ⟨c1, h1, h⟩ := Option.bind_eq_some_iff.mp h'
      obtain ⟨c2, h2, rfl⟩ := Option.map_eq_some_iff.mp h
      refine (pa_cons (ih _ _ h1) (pa_star_of n ih es c2 h2) (star_no hs' _ _)).imp fun σ H Q q => ?_
      obtain ⟨r, S, m, ds, S', k1, k2, k3, k4⟩ := q
      have k3 := evSt_ok k3
      obtain ⟨p, e1, k3⟩ := bi_eq_ok (show ((ev F (.tup [c1]) r S).bi fun p => (ev F c2 r p.2).bi fun q => binD .Add p.1 q.1 q.2) = .ok (.tup ds, S') from k3)
      obtain ⟨z, e2, k3⟩ := bi_eq_ok k3
      obtain ⟨a, e3, rfl⟩ := ev_one1 e1
      obtain ⟨ys, ey, ed, es', hz⟩ := add_tup k3
      cases ed
      subst es'
      have e2' : evSt F c2 r a.2 = .ok (ys, z.2) := evSt_of (by rw [← ey]; exact e2)
      exact ⟨r, S, m, a.1, a.2, k1, k2, e3, fun w H1 m1 u1 rd1 st1 => ⟨r, a.2, m1, ys, z.2, k1.up u1, st1, e2', fun ws H2 m2 u2 rd2 st2 => k4 _ _ _ (u1.trans u2) (.cons (RepD.up u2 _ _ rd1) rd2) st2⟩⟩
theorem star_tup1 {c : C} {r : Env} {S : Sto} {z : D × Sto} (h : ev F (.blt .tuple [c]) r S = .ok z) : ∃ xs, z.1 = .tup xs := by
  obtain ⟨a, xs, _, _, rfl⟩ := ev_tup1 h
  exact ⟨xs, rfl⟩
theorem star_one1 {c : C} {r : Env} {S : Sto} {z : D × Sto} (h : ev F (.tup [c]) r S = .ok z) : ∃ xs, z.1 = .tup xs := by
  obtain ⟨a, _, rfl⟩ := ev_one1 h
  exact ⟨_, rfl⟩
theorem star_len {f : Expr → Option C} {es : List Expr} {c : C} {r : Env} {S S' : Sto} {ds : List D} (h : cStar f es = some c) (k : evSt F c r S = .ok (ds, S')) : ds.length ≤ 16777216 := by
  have k := evSt_ok k
  have fin : ∀ {a b : C}, ev F (.bin .Add a b) r S = .ok (.tup ds, S') → (∀ z, ev F a r S = .ok z → ∃ xs, z.1 = .tup xs) → ds.length ≤ 16777216 := fun k ha => by
    obtain ⟨p, e1, k3⟩ := bi_eq_ok (show ((ev F _ r S).bi fun p => (ev F _ r p.2).bi fun q => binD .Add p.1 q.1 q.2) = .ok (.tup ds, S') from k)
    obtain ⟨z, e2, k3⟩ := bi_eq_ok k3
    obtain ⟨xs, ex⟩ := ha p e1
    rw [ex] at k3
    obtain ⟨ys, ey, ed, es', hz⟩ := add_tup k3
    cases ed
    rw [List.length_append]; exact hz
  cases es with
  | nil =>
    cases h
    cases ok_inj k
    exact Nat.zero_le _
  | cons e es =>
    by_cases hs : isStar e = true
    · cases e with
      | Starred e pos =>
        simp only [cStar] at h
        obtain ⟨c1, h1, h⟩ := Option.bind_eq_some_iff.mp h
        obtain ⟨c2, h2, rfl⟩ := Option.map_eq_some_iff.mp h
        exact fin k fun z hz => star_tup1 hz
      | _ => cases hs
    · have hs' : isStar e = false := by simpa using hs
      have h' : ((f e).bind fun c => (cStar f es).map fun d => C.bin .Add (.tup [c]) d) = some c := by
        cases e <;> first | exact h | (cases hs')
      obtain ⟨c1, h1, h⟩ := Option.bind_eq_some_iff.mp h'
      obtain ⟨c2, h2, rfl⟩ := Option.map_eq_some_iff.mp h
      exact fin k fun z hz => star_one1 hz
theorem star_val {f : Expr → Option C} {es : List Expr} {c : C} {r : Env} {S S' : Sto} {d : D} (h : cStar f es = some c) (k : ev F c r S = .ok (d, S')) : ∃ ds, d = .tup ds := by
  have fin : ∀ {a b : C}, ev F (.bin .Add a b) r S = .ok (d, S') → (∀ z, ev F a r S = .ok z → ∃ xs, z.1 = .tup xs) → ∃ ds, d = .tup ds := fun k ha => by
    obtain ⟨p, e1, k3⟩ := bi_eq_ok (show ((ev F _ r S).bi fun p => (ev F _ r p.2).bi fun q => binD .Add p.1 q.1 q.2) = .ok (d, S') from k)
    obtain ⟨z, e2, k3⟩ := bi_eq_ok k3
    obtain ⟨xs, ex⟩ := ha p e1
    rw [ex] at k3
    obtain ⟨ys, ey, ed, es', hz⟩ := add_tup k3
    exact ⟨_, ed⟩
  cases es with
  | nil =>
    cases h
    cases ok_inj k
    exact ⟨[], rfl⟩
  | cons e es =>
    by_cases hs : isStar e = true
    · cases e with
      | Starred e pos =>
        simp only [cStar] at h
        obtain ⟨c1, h1, h⟩ := Option.bind_eq_some_iff.mp h
        obtain ⟨c2, h2, rfl⟩ := Option.map_eq_some_iff.mp h
        exact fin k fun z hz => star_tup1 hz
      | _ => cases hs
    · have hs' : isStar e = false := by simpa using hs
      have h' : ((f e).bind fun c => (cStar f es).map fun d => C.bin .Add (.tup [c]) d) = some c := by
        cases e <;> first | exact h | (cases hs')
      obtain ⟨c1, h1, h⟩ := Option.bind_eq_some_iff.mp h'
      obtain ⟨c2, h2, rfl⟩ := Option.map_eq_some_iff.mp h
      exact fin k fun z hz => star_one1 hz
theorem star_plain {f : Expr → Option C} {es : List Expr} {c : C} (h : cStar f es = some c) : evT F c = (plainT (ev F c)).t := by
  cases es with
  | nil => cases h; rfl
  | cons e es =>
    by_cases hs : isStar e = true
    · cases e with
      | Starred e pos =>
        simp only [cStar] at h
        obtain ⟨c1, h1, h⟩ := Option.bind_eq_some_iff.mp h
        obtain ⟨c2, h2, rfl⟩ := Option.map_eq_some_iff.mp h
        rfl
      | _ => cases hs
    · have hs' : isStar e = false := by simpa using hs
      have h' : ((f e).bind fun c => (cStar f es).map fun d => C.bin .Add (.tup [c]) d) = some c := by
        cases e <;> first | exact h | (cases hs')
      obtain ⟨c1, h1, h⟩ := Option.bind_eq_some_iff.mp h'
      obtain ⟨c2, h2, rfl⟩ := Option.map_eq_some_iff.mp h
      rfl
theorem mapO_len {α β : Type} {f : α → Option β} : ∀ {xs : List α} {ys : List β}, mapO f xs = some ys → xs.length = ys.length
  | [], _, h => by cases h; rfl
  | x :: xs, ys, h => by obtain ⟨y, ys', _, h2, rfl⟩ := mapO_cons h; simp [mapO_len h2]
theorem evL_len : ∀ {cs : List C} {r : Env} {S : Sto} {ds : List D} {S' : Sto}, evL F cs r S = .ok (ds, S') → ds.length = cs.length
  | [], r, S, ds, S', h => by simp only [evL] at h; cases ok_inj h; rfl
  | c :: cs, r, S, ds, S', h => by
    simp only [evL] at h
    obtain ⟨p, e1, h⟩ := bi_eq_ok h
    obtain ⟨z, e2, h⟩ := bi_eq_ok h
    cases ok_inj h
    simp [evL_len e2]
theorem tL_len {K : PySem.W.Frag} {cs : List C} {σ : L2.St} {H : Hp} {Q : List V → Hp → Prop} (q : tL K (evL F cs) σ H Q) : tL K (evL F cs) σ H fun vs H1 => vs.length = cs.length ∧ Q vs H1 := by
  obtain ⟨r, S, m, ds, S', k1, k2, k3, k4⟩ := q
  exact ⟨r, S, m, ds, S', k1, k2, k3, fun vs H' m' u rd st => ⟨by rw [← rd.length]; exact evL_len k3, k4 vs H' m' u rd st⟩⟩
def RepP (K : PySem.W.Frag) (H : Hp) (m : List Addr) : List D → List (V × V) → Prop
  | [], ps => ps = []
  | [_], _ => False
  | k :: v :: r, ps => ∃ a b q, ps = (a, b) :: q ∧ RepD K H m k a ∧ RepD K H m v b ∧ RepP K H m r q
theorem twoUp_rep {K : PySem.W.Frag} {H : Hp} {m : List Addr} : ∀ {ds : List D} {kvs : List (Ky × D)} {ps : List (V × V)}, twoUp ds = some kvs → RepP K H m ds ps → ∃ ws : List (Key × V), ps = ws.map (fun kv => (kV kv.1, kv.2)) ∧ RepK K H m kvs ws
  | [], kvs, ps, e, h => by cases e; simp only [RepP] at h; subst h; exact ⟨[], rfl, .nil⟩
  | [_], kvs, ps, e, h => by simp only [RepP] at h
  | k :: v :: r, kvs, ps, e, h => by
    simp only [RepP] at h
    obtain ⟨a, b, q, rfl, h2, h3, h4⟩ := h
    simp only [twoUp] at e
    split at e
    · rename_i y s e1 e2
      cases e
      obtain ⟨ws, rfl, k2⟩ := twoUp_rep e2 h4
      have hk := keyO_rep e1 h2
      subst hk
      exact ⟨(y, b) :: ws, rfl, .cons h3 k2⟩
    · cases e
theorem twoUp_len : ∀ (ds : List D) {kvs : List (Ky × D)}, twoUp ds = some kvs → ds.length = 2 * kvs.length
  | [], kvs, h => by cases h; rfl
  | [_], kvs, h => by cases h
  | k :: v :: r, kvs, h => by
    simp only [twoUp] at h
    split at h
    · rename_i y s e1 e2
      cases h
      have := twoUp_len r e2
      simp only [List.length_cons]; omega
    · cases h
def tD2 (K : PySem.W.Frag) (ev : Env → Sto → R (List D × Sto)) (σ : L2.St) (H : Hp) (Q : List (V × V) → Hp → Prop) : Prop := ∃ r S m ds S', REnv K H m r σ ∧ RSt K H m S ∧ ev r S = .ok (ds, S') ∧
  ∀ ps H' m', Up H m H' m' → RepP K H' m' ds ps → RSt K H' m' S' → Q ps H'
theorem pps_of (n : Nat) (ih : ∀ e c, cE g n sc e = some c → PE X e (tE X.K (ev F c))) {pos : Pos} : ∀ (ks : List (Option Expr)) (vs es : List Expr) (cs : List C), interl ks vs = some es → mapO (cE g n sc) es = some cs →
    ∃ trs, PPs X pos ks vs trs ∧ (∀ σ H (Q : List (V × V) → Hp → Prop), tD2 X.K (evL F cs) σ H Q → tPairs trs σ H Q) ∧ ks.all (·.isSome) = true ∧ ks.length = vs.length
  | [], vs, es, cs, h, h' => by
    cases vs with
    | cons _ _ => cases h
    | nil =>
      cases h; cases h'
      refine ⟨[], pps_nil, fun σ H Q q => ?_, rfl, rfl⟩
      obtain ⟨r, S, m, ds, S', h1, h2, h3, h4⟩ := q
      simp only [evL] at h3
      cases ok_inj h3
      exact h4 _ _ _ Up.refl (by simp only [RepP]) h2
  | none :: ks, vs, es, cs, h, h' => by cases vs <;> cases h
  | some k :: ks, [], es, cs, h, h' => by cases h
  | some k :: ks, v :: vs, es, cs, h, h' => by
    simp only [interl] at h
    obtain ⟨es', e1, rfl⟩ := Option.map_eq_some_iff.mp h
    obtain ⟨c1, cs1, k1, k2, rfl⟩ := mapO_cons h'
    obtain ⟨c2, cs2, k3, k4, rfl⟩ := mapO_cons k2
    obtain ⟨trs, p1, p2, p3, p4⟩ := pps_of n ih ks vs es' cs2 e1 k4
    refine ⟨_, pps_cons (ih _ _ k1) (ih _ _ k3) p1, fun σ H Q q => ?_, by simpa using p3, by simp [p4]⟩
    obtain ⟨r, S, m, ds, S', h1, h2, h3, h4⟩ := q
    simp only [evL] at h3
    obtain ⟨p, g1, h3⟩ := bi_eq_ok h3
    obtain ⟨z0, g2, h3⟩ := bi_eq_ok h3
    cases ok_inj h3
    obtain ⟨p', g3, g2⟩ := bi_eq_ok g2
    obtain ⟨z1, g4, g2⟩ := bi_eq_ok g2
    cases ok_inj g2
    exact ⟨r, S, m, p.1, p.2, h1, h2, g1, fun w H1 m1 u1 rd1 st1 => ⟨r, p.2, m1, p'.1, p'.2, h1.up u1, st1, g3, fun w2 H2 m2 u2 rd2 st2 =>
      p2 _ _ _ ⟨r, p'.2, m2, z1.1, z1.2, (h1.up u1).up u2, st2, g4, fun ps H3 m3 u3 rd3 st3 => h4 _ _ _ ((u1.trans u2).trans u3) (by
        simp only [RepP]; exact ⟨w, w2, ps, rfl, RepD.up (u2.trans u3) _ _ rd1, RepD.up u3 _ _ rd2, rd3⟩) st3⟩⟩⟩
theorem dic_pe (n : Nat) (ih : ∀ e c, cE g n sc e = some c → PE X e (tE X.K (ev F c))) {pos : Pos} {ks : List (Option Expr)} {vs es : List Expr} {cs : List C} (h : interl ks vs = some es) (h15 : ks.length ≤ 15) (h' : mapO (cE g n sc) es = some cs) :
    PE X (.Dict ks vs pos) (tE X.K (ev F (.dic cs))) := by
  obtain ⟨trs, p1, p2, p3, p4⟩ := pps_of (pos := pos) n ih ks vs es cs h h'
  have sl : ∀ {S : Sto} {c c' : Cell}, (S ++ [c]).set S.length c' = S ++ [c'] := fun {S c c'} => by
    rw [List.set_append_right _ _ (Nat.le_refl _), Nat.sub_self]; rfl
  cases ks with
  | nil =>
    cases vs with
    | cons _ _ => cases h
    | nil =>
      cases h; cases h'
      refine pe_dnewK.imp fun σ H Q q => ?_
      obtain ⟨r, S, m, d, S', h1, h2, h3, h4⟩ := q
      have h3 : ((evL F [] r (S ++ [.dct []])).bi fun p => match p.2[S.length]? with
        | some (.dct []) => (opt (twoUp p.1)).bi fun kvs => R.ok (D.loc S.length, p.2.set S.length (.dct (kvMerge [] kvs)))
        | _ => .no) = .ok (d, S') := h3
      simp only [evL, bi_ok] at h3
      split at h3
      · have h3 : R.ok (D.loc S.length, (S ++ [Cell.dct []]).set S.length (.dct [])) = .ok (d, S') := h3
        cases ok_inj h3
        intro p hp
        obtain ⟨u1, st1, r1⟩ := h2.freshD hp .nil
        rw [sl] at h4
        exact h4 _ _ _ u1 r1 st1
      · cases h3
  | cons k ks =>
    refine (pe_disp p1 p3 p4 (List.cons_ne_nil _ _) h15).imp fun σ H Q q => ?_
    obtain ⟨r, S, m, d, S', h1, h2, h3, h4⟩ := q
    have h3 : ((evL F cs r (S ++ [.dct []])).bi fun p => match p.2[S.length]? with
      | some (.dct []) => (opt (twoUp p.1)).bi fun kvs => R.ok (D.loc S.length, p.2.set S.length (.dct (kvMerge [] kvs)))
      | _ => .no) = .ok (d, S') := h3
    obtain ⟨z, g1, h3⟩ := bi_eq_ok h3
    split at h3
    · rename_i g2
      obtain ⟨kvs, g3, h3⟩ := bi_eq_ok h3
      cases ok_inj h3
      intro p hp
      obtain ⟨u1, st1, r1⟩ := h2.freshD hp (.nil (K := X.K))
      refine p2 _ _ _ ⟨r, _, _, z.1, z.2, h1.up u1, st1, g1, fun ps H2 m2 u2 rp st2 => ?_⟩
      have hd : dctO z.2 (.loc S.length) = some [] := by unfold dctO; simp only [g2]
      obtain ⟨n2, a, ws, e1, e2, e3, e4, e5⟩ := st2.dct hd (RepD.up u2 _ _ r1)
      cases e1
      cases e2
      simp only [RepK] at e5
      subst e5
      obtain ⟨us, rfl, k2⟩ := twoUp_rep (opt_eq_ok g3) rp
      have l1 := twoUp_len _ (opt_eq_ok g3)
      have l2 := evL_len g1
      have l3 := mapO_len h'
      have l4 : ∀ {ks : List (Option Expr)} {vs es : List Expr}, interl ks vs = some es → es.length = 2 * ks.length := by
        intro ks
        induction ks with
        | nil => intro vs es h; cases vs <;> cases h; rfl
        | cons k ks ih =>
          intro vs es h
          cases k with
          | none => cases vs <;> cases h
          | some k =>
            cases vs with
            | nil => cases h
            | cons v vs =>
              simp only [interl] at h
              obtain ⟨es', q1, rfl⟩ := Option.map_eq_some_iff.mp h
              have := ih q1
              simp only [List.length_cons]; omega
      have l5 := l4 h
      obtain ⟨u4, st4⟩ := st2.putD e3 e4 (k2.merge .nil)
      refine ⟨e4, us, rfl, by rw [← k2.length]; omega, h4 _ _ _ ((u1.trans u2).trans u4) (RepD.up (u2.trans u4) _ _ r1) st4⟩
    · cases h3
theorem pk_of (n : Nat) (ih : ∀ e c, cE g n sc e = some c → PE X e (tE X.K (ev F c))) : ∀ (kws : List Keyword) (cs : List C), mapO (fun k => cE g n sc k.value) kws = some cs → PK X kws (tL X.K (evL F cs))
  | [], cs, h => by
    cases h
    have := (pk_nil (X := X))
    exact ⟨fun p pins s σ H Q I q => this.run p pins s σ H Q I (by
      obtain ⟨r, S, m, ds, S', h1, h2, h3, h4⟩ := q
      simp only [evL] at h3
      cases ok_inj h3
      exact h4 _ _ _ Up.refl .nil h2)⟩
  | k :: kws, cs, h => by
    obtain ⟨c, cs', h1, h2, rfl⟩ := mapO_cons h
    obtain ⟨nm, e, kp⟩ := k
    have := pk_cons (nm := nm) (kpos := kp) (ih _ _ h1) (pk_of n ih kws cs' h2)
    exact ⟨fun p pins s σ H Q I q => this.run p pins s σ H Q I (by
      obtain ⟨r, S, m, ds, S', k1, k2, k3, k4⟩ := q
      simp only [evL] at k3
      obtain ⟨p, e1, k3⟩ := bi_eq_ok k3
      obtain ⟨z, e2, k3⟩ := bi_eq_ok k3
      cases ok_inj k3
      exact ⟨r, S, m, p.1, p.2, k1, k2, e1, fun w H1 m1 u1 rd1 st1 => ⟨r, p.2, m1, z.1, z.2, k1.up u1, st1, e2, fun ws H2 m2 u2 rd2 st2 => k4 _ _ _ (u1.trans u2) (.cons (RepD.up u2 _ _ rd1) rd2) st2⟩⟩)⟩
theorem kw_facts {pos : Pos} {env : PySem.Env} : ∀ {kws : List Keyword} {ks : List Str}, kwNames kws = some ks →
    (backToKw pos (keywordEach kws env)).all (·.1.isSome) = true ∧ (backToKw pos (keywordEach kws env)).filterMap (·.1) = ks ∧ (backToKw pos (keywordEach kws env)).any (·.1.isNone) = false
  | [], ks, h => by cases h; exact ⟨rfl, rfl, rfl⟩
  | ⟨nm, e, kp⟩ :: kws, ks, h => by
    obtain ⟨k, ks', h1, h2, rfl⟩ := mapO_cons h
    have h1' : nm = some k := h1
    subst h1'
    obtain ⟨a1, a2, a3⟩ := kw_facts (pos := pos) (env := env) h2
    unfold backToKw at a1 a2 a3 ⊢
    simp only [keywordEach, List.map_cons, List.all_cons, List.filterMap_cons, List.any_cons, Option.isSome_some, Bool.true_and, Option.isNone_some, Bool.false_or]
    exact ⟨a1, by rw [a2], a3⟩
theorem pickL_rep {K : PySem.W.Frag} {H : Hp} {m : List Addr} {ds : List D} {vs : List V} (h : RepL K H m ds vs) : ∀ {gp : List Nat} {es : List D}, perm gp ds = some es → RepL K H m es (pickL gp vs)
  | [], es, e => by cases e; exact .nil
  | i :: gp, es, e => by
    obtain ⟨d, es', h1, h2, rfl⟩ := mapO_cons e
    obtain ⟨v, h3, h4⟩ := h.get h1
    unfold pickL
    rw [List.filterMap_cons, h3]
    exact .cons h4 (pickL_rep h h2)
theorem pickL_vals {vs : List V} {us : List Value} (h : Vals vs us) : ∀ gp : List Nat, Vals (pickL gp vs) (pickL gp us)
  | [] => .nil
  | i :: gp => by
    unfold pickL
    cases e : vs[i]? with
    | none =>
      rw [List.filterMap_cons, List.filterMap_cons, e, h.none_of e]
      exact pickL_vals h gp
    | some v =>
      obtain ⟨u, h1, h2⟩ := h.get e
      rw [List.filterMap_cons, List.filterMap_cons, e, h1]
      exact .cons h2 (pickL_vals h gp)
theorem wipe_at {σ : L2.St} {i : Nat} : ∀ {vs : List Nat}, (wipe σ vs)[i]? = if i ∈ vs then (if i < σ.length then some none else none) else σ[i]?
  | [] => by simp [wipe]
  | v :: vs => by
    unfold wipe
    by_cases hi : v = i
    · subst hi
      rw [if_pos List.mem_cons_self]
      by_cases hl : v < σ.length
      · rw [if_pos hl, List.getElem?_set_self (by rw [wipe_length]; exact hl)]
      · rw [if_neg hl, List.getElem?_eq_none (by rw [List.length_set, wipe_length]; omega)]
    · rw [List.getElem?_set_ne hi, wipe_at]
      by_cases hm : i ∈ vs
      · rw [if_pos hm, if_pos (List.mem_cons_of_mem _ hm)]
      · rw [if_neg hm, if_neg (by simp only [List.mem_cons, not_or]; exact ⟨fun e => hi e.symm, hm⟩)]
theorem wipe_eq {σ σ' : L2.St} {vs : List Nat} (hl : σ'.length = σ.length) (h : ∀ i, i ∉ vs → σ'[i]? = (wipe σ vs)[i]?) : wipe σ' vs = wipe σ vs := by
  apply List.ext_getElem?
  intro i
  rw [wipe_at, wipe_at, hl]
  by_cases hi : i ∈ vs
  · rw [if_pos hi, if_pos hi]
  · rw [if_neg hi, if_neg hi, h i hi, wipe_at, if_neg hi]
theorem wipeE_some {r : Env} {i : Nat} {d : D} : ∀ {vs : List Nat}, (wipeE r vs)[i]? = some (some d) → r[i]? = some (some d) ∧ i ∉ vs
  | [], h => ⟨h, by simp⟩
  | v :: vs, h => by
    unfold wipeE at h
    by_cases hi : v = i
    · subst hi
      by_cases hv : v < (wipeE r vs).length
      · rw [List.getElem?_set_self hv] at h; cases h
      · rw [List.getElem?_eq_none (by simpa using hv)] at h; cases h
    · rw [List.getElem?_set_ne hi] at h
      obtain ⟨h1, h2⟩ := wipeE_some h
      exact ⟨h1, by simp only [List.mem_cons, not_or]; exact ⟨fun e => hi e.symm, h2⟩⟩
theorem wipeE_len (r : Env) : ∀ vs : List Nat, (wipeE r vs).length = r.length
  | [] => rfl
  | v :: vs => by unfold wipeE; rw [List.length_set, wipeE_len r vs]
theorem REnv.wipe {K : PySem.W.Frag} {H : Hp} {m : List Addr} {r : Env} {σ : L2.St} (h : REnv K H m r σ) (vs : List Nat) : REnv K H m (wipeE r vs) (L2.wipe σ vs) := by
  refine ⟨by rw [wipeE_len, wipe_length]; exact h.len, fun i d e => ?_⟩
  obtain ⟨e1, e2⟩ := wipeE_some e
  obtain ⟨v, h1, h2⟩ := h.at_ i d e1
  exact ⟨v, by rw [wipe_at, if_neg e2]; exact h1, h2⟩
theorem lc_of {K : PySem.W.Frag} {k : Ev.K} {src : List C} {p : Pt} {own : List Nat} {x cond : C} (hs : ∀ i, i ∈ p.slots → i ∈ own) {σ : L2.St} {H : Hp} {Q : VK} (q : tE K (ev F (.lc x own p k src cond)) σ H Q) :
    tLc (tI K k (evL F src)) (gP K p) (tT K (evT F cond)) (tE K (ev F x)) own σ H Q := by
  obtain ⟨r, S, m, d, S', h1, h2, h3, h4⟩ := q
  simp only [ev, evP, plainT] at h3
  obtain ⟨z, e1, h3⟩ := bi_eq_ok h3
  obtain ⟨it, e2, h3⟩ := bi_eq_ok h3
  obtain ⟨S2, e3, h3⟩ := bi_eq_ok h3
  cases ok_inj h3
  refine ⟨r, S, m, z, it, h1, h2, e1, e2, fun J H1 m1 u1 st1 wk Dd hD => ?_⟩
  obtain ⟨u2, st2, rd2⟩ := st1.fresh hD (xs := []) .nil
  have hm : (m1 ++ [Dd])[z.2.length]? = some Dd := by
    simp only [RepD] at rd2
    obtain ⟨a, k1, k2⟩ := rd2
    cases k2; exact k1
  refine ⟨fun i n H2 => ∃ S m, n = it.1.length - i ∧ i ≤ it.1.length ∧ Up (upd H1 Dd (.lst [])) (m1 ++ [Dd]) H2 m ∧ RSt K H2 m S ∧ lcGo it.2 z.2.length (fun d S1 => (opt (bindP p d (wipeE r own))).bi fun r1 => ((evP F cond).t r1 S1).bi fun t =>
        if t.1 = true then ((evP F x).v r1 t.2).bi fun q => .ok (some q.1, q.2) else .ok (none, t.2)) (it.1.drop i) S = .ok S',
    ⟨it.1.length, _, _, by simp, Nat.zero_le _, Up.refl, st2, by rw [List.drop_zero]; exact e3⟩, ?_⟩
  rintro i n H2 ⟨S3, m3, rfl, hi, u3, st3, e4⟩
  have u03 := u2.trans u3
  by_cases hlt : i < it.1.length
  · rw [List.drop_eq_getElem_cons hlt] at e4
    simp only [lcGo] at e4
    split at e4
    · rename_i hg
      obtain ⟨w, e5, e4⟩ := bi_eq_ok e4
      obtain ⟨r1, e6, e5⟩ := bi_eq_ok e5
      obtain ⟨t, e7, e5⟩ := bi_eq_ok e5
      have e6 := opt_eq_ok e6
      refine .inr ⟨wk.go H2 m3 S3 u03 st3 hg i hlt, fun H' => ∃ n, n < it.1.length - i ∧ ∃ S m, n = it.1.length - (i + 1) ∧ i + 1 ≤ it.1.length ∧ Up (upd H1 Dd (.lst [])) (m1 ++ [Dd]) H' m ∧ RSt K H' m S ∧ lcGo it.2 z.2.length (fun d S1 => (opt (bindP p d (wipeE r own))).bi fun r1 => ((evP F cond).t r1 S1).bi fun t =>
        if t.1 = true then ((evP F x).v r1 t.2).bi fun q => .ok (some q.1, q.2) else .ok (none, t.2)) (it.1.drop (i + 1)) S = .ok S', fun H' ⟨n, hn, h⟩ => ⟨n, hn, h⟩, fun y H' yl => ?_⟩
      obtain ⟨u4, st4, rd4⟩ := wk.yld H2 m3 S3 u03 st3 hg i y H' _ (List.getElem?_eq_getElem hlt) yl
      have u04 := u03.trans u4
      refine ⟨_, m3, wipeE r own, r1, rd4, ((h1.up u1).up u04).wipe own, e6, fun σ' k1 k2 k3 => ⟨wipe_eq (k3.trans (wipe_length _ _)) fun j hj => k2 j fun hc => hj (hs j hc), r1, S3, m3, t.1, t.2, k1, st4, e7, fun H5 m5 u5 st5 => ?_⟩⟩
      by_cases ht : t.1 = true
      · rw [if_pos ht] at e5 ⊢
        obtain ⟨v, e8, e5⟩ := bi_eq_ok e5
        cases ok_inj e5
        simp only at e4
        obtain ⟨acc, e9, e4⟩ := bi_eq_ok e4
        obtain ⟨hz, e4⟩ := when_ok e4
        refine ⟨r1, t.2, m5, v.1, v.2, k1.up u5, st5, e8, fun w H6 m6 u6 rd6 st6 => ?_⟩
        have up6 := ((u3.trans u4).trans u5).trans u6
        have hm6 := up6.get hm
        obtain ⟨k', hk', e10⟩ := isLst_eq (opt_eq_ok e9)
        cases hk'
        obtain ⟨a, vs, ea, hk1, hk2, hk3⟩ := st6.loc (v := .ref Dd) e10 (by simp only [RepD]; exact ⟨Dd, hm6, rfl⟩)
        cases ea
        obtain ⟨u7, st7⟩ := st6.put hm6 hk2 (hk3.append (RepL.one rd6))
        exact ⟨vs, hk2, by rw [sizeM, ← hk3.length]; exact hz, it.1.length - (i + 1), by omega, _, m6, rfl, hlt, up6.trans u7, st7, e4⟩
      · rw [if_neg ht] at e5 ⊢
        cases ok_inj e5
        exact ⟨it.1.length - (i + 1), by omega, _, m5, rfl, hlt, ((u3.trans u4).trans u5), st5, e4⟩
    · cases e4
  · have hi' : i = it.1.length := by omega
    subst hi'
    rw [List.drop_length] at e4
    simp only [lcGo] at e4
    split at e4
    · rename_i hg
      have stp := wk.stop H2 m3 S3 u03 st3 hg
      cases ok_inj e4
      refine .inl ⟨stp, h4 _ _ m3 (u1.trans u03) ?_ st3⟩
      simp only [RepD]
      exact ⟨Dd, u3.get hm, rfl⟩
    · cases e4
end
end Ev
set_option autoImplicit false
set_option linter.all false
namespace Ev
open PySem
open L2
section
variable {X : Cx} {g : Ctx} {F : Nat → List D → Sto → R (D × Sto)} {l : Nat} {sc : Scope}
theorem cst_of {K : PySem.W.Frag} {d : D} {v : V} (h : ∀ H m, RepD K H m d v) {σ : L2.St} {H : Hp} {Q : VK} (q : tE K (ev F (.cst d)) σ H Q) : Q v H := by
  obtain ⟨r, S, m, d', S', h1, h2, h3, h4⟩ := q
  have e : (R.ok (d, S) : R (D × Sto)) = .ok (d', S') := h3
  cases ok_inj e
  exact h4 _ _ _ Up.refl (h _ _) h2
theorem pw_pt {op : BoolOp} {vs : List Expr} {pos : Pos} {t : TT} (h : PT X (.BoolOp op vs pos) t) : PW X (.BoolOp op vs pos) t := ⟨fun _ pins s σ H Q I q => h.run pins s σ H Q I q⟩
theorem pt_ife {c a b : Expr} {pos : Pos} {tc ta tb : TT} (hc : PT X c tc) (ha : PT X a ta) (hb : PT X b tb) : PT X (.IfExp c a b pos) (fun σ H Q => tc σ H fun k H1 => if k = true then ta σ H1 Q else tb σ H1 Q) := by
  refine ⟨fun pins s σ H Q I h => ?_⟩
  show wpAny _ _ (do if ← isTrue c X.env (eval c X.env) then isTrue a X.env (eval a X.env) else isTrue b X.env (eval b X.env)) _ _ _
  refine wpAny_bind (thn (hc.run pins s σ H _ I h) fun k s1 ⟨H1, I1, q1⟩ => ?_)
  cases k with
  | true => rw [if_pos rfl] at q1 ⊢; exact ha.run pins s1 σ H1 Q I1 q1
  | false => rw [if_neg Bool.false_ne_true] at q1 ⊢; exact hb.run pins s1 σ H1 Q I1 q1
theorem tT_bl {K : PySem.W.Frag} {v : Env → Sto → R (D × Sto)} (hv : ∀ r S d S', v r S = .ok (d, S') → ∃ b, d = .bl b) {σ : L2.St} {H : Hp} {Q : Bool → Hp → Prop} (q : tT K (plainT v).t σ H Q) :
    tE K v σ H fun x H' => ∃ k, x = .bl k ∧ Q k H' := by
  obtain ⟨r, S, m, t, S', h1, h2, h3, h4⟩ := q
  obtain ⟨p, e1, h3⟩ := bi_eq_ok h3
  obtain ⟨t', e2, h3⟩ := bi_eq_ok h3
  cases ok_inj h3
  obtain ⟨b, hb⟩ := hv r S p.1 p.2 e1
  rw [hb] at e2
  cases ok_inj e2
  exact ⟨r, S, m, p.1, p.2, h1, h2, e1, fun w H' m' u rd st => ⟨t, by rw [hb] at rd; exact rep_bl rd, h4 _ _ u st⟩⟩
theorem cE_star {n : Nat} {e : Expr} {c : C} (h : cE g n sc e = some c) : isStar e = false := by
  cases n with
  | zero => cases h
  | succ n => cases e <;> first | rfl | (simp [cE] at h)
theorem cE_set {n : Nat} {e : Expr} {c : C} (h : cE g n sc e = some c) (x : Value) (env : PySem.Env) : foldedSetIterable e env x = pure x := by
  cases n with
  | zero => cases h
  | succ n => cases e <;> first | rfl | (simp [cE] at h)
theorem one_arg' {n : Nat} {a : Expr} {cs : List C} (h : mapO (cE g n sc) [a] = some cs) : ∃ c, cE g n sc a = some c ∧ cs = [c] := by
  obtain ⟨c, cs', h1, h2, rfl⟩ := mapO_cons h
  cases h2
  exact ⟨c, h1, rfl⟩
theorem two_args {n : Nat} {a b : Expr} {cs : List C} (h : mapO (cE g n sc) [a, b] = some cs) : ∃ c d, cE g n sc a = some c ∧ cE g n sc b = some d ∧ cs = [c, d] := by
  obtain ⟨c, cs', h1, h2, rfl⟩ := mapO_cons h
  obtain ⟨d, h3, rfl⟩ := one_arg' h2
  exact ⟨c, d, h1, h3, rfl⟩
theorem evL_one {c : C} {r : Env} {S : Sto} {z : List D × Sto} (h : evL F [c] r S = .ok z) : ∃ p, ev F c r S = .ok p ∧ z = ([p.1], p.2) := by
  simp only [evL] at h
  obtain ⟨p, e1, h⟩ := bi_eq_ok h
  obtain ⟨z', e2, h⟩ := bi_eq_ok h
  cases ok_inj e2
  cases ok_inj h
  exact ⟨p, e1, rfl⟩
theorem three_args {n : Nat} {a b b3 : Expr} {cs : List C} (h : mapO (cE g n sc) [a, b, b3] = some cs) : ∃ c d d3, cE g n sc a = some c ∧ cE g n sc b = some d ∧ cE g n sc b3 = some d3 ∧ cs = [c, d, d3] := by
  obtain ⟨c, cs', h1, h2, rfl⟩ := mapO_cons h
  obtain ⟨d, d3, h3, h4, rfl⟩ := two_args h2
  exact ⟨c, d, d3, h1, h3, h4, rfl⟩
theorem cI_cases (tup : Bool) (e : Expr) : cI g sc tup e = (.seq, [e]) ∨
    (∃ p pos a, e = .Call (.Name "range" p) [a] [] pos ∧ gBlt g sc "range" = true ∧ cI g sc tup e = (.rng1, [a])) ∨
    (∃ p pos a b, e = .Call (.Name "range" p) [a, b] [] pos ∧ gBlt g sc "range" = true ∧ cI g sc tup e = (.rng2, [a, b])) ∨
    (∃ p pos a, e = .Call (.Name "enumerate" p) [a] [] pos ∧ gBlt g sc "enumerate" = true ∧ tup = true ∧ cI g sc tup e = (.enum, [a])) ∨
    (∃ p pos a b, e = .Call (.Name "zip" p) [a, b] [] pos ∧ gBlt g sc "zip" = true ∧ tup = true ∧ cI g sc tup e = (.zip, [a, b])) ∨
    (∃ p pos a b c, e = .Call (.Name "zip" p) [a, b, c] [] pos ∧ gBlt g sc "zip" = true ∧ tup = true ∧ cI g sc tup e = (.zip, [a, b, c])) := by
  unfold cI
  split
  · split
    · rename_i hb
      split
      · rename_i hx
        subst hx
        split
        · exact .inr (.inl ⟨_, _, _, rfl, hb, rfl⟩)
        · exact .inr (.inr (.inl ⟨_, _, _, _, rfl, hb, rfl⟩))
        · exact .inl rfl
      · split
        · rename_i hx
          subst hx
          split
          · split
            · rename_i ht
              exact .inr (.inr (.inr (.inl ⟨_, _, _, rfl, hb, ht, rfl⟩)))
            · exact .inl rfl
          · exact .inl rfl
        · split
          · rename_i hx
            subst hx
            split
            · split
              · rename_i ht
                exact .inr (.inr (.inr (.inr (.inl ⟨_, _, _, _, rfl, hb, ht, rfl⟩))))
              · exact .inl rfl
            · split
              · rename_i ht
                exact .inr (.inr (.inr (.inr (.inr ⟨_, _, _, _, _, rfl, hb, ht, rfl⟩))))
              · exact .inl rfl
            · exact .inl rfl
          · exact .inl rfl
    · exact .inl rfl
  · exact .inl rfl
theorem pi_of (G : Gd X g F l sc) (n : Nat) (ih : ∀ e c, cE g n sc e = some c → PE X e (tE X.K (ev F c))) {tg iter : Expr} {src : List C} (h : mapO (cE g n sc) (cI g sc (isTup tg) iter).2 = some src) :
    PI X tg iter (tI X.K (cI g sc (isTup tg) iter).1 (evL F src)) ∧ ∀ x env, foldedSetIterable iter env x = pure x := by
  rcases cI_cases (g := g) (sc := sc) (isTup tg) iter with e | ⟨p, pos, a, rfl, hb, e⟩ | ⟨p, pos, a, b, rfl, hb, e⟩ | ⟨p, pos, a, rfl, hb, ht, e⟩ | ⟨p, pos, a, b, rfl, hb, ht, e⟩ | ⟨p, pos, a, b, b3, rfl, hb, ht, e⟩
  · rw [e] at h ⊢
    obtain ⟨c, h1, rfl⟩ := one_arg' h
    refine ⟨(pi_any (ih _ _ h1)).imp fun σ H Q q => ?_, fun x env => cE_set h1 x env⟩
    obtain ⟨r, S, m, z, it, k1, k2, k3, k4, k5⟩ := q
    obtain ⟨p, e1, rfl⟩ := evL_one k3
    refine ⟨r, S, m, p.1, p.2, k1, k2, e1, fun w H1 m1 u1 rd1 st1 => ?_⟩
    obtain ⟨d, S1⟩ := p
    simp only at k4 rd1 st1 k5
    cases d with
    | loc n' =>
      simp only [srcD] at k4
      obtain ⟨xs, e2, k4⟩ := bi_eq_ok k4
      cases ok_inj k4
      obtain ⟨n2, hn2, e3⟩ := isLst_eq (opt_eq_ok e2)
      cases hn2
      obtain ⟨ad, vs, rfl, hm, hl, _⟩ := st1.loc e3 rd1
      exact ⟨ad, rfl, .inl ⟨⟨vs, SqL.of hl⟩, k5 _ _ _ u1 st1 (walks_loc hm)⟩⟩
    | tup xs =>
      simp only [srcD] at k4
      cases ok_inj k4
      obtain ⟨ad, vs, rfl, hl, hr⟩ := rep_tup rd1
      exact ⟨ad, rfl, .inr ⟨⟨vs, hl⟩, k5 _ _ _ u1 st1 (walks_tup hl hr)⟩⟩
    | frz xs =>
      simp only [srcD] at k4
      cases ok_inj k4
      simp only [RepD] at rd1
      obtain ⟨ad, vs, rfl, hl, hr⟩ := rd1
      exact ⟨ad, rfl, .inl ⟨⟨vs, hl.sq⟩, k5 _ _ _ u1 st1 (walks_frz hl hr)⟩⟩
    | _ => simp only [srcD] at k4; cases k4
  · rw [e] at h ⊢
    obtain ⟨c, h1, rfl⟩ := one_arg' h
    obtain ⟨g1, g2, g3⟩ := G.gblt hb
    refine ⟨(pi_range1 g1 g2 (pa_of n ih [a] [c] (by simp [cE_star h1]) (by simpa using h)) (by rw [star_no (cE_star h1)]; rfl)).imp fun σ H Q q => ?_, fun x env => rfl⟩
    obtain ⟨r, S, m, z, it, k1, k2, k3, k4, k5⟩ := q
    refine ⟨r, S, m, z.1, z.2, k1, k2, k3, fun vs H1 m1 u1 rd1 st1 => ?_⟩
    obtain ⟨p, e1, rfl⟩ := evL_one k3
    obtain ⟨d, S1⟩ := p
    simp only at k4 rd1 st1 k5
    cases d with
    | int j =>
      simp only [srcD] at k4
      obtain ⟨⟨z1, z2, z3, z4, z5⟩, k4⟩ := when_ok k4
      cases ok_inj k4
      simp only [RepL] at rd1
      obtain ⟨v, _, rfl, q1, rfl⟩ := rd1
      cases rep_int q1
      have wk := walks_rg (K := X.K) (H0 := H1) (m0 := m1) 0 j
      rw [Int.sub_zero] at wk
      exact ⟨j, rfl, z3, z4, k5 _ _ _ u1 st1 wk⟩
    | _ => simp only [srcD] at k4; cases k4
  · rw [e] at h ⊢
    obtain ⟨c, d, h1, h2, rfl⟩ := two_args h
    obtain ⟨g1, g2, g3⟩ := G.gblt hb
    refine ⟨(pi_range2 g1 g2 (pa_of n ih [a, b] [c, d] (by simp [cE_star h1, cE_star h2]) (by simpa using h)) (by rw [star_no (cE_star h1), star_no (cE_star h2)]; rfl) (by rw [star_no (cE_star h2)]; rfl)).imp fun σ H Q q => ?_, fun x env => rfl⟩
    obtain ⟨r, S, m, z, it, k1, k2, k3, k4, k5⟩ := q
    refine ⟨r, S, m, z.1, z.2, k1, k2, k3, fun vs H1 m1 u1 rd1 st1 => ?_⟩
    obtain ⟨ds, S1⟩ := z
    simp only at k4 rd1 st1 k5
    have hl := evL_len k3
    match ds, hl with
    | [x, y], _ =>
      simp only [RepL] at rd1
      obtain ⟨v, _, rfl, q1, w, _, rfl, q2, rfl⟩ := rd1
      cases x with
      | int i =>
        cases y with
        | int j =>
          simp only [srcD] at k4
          obtain ⟨⟨z1, z2, z3, z4, z5⟩, k4⟩ := when_ok k4
          cases ok_inj k4
          cases rep_int q1; cases rep_int q2
          exact ⟨i, j, rfl, ⟨z1, z2, z3, z4⟩, k5 _ _ _ u1 st1 (walks_rg i j)⟩
        | _ => simp only [srcD] at k4; cases k4
      | _ => simp only [srcD] at k4; cases k4
  · rw [e] at h ⊢
    obtain ⟨c, h1, rfl⟩ := one_arg' h
    obtain ⟨g1, g2, g3⟩ := G.gblt hb
    cases tg with
    | Tuple elts kk tpos =>
      refine ⟨(EnT.pi_en g1 g2 (pa_of n ih [a] [c] (by simp [cE_star h1]) (by simpa using h)) (by rw [star_no (cE_star h1)]; rfl)).imp fun σ H Q q => ?_, fun x env => rfl⟩
      obtain ⟨r, S, m, z, it, k1, k2, k3, k4, k5⟩ := q
      refine ⟨r, S, m, z.1, z.2, k1, k2, k3, fun vs H1 m1 u1 rd1 st1 => ?_⟩
      obtain ⟨p, e1, rfl⟩ := evL_one k3
      obtain ⟨d, S1⟩ := p
      simp only at k4 rd1 st1 k5
      cases d with
      | loc k =>
        simp only [srcD] at k4
        obtain ⟨xs, e2, k4⟩ := bi_eq_ok k4
        cases ok_inj k4
        obtain ⟨n2, hn2, e3⟩ := isLst_eq (opt_eq_ok e2)
        cases hn2
        simp only [RepL] at rd1
        obtain ⟨v, _, rfl, q1, rfl⟩ := rd1
        obtain ⟨ad, ws, rfl, hm, hl, _⟩ := st1.loc e3 q1
        exact ⟨ad, ws, rfl, .inl ⟨SqL.of hl, k5 _ _ _ u1 st1 (walks_enum hm)⟩⟩
      | tup xs =>
        simp only [srcD] at k4
        cases ok_inj k4
        simp only [RepL] at rd1
        obtain ⟨v, _, rfl, q1, rfl⟩ := rd1
        obtain ⟨ad, vs, rfl, hl, hr⟩ := rep_tup q1
        exact ⟨ad, vs, rfl, .inr ⟨hl, k5 _ _ _ u1 st1 (walks_enumT hl hr)⟩⟩
      | _ => simp only [srcD] at k4; cases k4
    | _ => cases ht
  · rw [e] at h ⊢
    obtain ⟨c, d, h1, h2, rfl⟩ := two_args h
    obtain ⟨g1, g2, g3⟩ := G.gblt hb
    cases tg with
    | Tuple elts kk tpos =>
      have args := pa_of n ih [a, b] [c, d] (by simp [cE_star h1, cE_star h2]) (by simpa using h)
      refine ⟨(ZipM.pi_either (RZ.pi_zipA g1 g2 args (by rw [star_no (cE_star h1)]) (by rw [star_no (cE_star h2)]; rfl)) (ZipM.pi_zm g1 g2 args (by rw [star_no (cE_star h1)]) (by rw [star_no (cE_star h2)]; rfl))).imp fun σ H Q q => ?_, fun x env => rfl⟩
      obtain ⟨r, S, m, ⟨ds, S1⟩, it, k1, k2, k3, k4, k5⟩ := q
      simp only at k4 k5
      have hl := evL_len k3
      match ds, hl with
      | [x, y], _ =>
        cases x with
        | tup xs =>
          cases y with
          | tup ys =>
            simp only [srcD] at k4
            cases ok_inj k4
            refine .inl ⟨r, S, m, _, S1, k1, k2, k3, fun vs H1 m1 u1 rd1 st1 => ?_⟩
            simp only [RepL] at rd1
            obtain ⟨v, _, rfl, q1, w, _, rfl, q2, rfl⟩ := rd1
            obtain ⟨ad, vs, rfl, hl1, hr1⟩ := rep_tup q1
            obtain ⟨bd, ws, rfl, hl2, hr2⟩ := rep_tup q2
            exact ⟨ad, bd, vs, ws, rfl, .inr ⟨hl1, hl2, k5 _ _ _ u1 st1 (walks_zip hl1 hr1 hl2 hr2)⟩⟩
          | loc k =>
            simp only [srcD] at k4
            obtain ⟨ys, e2, k4⟩ := bi_eq_ok k4
            cases ok_inj k4
            obtain ⟨l', hl', s2⟩ := isLst_eq (opt_eq_ok e2)
            cases hl'
            refine .inr ⟨r, S, m, _, S1, k1, k2, k3, fun vs H1 m1 u1 rd1 st1 => ?_⟩
            simp only [RepL] at rd1
            obtain ⟨v, _, rfl, q1, w, _, rfl, q2, rfl⟩ := rd1
            obtain ⟨ad, vs, rfl, hl1, hr1⟩ := rep_tup q1
            obtain ⟨bd, ws, rfl, m2, h2, _⟩ := st1.loc s2 q2
            exact ⟨ad, bd, vs, ws, rfl, hl1, SqL.of h2, k5 _ _ _ u1 st1 (walks_zipM hl1 hr1 m2)⟩
          | _ => simp only [srcD] at k4; cases k4
        | loc n =>
          cases y with
          | loc k =>
            simp only [srcD] at k4
            obtain ⟨xs, e1, k4⟩ := bi_eq_ok k4
            obtain ⟨ys, e2, k4⟩ := bi_eq_ok k4
            cases ok_inj k4
            obtain ⟨k', hk', s1⟩ := isLst_eq (opt_eq_ok e1)
            cases hk'
            obtain ⟨l', hl', s2⟩ := isLst_eq (opt_eq_ok e2)
            cases hl'
            refine .inl ⟨r, S, m, _, S1, k1, k2, k3, fun vs H1 m1 u1 rd1 st1 => ?_⟩
            simp only [RepL] at rd1
            obtain ⟨v, _, rfl, q1, w, _, rfl, q2, rfl⟩ := rd1
            obtain ⟨ad, vs, rfl, m1, h1, _⟩ := st1.loc s1 q1
            obtain ⟨bd, ws, rfl, m2, h2, _⟩ := st1.loc s2 q2
            exact ⟨ad, bd, vs, ws, rfl, .inl ⟨SqL.of h1, SqL.of h2, k5 _ _ _ u1 st1 (walks_zipL m1 m2)⟩⟩
          | _ => simp only [srcD] at k4; cases k4
        | _ => simp only [srcD] at k4; cases k4
    | _ => cases ht
  · rw [e] at h ⊢
    obtain ⟨c, d, d3, h1, h2, h3, rfl⟩ := three_args h
    obtain ⟨g1, g2, g3⟩ := G.gblt hb
    cases tg with
    | Tuple elts kk tpos =>
      have args := pa_of n ih [a, b, b3] [c, d, d3] (by simp [cE_star h1, cE_star h2, cE_star h3]) (by simpa using h)
      refine ⟨(Zip3.pi_z3 g1 g2 args (by rw [star_no (cE_star h1)]) (by rw [star_no (cE_star h2), star_no (cE_star h3)]; rfl)).imp fun σ H Q q => ?_, fun x env => rfl⟩
      obtain ⟨r, S, m, ⟨ds, S1⟩, it, k1, k2, k3, k4, k5⟩ := q
      simp only at k4 k5
      have hl := evL_len k3
      match ds, hl with
      | [x, y, z], _ =>
        cases x with
        | loc n =>
          cases y with
          | loc k =>
            cases z with
            | loc l =>
              simp only [srcD] at k4
              obtain ⟨xs, e1, k4⟩ := bi_eq_ok k4
              obtain ⟨ys, e2, k4⟩ := bi_eq_ok k4
              obtain ⟨zs, e3, k4⟩ := bi_eq_ok k4
              cases ok_inj k4
              obtain ⟨k', hk', s1⟩ := isLst_eq (opt_eq_ok e1)
              cases hk'
              obtain ⟨l', hl', s2⟩ := isLst_eq (opt_eq_ok e2)
              cases hl'
              obtain ⟨l'', hl'', s3⟩ := isLst_eq (opt_eq_ok e3)
              cases hl''
              refine ⟨r, S, m, _, S1, k1, k2, k3, fun vs H1 m1 u1 rd1 st1 => ?_⟩
              simp only [RepL] at rd1
              obtain ⟨v, _, rfl, q1, w, _, rfl, q2, w3, _, rfl, q3, rfl⟩ := rd1
              obtain ⟨ad, vs, rfl, m1, h1, _⟩ := st1.loc s1 q1
              obtain ⟨bd, ws, rfl, m2, h2, _⟩ := st1.loc s2 q2
              obtain ⟨cd, ts, rfl, m3, h3, _⟩ := st1.loc s3 q3
              exact ⟨ad, bd, cd, vs, ws, ts, rfl, SqL.of h1, SqL.of h2, SqL.of h3, k5 _ _ _ u1 st1 (walks_zip3 m1 m2 m3)⟩
            | _ => simp only [srcD] at k4; cases k4
          | _ => simp only [srcD] at k4; cases k4
        | _ => simp only [srcD] at k4; cases k4
    | _ => cases ht
theorem bName2_ok {x : Str} {b : B} (h : bName2 x = some b) : (∃ id, bVal b = .builtin id ∧ bootBuiltins x = some (.builtin id)) ∨ (∃ T, bVal b = .type T ∧ bootBuiltins x = some (.type T)) := by
  unfold bName2 at h
  split at h
  · rename_i e; subst e; cases h; exact .inl ⟨_, rfl, by decide +kernel⟩
  · split at h
    · rename_i e; subst e; cases h; exact .inl ⟨_, rfl, by decide +kernel⟩
    · split at h
      · rename_i e; subst e; cases h; exact .inl ⟨_, rfl, by decide +kernel⟩
      · split at h
        · rename_i e; subst e; cases h; exact .inl ⟨_, rfl, by decide +kernel⟩
        · split at h
          · rename_i e; subst e; cases h; exact .inr ⟨_, rfl, by decide +kernel⟩
          · split at h
            · rename_i e; subst e; cases h; exact .inr ⟨_, rfl, by decide +kernel⟩
            · cases h
theorem bName_ok {x : Str} {b : B} (h : bName x = some b) : (∃ id, bVal b = .builtin id ∧ bootBuiltins x = some (.builtin id)) ∨ (∃ T, bVal b = .type T ∧ bootBuiltins x = some (.type T)) := by
  unfold bName at h
  split at h
  · rename_i e; subst e; cases h; exact .inl ⟨_, rfl, by decide +kernel⟩
  · split at h
    · rename_i e; subst e; cases h; exact .inl ⟨_, rfl, by decide +kernel⟩
    · split at h
      · rename_i e; subst e; cases h; exact .inr ⟨_, rfl, by decide +kernel⟩
      · split at h
        · rename_i e; subst e; cases h; exact .inr ⟨_, rfl, by decide +kernel⟩
        · split at h
          · rename_i e; subst e; cases h; exact .inl ⟨_, rfl, by decide +kernel⟩
          · split at h
            · rename_i e; subst e; cases h; exact .inr ⟨_, rfl, by decide +kernel⟩
            · split at h
              · rename_i e; subst e; cases h; exact .inr ⟨_, rfl, by decide +kernel⟩
              · split at h
                · rename_i e; subst e; cases h; exact .inl ⟨_, rfl, by decide +kernel⟩
                · split at h
                  · rename_i e; subst e; cases h; exact .inl ⟨_, rfl, by decide +kernel⟩
                  · exact bName2_ok h
theorem tyName_ok {x : Str} {t : Ty} (h : tyName x = some t) : bootBuiltins x = some (.type (tyS t)) := by
  unfold tyName at h
  split at h
  · rename_i e; subst e; cases h; decide +kernel
  · split at h
    · rename_i e; subst e; cases h; decide +kernel
    · split at h
      · rename_i e; subst e; cases h; decide +kernel
      · split at h
        · rename_i e; subst e; cases h; decide +kernel
        · split at h
          · rename_i e; subst e; cases h; decide +kernel
          · cases h
end
end Ev
set_option autoImplicit false
set_option linter.all false
namespace Ev
open PySem
open L2
section
variable {g : Ctx} {F : Nat → List D → Sto → R (D × Sto)} {l : Nat}
abbrev IH (g : Ctx) (F : Nat → List D → Sto → R (D × Sto)) (l : Nat) (n : Nat) : Prop := ∀ (sc : Scope) (e : Expr) (c : C), cE g n sc e = some c → ∀ X, Gd X g F l sc → PE X e (tE X.K (ev F c)) ∧ PT X e (tT X.K (evT F c))
variable {X : Cx} {sc : Scope}
theorem own_slots {ns : List Str} {ok : Str → Bool} {own : List Nat} {p : Pt} (h : p.slots.all (fun i => own.contains i) = true) : ∀ i, i ∈ p.slots → i ∈ own := fun i hi => by
  have := List.all_eq_true.mp h i hi
  simpa using this
theorem blk_gd (G : Gd X g F l sc) {scope : Scope} (s : Shared) (H : Hp) (Cc : Addr) (cl : List (Str × Addr)) (fp : List Addr) : Gd (X.blk s H scope (compEnvC scope cl Cc X.env) fp) g F l (relS scope sc) :=
  { nm := G.nm, nd := G.nd, sc := by rw [← G.sc]; rfl, calm := G.calm, room := G.room, gd := G.gd,
    fn := fun x i ps h => let ⟨f, fd, k⟩ := G.fn x i ps h; ⟨f, fd, ⟨k.mg, k.kp, k.ok, k.bd, k.kb⟩⟩, cst := G.cst, blt := G.blt, gdc := G.gdc }
theorem blk_st {scope : Scope} (hsc : X.env.scope = sc) (s : Shared) (H : Hp) (Cc : Addr) (cl : List (Str × Addr)) (fp : List Addr) (x : Str) (h : stK scope x = true) :
    Loc (X.blk s H scope (compEnvC scope cl Cc X.env) fp).env.scope x ∧ ((X.blk s H scope (compEnvC scope cl Cc X.env) fp).fn x = true ∨ (X.blk s H scope (compEnvC scope cl Cc X.env) fp).env.scope.names.lookup x = some .local) := by
  unfold stK scK at h
  have hsc2 : (X.blk s H scope (compEnvC scope cl Cc X.env) fp).env.scope.names = scope.names.map fun (n, k) => if (k == NameKind.free && X.env.scope.kind == .function && X.env.scope.names.lookup n == some .cell) then (n, NameKind.cell) else (n, k) := rfl
  split at h
  · rename_i e
    have e' := lookup_relS_keep (sc := X.env.scope) (k := .local) (by decide) e
    refine ⟨.inl ?_, .inr ?_⟩
    · rw [hsc2]; exact e'
    · rw [hsc2]; exact e'
  · rename_i e
    have e' := lookup_relS_keep (sc := X.env.scope) (k := .cell) (by decide) e
    refine ⟨.inr ?_, .inl ?_⟩
    · rw [hsc2]; exact e'
    · show (scope.names.lookup x == some NameKind.cell) = true
      rw [e]; rfl
  · cases h
theorem lc_ok (G : Gd X g F l sc) {n : Nat} (ih : IH g F l n) {elt tg iter : Expr} {ifs : List Expr} {scope : Scope} {pos : Pos} {c : C} (h : cE g (n + 1) sc (.ListComp elt [⟨tg, iter, ifs, 0⟩] scope pos) = some c) :
    ∃ (own : List (Str × Nat)) (wi : TI) (gg : TG) (tt : TT) (te : TE), (∀ σ H Q, tE X.K (ev F c) σ H Q → tLc wi gg tt te (own.map (·.2)) σ H Q) ∧ PI X tg iter wi ∧ BlkOk X.N X.env.scope scope own ∧
      (∀ (s : Shared) (H : Hp) (C : Addr) (cl : List (Str × Addr)) (fp : List Addr), PG (X.blk s H scope (compEnvC scope cl C X.env) fp) tg gg) ∧
      (∀ (s : Shared) (H : Hp) (C : Addr) (cl : List (Str × Addr)) (fp : List Addr), PTs (X.blk s H scope (compEnvC scope cl C X.env) fp) ifs tt) ∧
      (∀ (s : Shared) (H : Hp) (C : Addr) (cl : List (Str × Addr)) (fp : List Addr), PE (X.blk s H scope (compEnvC scope cl C X.env) fp) elt te) ∧ (∀ x env, foldedSetIterable iter env x = pure x) := by
  simp only [cE] at h
  replace h := (plainC_of h).1
  split at h
  · rename_i hb
    obtain ⟨p, e1, h⟩ := Option.bind_eq_some_iff.mp h
    split at h
    · rename_i hs
      obtain ⟨src, e2, h⟩ := Option.bind_eq_some_iff.mp h
      obtain ⟨x, e3, h⟩ := Option.bind_eq_some_iff.mp h
      have ihp := fun e c h => (ih sc e c h X G).1
      obtain ⟨P1, P2⟩ := pi_of G n ihp e2
      have PG1 : ∀ (s : Shared) (H : Hp) (C : Addr) (cl : List (Str × Addr)) (fp : List Addr), PG (X.blk s H scope (compEnvC scope cl C X.env) fp) tg (gP X.K p) := fun s H C cl fp =>
        pg_of (X := X.blk s H scope (compEnvC scope cl C X.env) fp) G.nm G.nd G.calm (fun y hy => blk_st G.sc s H C cl fp y hy) 9 tg p e1
      have PE1 : ∀ (s : Shared) (H : Hp) (C : Addr) (cl : List (Str × Addr)) (fp : List Addr), PE (X.blk s H scope (compEnvC scope cl C X.env) fp) elt (tE X.K (ev F x)) := fun s H C cl fp => (ih _ _ _ e3 _ (blk_gd G s H C cl fp)).1
      have B : BlkOk X.N X.env.scope scope (ownOf g.ns (tnames 9 tg)) := blkOk_by (by rw [G.nm, G.sc]; exact hb)
      have os := own_slots (ns := []) (ok := fun _ => true) hs
      split at h
      · cases h
        refine ⟨_, _, _, tT X.K (evT F (.cst (.bl true))), _, fun σ H Q q => lc_of os q, P1, B, PG1, fun s H C cl fp => ?_, PE1, P2⟩
        have := pts_nil (X := X.blk s H scope (compEnvC scope cl C X.env) fp)
        exact ⟨fun pins s σ H Q I q => this.run pins s σ H Q I (by
          obtain ⟨r, S, m, t, S', h1, h2, h3, h4⟩ := q
          have e : (R.ok (true, S) : R (Bool × Sto)) = .ok (t, S') := h3
          cases ok_inj e
          exact h4 _ _ Up.refl h2)⟩
      · obtain ⟨y, e4, h⟩ := Option.bind_eq_some_iff.mp h
        cases h
        refine ⟨_, _, _, tT X.K (evT F y), _, fun σ H Q q => lc_of os q, P1, B, PG1, fun s H C cl fp => pts_one ((ih _ _ _ e4 _ (blk_gd G s H C cl fp)).2), PE1, P2⟩
      · cases h
    · cases h
  · cases h
theorem call_of {i : Nat} {es : List C} {K : PySem.W.Frag} {σ : L2.St} {H : Hp} {Q : VK} (q : tE K (ev F (.call i es)) σ H Q) : tCallG (spF K F i) (tL K (evL F es)) σ H Q := by
  obtain ⟨r, S, m, d, S', h1, h2, h3, h4⟩ := q
  obtain ⟨p, e1, h3⟩ := bi_eq_ok (show ((evL F es r S).bi fun p => F i p.1 p.2) = .ok (d, S') from h3)
  exact ⟨r, S, m, p.1, p.2, h1, h2, e1, fun vs H1 m1 u1 rd1 st1 => ⟨p.2, m1, p.1, d, S', rd1, st1, h3, fun v H2 m2 u2 => h4 v H2 m2 (u1.trans u2)⟩⟩
theorem calk_of {i : Nat} {es ks : List C} {gp : List Nat} {K : PySem.W.Frag} {σ : L2.St} {H : Hp} {Q : VK} (q : tE K (ev F (.calk i es ks gp)) σ H Q) :
    tCallK (spF K F i) (fun vs zs => pickL gp (vs ++ zs)) E0 (tL K (evL F es)) (tL K (evL F ks)) σ H Q := by
  obtain ⟨r, S, m, d, S', h1, h2, h3, h4⟩ := q
  obtain ⟨p, e1, h3⟩ := bi_eq_ok (show ((evL F es r S).bi fun p => (evL F ks r p.2).bi fun q => (opt (perm gp (p.1 ++ q.1))).bi fun ds => F i ds q.2) = .ok (d, S') from h3)
  obtain ⟨z, e2, h3⟩ := bi_eq_ok h3
  obtain ⟨ds, e3, h3⟩ := bi_eq_ok h3
  refine ⟨r, S, m, p.1, p.2, h1, h2, e1, fun vs H1 m1 u1 rd1 st1 => ⟨r, p.2, m1, z.1, z.2, h1.up u1, st1, e2, fun zs H2 m2 u2 rd2 st2 => ⟨z.2, m2, ds, d, S', ?_, st2, h3, fun v H3 m3 u3 => h4 v H3 m3 ((u1.trans u2).trans u3)⟩⟩⟩
  exact pickL_rep ((RepL.up u2 _ _ rd1).append rd2) (opt_eq_ok e3)
theorem blt_of {b : B} {es : List C} {K : PySem.W.Frag} {σ : L2.St} {H : Hp} {Q : VK} (q : tE K (ev F (.blt b es)) σ H Q) : tCB (rB K b) (tL K (evL F es)) σ H Q := by
  obtain ⟨r, S, m, d, S', h1, h2, h3, h4⟩ := q
  obtain ⟨p, e1, h3⟩ := bi_eq_ok (show ((evL F es r S).bi fun p => bltD b p.1 p.2) = .ok (d, S') from h3)
  exact ⟨r, S, m, p.1, p.2, h1, h2, e1, fun vs H1 m1 u1 rd1 st1 => b_ok st1 rd1 h3 fun w H2 m2 u2 => h4 w H2 m2 (u1.trans u2)⟩
theorem blt_pe (G : Gd X g F l sc) {n : Nat} (ih : IH g F l n) {x : Str} {b : B} {a : Expr} {as : List Expr} {es : List C} {p pos : Pos} (hx : gBlt g sc x = true) (hb : bName x = some b) (hs : (a :: as).any isStar = false) (h : mapO (cE g n sc) (a :: as) = some es) :
    PE X (.Call (.Name x p) (a :: as) [] pos) (tE X.K (ev F (.blt b es))) := by
  obtain ⟨g1, g2, g3⟩ := G.gblt hx
  obtain ⟨d1, d2, d3⟩ := dun g3
  have PA1 := pa_of n (fun e c h => (ih sc e c h X G).1) (a :: as) es hs h
  have hs' := hs
  simp only [List.any_cons, Bool.or_eq_false_iff] at hs'
  have cr := callR_b (X := X) G.calm G.gd G.hu b
  rcases bName_ok hb with ⟨id, e1, e2⟩ | ⟨T, e1, e2⟩
  · rw [e1] at cr
    exact (pe_callB cr g1 g2 e2 PA1 d3 d1 (star_no hs'.1 _ _) (back_no hs'.2)).imp fun σ H Q q => blt_of q
  · rw [e1] at cr
    exact (pe_callTy cr g1 g2 e2 PA1 d3 d1 (star_no hs'.1 _ _) (back_no hs'.2)).imp fun σ H Q q => blt_of q
theorem isi_pe (G : Gd X g F l sc) {n : Nat} (ih : IH g F l n) {t : Str} {ty : Ty} {e : Expr} {c : C} {p tp pos : Pos} (hx : gBlt g sc "isinstance" = true) (ht : gBlt g sc t = true) (hty : tyName t = some ty) (h : cE g n sc e = some c) :
    PE X (.Call (.Name "isinstance" p) [e, .Name t tp] [] pos) (tE X.K (ev F (.isi ty c))) := by
  obtain ⟨g1, g2, g3⟩ := G.gblt hx
  obtain ⟨g4, g5, g6⟩ := G.gblt ht
  obtain ⟨d1, d2, d3⟩ := dun g3
  obtain ⟨d4, d5, d6⟩ := dun g6
  have PT1 : PE X (.Name t tp) (tC (.ty (tyS ty))) := pe_bltn g4 g5 (tyName_ok hty) rfl d6 d4
  have PA1 := pa_cons (X := X) (ih sc e c h X G).1 (pa_cons PT1 pa_nil) (star_no (cE_star h) _ _)
  refine (pe_callB call_isi g1 g2 (by decide +kernel) PA1 d3 d1 (star_no (cE_star h) _ _) rfl).imp fun σ H Q q => ?_
  obtain ⟨r, S, m, d, S', h1, h2, h3, h4⟩ := q
  obtain ⟨p1, e1, h3⟩ := bi_eq_ok (show ((ev F c r S).bi fun p => (isiD ty p.1 p.2).bi fun b => R.ok (.bl b, p.2)) = .ok (d, S') from h3)
  obtain ⟨b, e2, h3⟩ := bi_eq_ok h3
  cases ok_inj h3
  exact ⟨r, S, m, p1.1, p1.2, h1, h2, e1, fun v H1 m1 u1 rd1 st1 => isi_ok st1 rd1 e2 (h4 _ _ _ u1 (mk_bl _) st1)⟩
theorem base_ok {o : Expr} (h : okBase o = true) {x : Str} {env : PySem.Env} {w : Sem Value} : attributeBase o x env w = w := by
  unfold okBase at h
  split at h
  · rfl
  · rfl
  · rename_i f _ _ _ _
    cases f <;> rfl
  · rfl
  · cases h
theorem mName_ok {x : Str} {m : M} (h : mName x = some m) : Slot "list" x (mId m) ∧ typeOf (.builtin (mId m)) = pure (.type "method_descriptor") := by
  unfold mName at h
  split at h
  · rename_i e; subst e; cases h; exact ⟨PySem.F.slot_list_append, PySem.F.type_list_append⟩
  · split at h
    · rename_i e; subst e; cases h; exact ⟨PySem.F.slot_list_pop, PySem.F.type_list_pop⟩
    · split at h
      · rename_i e; subst e; cases h; exact ⟨PySem.F.slot_list_insert, PySem.F.type_list_insert⟩
      · split at h
        · rename_i e; subst e; cases h; exact ⟨PySem.F.slot_list_extend, PySem.F.type_list_extend⟩
        · split at h
          · rename_i e; subst e; cases h; exact ⟨PySem.F.slot_list_index, PySem.F.type_list_index⟩
          · cases h
theorem mth_pe (G : Gd X g F l sc) {n : Nat} (ih : IH g F l n) {x : Str} {m : M} {o : Expr} {as : List Expr} {c : C} {es : List C} {apos cpos : Pos} (hx : mName x = some m) (hob : okBase o = true) (hl : (apos.endLine == cpos.line) = true) (hlen : as.length < 20)
    (ho : cE g n sc o = some c) (hs : as.any isStar = false) (h : mapO (cE g n sc) as = some es) : PE X (.Call (.Attribute o x apos) as [] cpos) (tE X.K (ev F (.mth m c es))) := by
  obtain ⟨slot, hty⟩ := mName_ok hx
  have PO := (ih sc o c ho X G).1
  have PA1 := pa_of n (fun e c h => (ih sc e c h X G).1) as es hs h
  have hbase : attributeBase o x X.env (eval o X.env) = eval o X.env := base_ok hob
  have fin : ∀ {σ : L2.St} {H : Hp} {Q : VK}, tE X.K (ev F (.mth m c es)) σ H Q → tBM X.K "list" (rM X.K m) (tE X.K (ev F c)) (tL X.K (evL F es)) σ H Q := fun {σ H Q} q => by
    obtain ⟨r, S, mu, d, S', h1, h2, h3, h4⟩ := q
    obtain ⟨p, e1, h3⟩ := bi_eq_ok (show ((ev F c r S).bi fun p => (opt (isLst p.2 p.1)).bi fun _ => (evL F es r p.2).bi fun q => mthD m p.1 q.1 q.2) = .ok (d, S') from h3)
    obtain ⟨xs, e0, h3⟩ := bi_eq_ok h3
    obtain ⟨z, e2, h3⟩ := bi_eq_ok h3
    refine ⟨r, S, mu, p.1, p.2, h1, h2, e1, fun w H1 m1 u1 rd1 st1 => ⟨?_, r, p.2, m1, z.1, z.2, h1.up u1, st1, e2, fun vs H2 m2 u2 rd2 st2 => m_ok st2 (RepD.up u2 _ _ rd1) rd2 h3 fun w H3 m3 u3 => h4 w H3 m3 ((u1.trans u2).trans u3)⟩⟩
    obtain ⟨a, ws, rfl, k1, _⟩ := st1.lst (opt_eq_ok e0) rd1
    exact .inl ⟨rfl, _, SqL.of k1⟩
  cases as with
  | nil =>
    cases h
    refine (pe_bm0 PySem.F.plainAttrs_list slot hty (mtR_m m) PO hbase hl).imp fun σ H Q q => ?_
    obtain ⟨r, S, mu, d, S', k1, k2, k3, k4⟩ := fin q
    refine ⟨r, S, mu, d, S', k1, k2, k3, fun v H' m' u rd st => ?_⟩
    obtain ⟨t1, r2, S2, mu2, ds2, S2', y1, y2, y3, y4⟩ := k4 v H' m' u rd st
    simp only [evL] at y3
    cases ok_inj y3
    exact ⟨t1, y4 _ _ _ Up.refl .nil y2⟩
  | cons a as =>
    have hs' := hs
    simp only [List.any_cons, Bool.or_eq_false_iff] at hs'
    have few : ∀ (es : List Expr), es.any isStar = false → ((backTo cpos (starEach es X.env)).all fun x => !x.1) = true := by
      intro es
      induction es with
      | nil => intro _; rfl
      | cons e es ih =>
        intro hq
        simp only [List.any_cons, Bool.or_eq_false_iff] at hq
        have := ih hq.2
        rw [star_no hq.1]
        unfold backTo at this ⊢
        simp only [List.map_cons, List.all_cons, Bool.not_false, Bool.true_and]
        exact this
    refine (pe_bm PySem.F.plainAttrs_list slot hty (mtR_m m) PO PA1 hbase ?_ hl (star_no hs'.1 _ _) (back_no hs'.2)).imp fun σ H Q q => fin q
    rw [few _ hs]
    have h30 : (a :: as).length + ([] : List Keyword).length + (if ([] : List Keyword).isEmpty then 0 else 1) < 30 := by
      have : (a :: as).length < 20 := hlen
      simpa using (by omega : (a :: as).length < 30)
    rw [decide_eq_true h30]
    rfl
theorem dmName_ok {x : Str} {m : DM} (h : dmName x = some m) : Slot "dict" x (dId m) ∧ typeOf (.builtin (dId m)) = pure (.type "method_descriptor") := by
  unfold dmName at h
  split at h
  · rename_i e; subst e; cases h; exact ⟨PySem.F.slot_dict_get, PySem.F.type_dict_get⟩
  · split at h
    · rename_i e; subst e; cases h; exact ⟨PySem.F.slot_dict_update, PySem.F.type_dict_update⟩
    · cases h
theorem dmt_pe (G : Gd X g F l sc) {n : Nat} (ih : IH g F l n) {x : Str} {m : DM} {o : Expr} {as : List Expr} {c : C} {es : List C} {apos cpos : Pos} (hx : dmName x = some m) (hob : okBase o = true) (hl : (apos.endLine == cpos.line) = true) (hlen : as.length < 20)
    (ho : cE g n sc o = some c) (hs : as.any isStar = false) (h : mapO (cE g n sc) as = some es) : PE X (.Call (.Attribute o x apos) as [] cpos) (tE X.K (ev F (.dmt m c es))) := by
  obtain ⟨slot, hty⟩ := dmName_ok hx
  have PO := (ih sc o c ho X G).1
  have PA1 := pa_of n (fun e c h => (ih sc e c h X G).1) as es hs h
  have hbase : attributeBase o x X.env (eval o X.env) = eval o X.env := base_ok hob
  have fin : ∀ {σ : L2.St} {H : Hp} {Q : VK}, tE X.K (ev F (.dmt m c es)) σ H Q → tBM X.K "dict" (rDM m) (tE X.K (ev F c)) (tL X.K (evL F es)) σ H Q := fun {σ H Q} q => by
    obtain ⟨r, S, mu, d, S', h1, h2, h3, h4⟩ := q
    obtain ⟨p, e1, h3⟩ := bi_eq_ok (show ((ev F c r S).bi fun p => (opt (dctO p.2 p.1)).bi fun _ => (evL F es r p.2).bi fun q => dmtD m p.1 q.1 q.2) = .ok (d, S') from h3)
    obtain ⟨xs, e0, h3⟩ := bi_eq_ok h3
    obtain ⟨z, e2, h3⟩ := bi_eq_ok h3
    refine ⟨r, S, mu, p.1, p.2, h1, h2, e1, fun w H1 m1 u1 rd1 st1 => ⟨?_, r, p.2, m1, z.1, z.2, h1.up u1, st1, e2, fun vs H2 m2 u2 rd2 st2 => dmt_ok st2 (RepD.up u2 _ _ rd1) rd2 h3 fun w H3 m3 u3 => h4 w H3 m3 ((u1.trans u2).trans u3)⟩⟩
    obtain ⟨_, a, ws, _, rfl, _, k1, _⟩ := st1.dct (opt_eq_ok e0) rd1
    exact .inr (.inr (.inl ⟨rfl, .inl ⟨_, k1⟩⟩))
  cases as with
  | nil =>
    cases h
    refine (pe_bm0 PySem.F.plainAttrs_dict slot hty (mtR_d G.hu m) PO hbase hl).imp fun σ H Q q => ?_
    obtain ⟨r, S, mu, d, S', k1, k2, k3, k4⟩ := fin q
    refine ⟨r, S, mu, d, S', k1, k2, k3, fun v H' m' u rd st => ?_⟩
    obtain ⟨t1, r2, S2, mu2, ds2, S2', y1, y2, y3, y4⟩ := k4 v H' m' u rd st
    simp only [evL] at y3
    cases ok_inj y3
    exact ⟨t1, y4 _ _ _ Up.refl .nil y2⟩
  | cons a as =>
    have hs' := hs
    simp only [List.any_cons, Bool.or_eq_false_iff] at hs'
    have few : ∀ (es : List Expr), es.any isStar = false → ((backTo cpos (starEach es X.env)).all fun x => !x.1) = true := by
      intro es
      induction es with
      | nil => intro _; rfl
      | cons e es ih =>
        intro hq
        simp only [List.any_cons, Bool.or_eq_false_iff] at hq
        have := ih hq.2
        rw [star_no hq.1]
        unfold backTo at this ⊢
        simp only [List.map_cons, List.all_cons, Bool.not_false, Bool.true_and]
        exact this
    refine (pe_bm PySem.F.plainAttrs_dict slot hty (mtR_d G.hu m) PO PA1 hbase ?_ hl (star_no hs'.1 _ _) (back_no hs'.2)).imp fun σ H Q q => fin q
    rw [few _ hs]
    have h30 : (a :: as).length + ([] : List Keyword).length + (if ([] : List Keyword).isEmpty then 0 else 1) < 30 := by
      have : (a :: as).length < 20 := hlen
      simpa using (by omega : (a :: as).length < 30)
    rw [decide_eq_true h30]
    rfl
theorem gdcO_ok {o : Expr} {m : Str} {as : List Expr} {kvs : List (Str × Int)} (h : gdcO g sc o m as = some kvs) : ∃ x p e f, o = .Name x p ∧ m = "get" ∧ as = [e, f] ∧ dunder x = false ∧ scK sc x = some .globalImplicit ∧ g.gl.lookup x = some (.gdc kvs) := by
  unfold gdcO at h
  split at h
  · rename_i x p
    split at h
    · rename_i q
      obtain ⟨q1, q2, q3⟩ := q
      split at h
      · rename_i k1
        split at h
        · rename_i kv k2
          cases h
          match as, q2 with
          | [e, f], _ => exact ⟨x, p, e, f, rfl, q1, rfl, q3, k1, k2⟩
        · cases h
      · cases h
    · cases h
  · cases h
theorem gget_pe (G : Gd X g F l sc) {n : Nat} (ih : IH g F l n) {m : Str} {o : Expr} {as : List Expr} {kvs : List (Str × Int)} {es : List C} {c : C} {apos cpos : Pos} (hg : gdcO g sc o m as = some kvs) (hl : (apos.endLine == cpos.line) = true)
    (hs : as.any isStar = false) (h : mapO (cE g n sc) as = some es) (hc : gget2 kvs es = some c) : PE X (.Call (.Attribute o m apos) as [] cpos) (tE X.K (ev F c)) := by
  obtain ⟨x, p, e, f, rfl, rfl, rfl, q3, k1, k2⟩ := gdcO_ok hg
  obtain ⟨a, b, ha, hb, rfl⟩ := two_args h
  cases hc
  obtain ⟨d1, _, _⟩ := dun q3
  obtain ⟨ad, k3, k4⟩ := G.gdc x kvs k2
  have PO : PE X (.Name x p) (tC (.ref ad)) := pe_glob (pos := p) (G.kind k1) k3 rfl d1
  have PA := (ih sc e a ha X G).1
  have PB := (ih sc f b hb X G).1
  have tr : backTo cpos (starEach [e, f] X.env) = [(false, eval e X.env), (false, eval f X.env)] := by
    rw [star_no (cE_star ha), star_no (cE_star hb)]; rfl
  have M : M2 X (.Name x p) "get" apos e f cpos := ⟨base_ok rfl, by rw [tr]; rfl, hl, tr⟩
  refine (pe_kget k4 PO PA PB M).imp fun σ H Q q => ?_
  obtain ⟨r, S, mu, d, S', h1, h2, h3, h4⟩ := q
  obtain ⟨z, e1, h3⟩ := bi_eq_ok (show ((ev F a r S).bi fun p => (ev F b r p.2).bi fun q => ggetD kvs p.1 q.1 q.2) = .ok (d, S') from h3)
  obtain ⟨y, e2, h3⟩ := bi_eq_ok h3
  unfold ggetD at h3
  split at h3
  · rename_i k hk
    cases ok_inj h3
    refine ⟨rfl, r, S, mu, z.1, z.2, h1, h2, e1, fun v H1 m1 u1 rd1 st1 => ⟨r, z.2, m1, y.1, y.2, h1.up u1, st1, e2, fun w H2 m2 u2 rd2 st2 => ⟨k, rep_str (by rw [← hk]; exact rd1), ?_⟩⟩⟩
    cases e : kvs.lookup k with
    | some i =>
      rw [e] at h4
      exact h4 _ _ _ (u1.trans u2) (mk_int _) st2
    | none =>
      rw [e] at h4
      exact h4 _ _ _ (u1.trans u2) rd2 st2
  · cases h3
theorem po_of {K : PySem.W.Frag} {c : C} {h : Bool} {σ : L2.St} {r : Env} {S : Sto} {H : Hp} {m : List Addr} {o : Option Int} {S' : Sto} {Q : Option Int → Hp → Prop} (k1 : REnv K H m r σ) (k2 : RSt K H m S) (e : partD h (evP F c).v r S = .ok (o, S'))
    (q : ∀ H' m', Up H m H' m' → RSt K H' m' S' → Q o H') : (h = false → tNoPart σ H Q) ∧ (h = true → tPart (tE K (ev F c)) σ H Q) := by
  unfold partD at e
  refine ⟨fun hh => ?_, fun hh => ?_⟩
  · subst hh
    rw [if_neg Bool.false_ne_true] at e
    cases ok_inj e
    exact q H m Up.refl k2
  · subst hh
    rw [if_pos rfl] at e
    obtain ⟨p, e1, e⟩ := bi_eq_ok e
    obtain ⟨d, S1⟩ := p
    cases d with
    | int i =>
      cases ok_inj e
      exact ⟨r, S, m, .int i, _, k1, k2, e1, fun v H' m' u rd st => ⟨i, rep_int rd, q H' m' u st⟩⟩
    | _ => cases e
theorem slc_of {K : PySem.W.Frag} {c cl ch : C} {hl hh : Bool} {tl th : TO} (hlo : ∀ σ H Q, ((hl = false → tNoPart σ H Q) ∧ (hl = true → tPart (tE K (ev F cl)) σ H Q)) → tl σ H Q) (hhi : ∀ σ H Q, ((hh = false → tNoPart σ H Q) ∧ (hh = true → tPart (tE K (ev F ch)) σ H Q)) → th σ H Q)
    {σ : L2.St} {H : Hp} {Q : VK} (q : tE K (ev F (.slc c hl cl hh ch)) σ H Q) : tSl (rSlc K) (tE K (ev F c)) tl th σ H Q := by
  obtain ⟨r, S, m, d, S', h1, h2, h3, h4⟩ := q
  obtain ⟨p, e1, h3⟩ := bi_eq_ok (show ((ev F c r S).bi fun p => (partD hl (evP F cl).v r p.2).bi fun q => (partD hh (evP F ch).v r q.2).bi fun z => slcD p.1 q.1 z.1 z.2) = .ok (d, S') from h3)
  obtain ⟨y, e2, h3⟩ := bi_eq_ok h3
  obtain ⟨z, e3, h3⟩ := bi_eq_ok h3
  refine ⟨r, S, m, p.1, p.2, h1, h2, e1, fun w H1 m1 u1 rd1 st1 => hlo _ _ _ (po_of (h1.up u1) st1 e2 fun H2 m2 u2 st2 => hhi _ _ _ (po_of ((h1.up u1).up u2) st2 e3 fun H3 m3 u3 st3 => ?_))⟩
  exact slc_ok st3 (RepD.up (u2.trans u3) _ _ rd1) h3 fun w H4 m4 u4 => h4 w H4 m4 ((u1.trans (u2.trans u3)).trans u4)
end
end Ev
set_option autoImplicit false
set_option linter.all false
set_option maxRecDepth 100000
set_option maxHeartbeats 4000000
namespace L2
open PySem PySem.Spec PyProof.Rows
/-- the object that set.__new__ makes -/
abbrev bareSet (w : World) : Obj := { cls := .type "set", dict := none, data := .set #[] 0 (.fresh 0 0 (!w.params.followText "set-order")) }
section
variable {P : Program} {w : World} {A : Around} {E : Value → Shared → Prop} {s : Shared}
/-- set(x), by what set.__init__ does with the bare set -/
theorem set_from {x : Value} {Q : Value → Shared → Prop}
    (init : wpAny (model P w) A.in1.in1 (Builtin.«set.__init__» ⟨[.ref s.heap.objs.size, x], []⟩)
      (fun fin t => match fin with | .done f => wants (fun r t => r = .none ∧ Q (.ref s.heap.objs.size) t) E (.ok f) t | .again c => c.quiet = true ∧ codeAny (model P w) A.in1 c (wants (fun r t => r = .none ∧ Q (.ref s.heap.objs.size) t) E) t)
      (fun e t => wants (fun r t => r = .none ∧ Q (.ref s.heap.objs.size) t) E (.error e) t) { s with heap := s.heap.push (bareSet w) }) :
    wpAny (model P w) A (call (.type "set") [x]) Q E s := by
  have kind := F.called_set
  obtain ⟨m1, m2, m3⟩ := kind.mro
  have k1 := kind.made
  have k2 := kind.sub
  have k3 := kind.notType
  have k4 := kind.canCreate
  have k5 := F.typeCall_set_1 x
  apply wpAny_call
  apply codeAny_of_tree
  show wpAny _ _ (callAny (.type "set") _) _ _ _
  apply wpAny_pure
  refine ⟨Code.quiet_builtin _ (by decide +kernel), codeAny_builtin F.entry_type_call ?_⟩
  rw [Around.under_plain (weight_type_call_type "set" [x] []) rfl]
  repeat (any_goals (first | assumption | wp_step))
  apply codeAny_mono (code_set_led1 x (E := E) (Q₁ := fun obj t => obj = .ref s.heap.objs.size ∧ t = { s with heap := s.heap.push (bareSet w) }) ⟨rfl, rfl⟩)
  rintro (e | f) t m
  · exact m
  · cases f with
    | ret obj =>
      obtain ⟨e1, e2⟩ := m
      subst e1
      subst e2
      have ty : Shared.TypeIs { s with heap := s.heap.push (bareSet w) } (.ref s.heap.objs.size) "set" := ⟨_, Heap.get?_push_size _ rfl, rfl⟩
      have k6 := kind.init.lookup
      have k7 := kind.init.bind (.ref s.heap.objs.size)
      repeat (any_goals (first | assumption | wp_step))
      apply codeAny_mono (codeAny_call_builtin kind.init.plain F.entry_set_init (check_set_init_1 ty init))
      rintro (e | f) t m
      · exact m
      · cases f with
        | ret r =>
          obtain ⟨e1, m⟩ := m
          subst e1
          repeat (any_goals (first | assumption | wp_step))
        | _ => exact False.elim m
    | _ => exact False.elim m
theorem set_of_list {l : Addr} {us : Array Value} {ns : List Int} {Q : Value → Shared → Prop} (free : A.handled = none) (lst : s.heap.IsList l us) (are : IntsAre us.toList ns) (few : ns.length + 1 < scanBound)
    (goal : ∀ (h' : Heap) (tk c : Nat), SetR w h' s.heap.objs.size (fun j => decide (j ∈ ns)) c → c ≤ ns.length → (∀ b o, s.heap.get? b = some o → h'.get? b = some o) → Q (.ref s.heap.objs.size) { s with heap := h', toks := tk }) :
    wpAny (model P w) A (call (.type "set") [.ref l]) Q E s := by
  have size : us.size = ns.length := by rw [← Array.length_toList]; exact are.length
  apply set_from
  have bare : (s.heap.push (bareSet w)).get? s.heap.objs.size = some (bareSet w) := Heap.get?_push_size _ rfl
  have lst1 : (s.heap.push (bareSet w)).IsList l us := lst.push _
  have grow : (s.heap.push (bareSet w)).objs.size = s.heap.objs.size + 1 := Heap.size_push ..
  have below : l < s.heap.objs.size := by
    obtain ⟨o, ho, _⟩ := lst
    exact Heap.lt_size ho
  unfold Builtin.«set.__init__» noKeywords Builtin.Frozenset.updateFrom
  generalize keep : pyIter = it
  obtain ⟨o, ho, hc, k, hd⟩ := id lst1
  obtain ⟨oc, od, oa, os⟩ := o
  simp only at hc hd
  subst hc
  subst hd
  have n1 := F.sub_list_set
  have n2 := F.sub_list_frozenset
  have n3 : (Value.type "list" == Value.type "dict") = false := by decide
  wp_walk
  subst keep
  have far : ∀ b, b < s.heap.objs.size → b ≠ s.heap.objs.size ∧ b ≠ (s.heap.push (bareSet w)).objs.size := fun b hb => by
    rw [grow]; exact ⟨Nat.ne_of_lt hb, Nat.ne_of_lt (Nat.lt_succ_of_lt hb)⟩
  apply wpAny_pyIter_list lst1
  apply wpAny_bind
  apply wpAny_runValue
  have walk := fun B : Around => fun hB : B.handled = none => (Walks.list (prog := P) (w := w) (A := B) hB (s.heap.push (bareSet w)).objs.size l (far l below).2 us).toS
  refine set_update_ints (walk _ (by simp [free])) s.heap.objs.size ?out ns size few ?vals us.size 0 _ (by omega) (Nat.zero_le _) ⟨⟨_, Heap.get?_push_size _ rfl, rfl, rfl⟩, lst1.push _⟩ ⟨0, Nat.le_refl 0, setR_new_at (Heap.get?_push_of_some _ bare)⟩ ?fin
  case out =>
    rw [grow, List.mem_cons, List.mem_singleton]
    rintro (z | z)
    · exact absurd z (Nat.ne_of_lt (Nat.lt_succ_self _))
    · exact absurd z (Nat.ne_of_gt below)
  case vals =>
    intro i v hv
    have hi : i < ns.length := by rw [← size]; exact (Array.getElem?_eq_some_iff.mp hv).1
    obtain ⟨t, z⟩ := are.int_at i v (by rw [Array.getElem?_toList]; exact hv)
    rw [List.getD_eq_getElem?_getD, List.getElem?_eq_getElem hi] at z
    exact ⟨ns[i], t, List.getElem?_eq_getElem hi, z⟩
  case fin =>
    intro t c moved le made
    obtain ⟨th, tg, td, tt, to⟩ := t
    have g1 : tg = s.gens := moved.gens
    have g2 : td = s.drawn := moved.drawn
    have g3 : to = s.os := moved.os
    subst g1; subst g2; subst g3
    refine wpAny_pure (wpAny_pure ⟨rfl, goal th tt c made (by rw [← size]; exact le) fun b o hb => ?_⟩)
    have away := far b (Heap.lt_size hb)
    refine moved.heap b o ?_ (Heap.get?_push_of_some _ (Heap.get?_push_of_some _ hb))
    rw [List.mem_cons, List.mem_singleton]
    exact fun z => z.elim away.1 away.2
end
/-- set(a list of ints) -/
def rSetOfI (K : PySem.W.Frag) (w : World) : List V → Hp → VK → Prop := fun xs H Q => ∃ (l : Addr) (ns : List Int), xs = [V.ref l] ∧ SqL K H l (ns.map V.int) ∧ ns.length < 64 ∧
  ∀ p c, H p = none → c ≤ ns.length → Q (.ref p) (upd H p (SetO w p (fun j => decide (j ∈ ns)) c))
theorem cr_setOfI {X : Cx} (hc : X.calm = true) : CallR X (.type "set") (rSetOfI X.K X.w) := by
  intro pins s σ H xs us Q I r ⟨l, ns, hx, hs, few, q⟩
  subst hx
  obtain ⟨its, rv, pl, _⟩ := I.list hs
  rw [Vals.ref1 r]
  have new : H s.heap.objs.size = none := I.hok.fresh (Nat.le_refl _)
  refine set_of_list (I.ok.hd hc) pl.isList (by simpa using ints_of_vals rv) (by unfold scanBound; omega) fun h' tk c made le keep => ?_
  exact ⟨.ref s.heap.objs.size, upd H s.heap.objs.size (SetO X.w s.heap.objs.size (fun j => decide (j ∈ ns)) c), I.laid (t' := tk) keep (Nat.le_refl _) (setO_new made), rfl, q _ c new le⟩
end L2
set_option autoImplicit false
set_option linter.all false
namespace Ev
open PySem
open L2
theorem mem_insU {x z : Int} : ∀ {l : List Int}, z ∈ insU x l ↔ z = x ∨ z ∈ l
  | [] => by simp [insU]
  | y :: ys => by
    unfold insU
    split
    · simp
    · split
      · rename_i e
        subst e
        simp
      · rw [List.mem_cons, mem_insU, List.mem_cons]
        constructor
        · rintro (h | h | h)
          · exact .inr (.inl h)
          · exact .inl h
          · exact .inr (.inr h)
        · rintro (h | h | h)
          · exact .inr (.inl h)
          · exact .inl h
          · exact .inr (.inr h)
theorem mem_sortU {z : Int} : ∀ {l : List Int}, z ∈ sortU l ↔ z ∈ l
  | [] => Iff.rfl
  | x :: xs => by
    show z ∈ insU x (sortU xs) ↔ _
    rw [mem_insU, mem_sortU, List.mem_cons]
theorem insU_lt {x : Int} : ∀ {l : List Int}, l.Pairwise (· < ·) → (insU x l).Pairwise (· < ·)
  | [], _ => List.pairwise_singleton _ _
  | y :: ys, h => by
    have hc := List.pairwise_cons.mp h
    unfold insU
    split
    · rename_i lt
      refine List.pairwise_cons.mpr ⟨fun z hz => ?_, h⟩
      rcases List.mem_cons.mp hz with e | hz
      · rw [e]; exact lt
      · exact Int.lt_trans lt (hc.1 z hz)
    · split
      · exact h
      · refine List.pairwise_cons.mpr ⟨fun z hz => ?_, insU_lt hc.2⟩
        rcases mem_insU.mp hz with e | hz
        · rw [e]; omega
        · exact hc.1 z hz
theorem sortU_lt : ∀ l : List Int, (sortU l).Pairwise (· < ·)
  | [] => .nil
  | _ :: xs => insU_lt (sortU_lt xs)
theorem sortU_uniq {l ms : List Int} (h : ms.Pairwise (· < ·)) (m : ∀ z, z ∈ ms ↔ z ∈ l) : ms = sortU l := by
  have le : ∀ {a : List Int}, a.Pairwise (· < ·) → a.Pairwise (· ≤ ·) := fun h => h.imp fun {a b} q => by omega
  have nd : ∀ {a : List Int}, a.Pairwise (· < ·) → a.Nodup := fun h => h.imp fun {a b} q => by omega
  exact sorted_unique ((List.perm_ext_iff_of_nodup (nd h) (nd (sortU_lt l))).mpr fun z => by rw [m, mem_sortU]) (le h) (le (sortU_lt l))
theorem bName_tuple {x : Str} (h : bName x = some .tuple) : x = "tuple" := by
  unfold bName at h
  repeat' (split at h)
  all_goals first
    | assumption
    | (cases h; done)
    | (unfold bName2 at h; repeat' (split at h))
  all_goals (cases h; done)
theorem bName_len {x : Str} (h : bName x = some .len) : x = "len" := by
  unfold bName at h
  repeat' (split at h)
  all_goals first
    | assumption
    | (cases h; done)
    | (unfold bName2 at h; repeat' (split at h))
  all_goals (cases h; done)
/-- how many there are in a set of ints -/
def rLenS (w : World) : List V → Hp → VK → Prop := fun xs H Q => ∃ (p : Addr) (ns : List Int) (c : Nat), xs = [V.ref p] ∧ H p = some (SetO w p (fun j => decide (j ∈ ns)) c) ∧ Q (.int ((sortU ns).length : Nat)) H
theorem setR_many {w : World} {h : Heap} {p : Addr} {ns : List Int} {c : Nat} (R : SetR w h p (fun j => decide (j ∈ ns)) c) : c = (sortU ns).length := by
  obtain ⟨o, es, ep, t, ho, hx, hd, g, nd, hm, hb, hf, hn, _⟩ := R
  have hs : (sortU ns).Nodup := (sortU_lt ns).imp fun q => by omega
  have pm : (es.toList.map keyOf).Perm (sortU ns) := (List.perm_ext_iff_of_nodup nd hs).mpr fun k => by
    rw [← hm k, mem_sortU, decide_eq_true_iff]
  rw [← pm.length_eq, List.length_map, Array.length_toList, hn]
theorem cr_lenS {X : Cx} (hc : X.calm = true) : CallR X (.builtin "len") (rLenS X.w) := by
  intro pins s σ H xs us Q I r ⟨p, ns, c, hx, hp, q⟩
  subst hx
  rw [Vals.ref1 r]
  have R : SetR X.w s.heap p (fun j => decide (j ∈ ns)) c := setO_get I hp
  have hm := setR_many R
  obtain ⟨o, es, ep, t, ho, hex, hd, g, nd, hmm, hb, hf, hn, _⟩ := R
  exact call_len_set ho hex hd hf (by unfold scanBound at hb; omega) ⟨.int ((sortU ns).length : Nat), H, I.tok _, ⟨_, by rw [hn, hm]⟩, q⟩
theorem bName_sorted {x : Str} (h : bName x = some .sorted) : x = "sorted" := by
  unfold bName at h
  repeat' (split at h)
  all_goals first
    | assumption
    | (cases h; done)
    | (unfold bName2 at h; repeat' (split at h))
  all_goals (cases h; done)
section
variable {K : PySem.W.Frag} {H : Hp} {m : List Addr} {S : Sto}
/-- a thing is laid that the store knows nothing of -/
theorem RSt.aside (h : RSt K H m S) {p : Addr} {o : HO} (hp : H p = none) : Up H m (upd H p o) m ∧ RSt K (upd H p o) m S := by
  have u : Up H m (upd H p o) m := by
    have := up_fresh (m := m) (o := o) hp []
    simpa using this
  exact ⟨u, h.len, h.nd, fun i c e => by
    obtain ⟨a, e1, q⟩ := h.at_ i c e
    exact ⟨a, e1, q.up u fun ws e => by rw [upd_ne (ne_of_none e hp)]; exact e⟩⟩
theorem pairs_at : ∀ {xs : List D} {cs : List Int} {vs : List V}, mapO pairU xs = some cs → RepL K H m xs vs → ∃ ks : List (Addr × List Int), vs = ks.map (fun p => V.ref p.1) ∧
    (∀ p ∈ ks, SqT K H p.1 (p.2.map V.int) ∧ ∃ x y : Int, p.2 = [x, y] ∧ 0 ≤ x ∧ x < 64 ∧ 0 ≤ y ∧ y < 64) ∧ ks.map (fun p => TS.code 64 p.2) = cs
  | [], cs, vs, e, r => by cases e; simp only [RepL] at r; subst r; exact ⟨[], rfl, (fun p hp => by cases hp), rfl⟩
  | d :: xs, cs, vs, e, r => by
    obtain ⟨c, ys, h1, h2, rfl⟩ := mapO_cons e
    simp only [RepL] at r
    obtain ⟨v, ws, rfl, h3, h4⟩ := r
    obtain ⟨ks, rfl, k1, k2⟩ := pairs_at h2 h4
    unfold pairU at h1
    split at h1
    · rename_i x y
      split at h1
      · rename_i hb
        cases h1
        obtain ⟨a, us, rfl, g1, g2⟩ := rep_tup h3
        have := intsO_rep (ns := [x, y]) rfl g2
        subst this
        refine ⟨(a, [x, y]) :: ks, rfl, fun p hp => ?_, ?_⟩
        · rcases List.mem_cons.mp hp with e | hp
          · subst e
            exact ⟨g1, x, y, rfl, hb⟩
          · exact k1 p hp
        · rw [List.map_cons, k2, code_pair]
      · cases h1
    · cases h1
theorem pairs_back {S1 : Sto} : ∀ {ks : List (Addr × List Int)} {cs : List Int}, (∀ p ∈ ks, SqT K H p.1 (p.2.map V.int) ∧ ∃ x y : Int, p.2 = [x, y] ∧ 0 ≤ x ∧ x < 64 ∧ 0 ≤ y ∧ y < 64) → ks.map (fun p => TS.code 64 p.2) = cs → RepL K H m (cs.map unpair) (ks.map fun p => V.ref p.1)
  | [], cs, _, e => by subst e; exact .nil
  | p :: ks, cs, h, e => by
    subst e
    obtain ⟨h1, x, y, e1, b1, b2, b3, b4⟩ := h p (List.mem_cons_self ..)
    refine .cons ?_ (pairs_back (S1 := S1) (fun q hq => h q (List.mem_cons_of_mem _ hq)) rfl)
    show RepD K H m (unpair (TS.code 64 p.2)) (V.ref p.1)
    rw [e1, code_pair]
    have d1 : (x * 64 + y) / 64 = x := by omega
    have d2 : (x * 64 + y) % 64 = y := by omega
    unfold unpair
    rw [d1, d2]
    rw [e1] at h1
    exact mk_tup h1 (RepL.ints [x, y])
theorem srs_ok {S' : Sto} {d z : D} {v : V} {P : Program} {w : World} {Q : VK} (st : RSt K H m S) (rx : RepD K H m d v) (e : srsD d S = .ok (z, S')) (q : ∀ u H' m', Up H m H' m' → RepD K H' m' z u → RSt K H' m' S' → Q u H') :
    rSetOfI K w [v] H (fun u H1 => rSortedSet w [u] H1 Q ∨ rSortedT K P w [u] H1 Q) ∨ rSetOfT K P w [v] H (fun u H1 => rSortedSet w [u] H1 Q ∨ rSortedT K P w [u] H1 Q) := by
  obtain ⟨xs, e1, e⟩ := bi_eq_ok e
  obtain ⟨few, e⟩ := when_ok e
  obtain ⟨a, vs, rfl, h2, h3⟩ := st.lst (opt_eq_ok e1) rx
  cases hi : intsO xs with
  | some ns =>
    rw [hi] at e
    cases ok_inj e
    have := intsO_rep hi h3
    subst this
    have hl : ns.length < 64 := by have := h3.length; rw [List.length_map] at this; omega
    refine .inl ⟨a, ns, rfl, SqL.of h2, hl, fun p c hp hc => .inl ⟨p, _, c, rfl, upd_same, by omega, fun ms p2 pw mem _ hp2 => ?_⟩⟩
    have hu : ms = sortU ns := sortU_uniq pw fun z => by rw [mem]; simp
    obtain ⟨u1, st1⟩ := st.aside (o := SetO w p (fun j => decide (j ∈ ns)) c) hp
    obtain ⟨u2, st2, r2⟩ := st1.fresh hp2 (RepL.ints ms)
    rw [hu] at u2 st2 r2 ⊢
    exact q _ _ _ (u1.trans u2) r2 st2
  | none =>
    rw [hi] at e
    obtain ⟨cs, e2, e⟩ := bi_eq_ok e
    cases ok_inj e
    obtain ⟨ks, rfl, k1, k2⟩ := pairs_at (opt_eq_ok e2) h3
    have hl : ks.length < 64 := by have := h3.length; rw [List.length_map] at this; omega
    refine .inr ⟨a, ks, rfl, SqL.of h2, fun p hp => (k1 p hp).1, hl, fun p L hp sub all => .inr ⟨p, L, 2, 64, rfl, upd_same, fun r hr => ?_, by omega, fun r hr => ?_, fun L' p2 pm nd _ pw hp2 => ?_⟩⟩
    · obtain ⟨u1, st1⟩ := st.aside (o := SetTO P w p L) hp
      exact u1.sqT (k1 r (sub r hr)).1
    · obtain ⟨_, x, y, e1, b1, b2, b3, b4⟩ := k1 r (sub r hr)
      rw [e1]
      refine ⟨rfl, fun z hz => ?_⟩
      rcases List.mem_cons.mp hz with e | hz
      · rw [e]; exact ⟨b1, b2⟩
      · rw [List.mem_singleton.mp hz]; exact ⟨b3, b4⟩
    · obtain ⟨u1, st1⟩ := st.aside (o := SetTO P w p L) hp
      have k3 : ∀ r ∈ L', SqT K (upd H p (SetTO P w p L)) r.1 (r.2.map V.int) ∧ ∃ x y : Int, r.2 = [x, y] ∧ 0 ≤ x ∧ x < 64 ∧ 0 ≤ y ∧ y < 64 := fun r hr => by
        have := k1 r (sub r (pm.mem_iff.mp hr))
        exact ⟨u1.sqT this.1, this.2⟩
      have inj : ∀ r ∈ L', ∀ t ∈ L', TS.code 64 r.2 = TS.code 64 t.2 → r.2 = t.2 := fun r hr t ht e => by
        obtain ⟨_, x, y, e1, b1, b2, b3, b4⟩ := k3 r hr
        obtain ⟨_, x', y', e1', b1', b2', b3', b4'⟩ := k3 t ht
        rw [e1, e1', code_pair, code_pair] at e
        rw [e1, e1']
        have h1 : x = x' := by omega
        have h2 : y = y' := by omega
        rw [h1, h2]
      have lt : (L'.map fun r => TS.code 64 r.2).Pairwise (· < ·) := by
        rw [List.pairwise_map]
        refine List.Pairwise.imp_of_mem (fun {r t} hr ht h => ?_) (pw.and (List.pairwise_map.mp nd))
        have hne : TS.code 64 r.2 ≠ TS.code 64 t.2 := fun z => h.2 (inj r hr t ht z)
        have := h.1
        omega
      have hu : (L'.map fun r => TS.code 64 r.2) = sortU cs := sortU_uniq lt fun z => by
        rw [← k2, List.mem_map, List.mem_map]
        constructor
        · rintro ⟨r, hr, e⟩
          exact ⟨r, sub r (pm.mem_iff.mp hr), e⟩
        · rintro ⟨r, hr, e⟩
          obtain ⟨t, ht, e2⟩ := List.mem_map.mp (all r hr)
          exact ⟨t, pm.mem_iff.mpr ht, by rw [e2]; exact e⟩
      obtain ⟨u2, st2, r2⟩ := st1.fresh hp2 (pairs_back (S1 := S) (m := m) k3 hu)
      exact q _ _ _ (u1.trans u2) r2 st2
end
theorem srv_facts {K : PySem.W.Frag} {H : Hp} {m : List Addr} {S : Sto} {xs ys : List D} {ws : List V} (st : RSt K H m S) (e : srvO S xs = some ys) (r : RepL K H m xs ws) :
    ∃ ds, DpAll K H ws ds ∧ PySem.W.AllAlike ds ∧ PySem.W.Sortable ds ∧ (∀ d, d ∈ ds → d.depth ≤ 60) ∧ RepL K H m ys ((SrvT.fromTop (ws.zip ds)).map Prod.fst) := by
  unfold srvO at e
  cases hp : mapO (toPy 60 S) xs with
  | none => rw [hp] at e; cases e
  | some ps =>
    rw [hp] at e
    simp only [Option.bind_some] at e
    split at e
    · rename_i hc
      cases e
      have hm := mapO_all (toPy_ok (S := S) 60) xs ps hp
      have hd := dpAll (fun d p v h r => dp_of st 60 d p v h r) xs ps ws hp r
      have l1 : xs.length = ws.length := r.length
      have l2 := dpall_len hd
      obtain ⟨z1, z2⟩ := zip_left (xs := xs) (ws := ws) (ps := ps) l1 (by omega)
      refine ⟨ps, hd, fun d hd' d' hd2 => List.all_eq_true.mp (List.all_eq_true.mp hc.1 d hd') d' hd2, .inl fun d hd' => ?_, fun d hd' => (hm d hd').2.1, ?_⟩
      · have := List.all_eq_true.mp hc.2 d hd'
        unfold tupB at this
        split at this
        · exact ⟨_, _, rfl⟩
        · cases this
      · unfold SrvT.fromTop
        have m1 : (((xs.zip ws).zip ps).mergeSort (PySem.W.dataLe true Prod.snd)).map (fun t => (t.1.1, t.2)) = (((xs.zip ws).zip ps).map fun t => (t.1.1, t.2)).mergeSort (PySem.W.dataLe true Prod.snd) := List.map_mergeSort fun a _ b _ => rfl
        have m2 : (((xs.zip ws).zip ps).mergeSort (PySem.W.dataLe true Prod.snd)).map (fun t => (t.1.2, t.2)) = (((xs.zip ws).zip ps).map fun t => (t.1.2, t.2)).mergeSort (PySem.W.dataLe true Prod.snd) := List.map_mergeSort fun a _ b _ => rfl
        rw [← z1, ← z2, ← m1, ← m2, List.map_map, List.map_map]
        refine repL_pairs fun t ht => ?_
        have ht := (List.mergeSort_perm _ _).subset ht
        exact repL_zip r _ (List.of_mem_zip ht).1
    · cases e
section
variable {g : Ctx} {F : Nat → List D → Sto → R (D × Sto)} {l : Nat} {X : Cx} {sc : Scope}
theorem srv_pe (G : Gd X g F l sc) {n : Nat} (ih : IH g F l n) {a : Expr} {c : C} {p pos kp kp2 : Pos} {kk : Nat} (hx : gBlt g sc "sorted" = true) (h : cE g n sc a = some c) :
    PE X (.Call (.Name "sorted" p) [a] [⟨some "reverse", .Constant (.bool true) kk kp, kp2⟩] pos) (tE X.K (ev F (.srv c))) := by
  obtain ⟨g1, g2, g3⟩ := G.gblt hx
  cases n with
  | zero => cases h
  | succ n =>
    have ihp := fun e c h => (ih sc e c h X G).1
    have P1 := pa_of (F := F) (n + 1) ihp [a] [c] (by simp [cE_star h]) (by simp [mapO, h])
    have K1 := pk_of (F := F) (n + 1) ihp [⟨some "reverse", .Constant (.bool true) kk kp, kp2⟩] [.cst (.bl true)] rfl
    refine (SrvT.pe_top G.hu g1 g2 P1 K1 (star_no (cE_star h) _ _)).imp fun σ H Q q => ?_
    obtain ⟨r, S, m, d, S', h1, h2, h3, h4⟩ := q
    obtain ⟨z, e1, h3⟩ := bi_eq_ok (show ((ev F c r S).bi fun p => srvD p.1 p.2) = .ok (d, S') from h3)
    refine ⟨r, S, m, [z.1], z.2, h1, h2, ?_, fun vs H1 m1 u1 rd1 st1 => ?_⟩
    · simp only [evL]
      rw [show (evP F c).v r S = .ok z from e1]; rfl
    refine ⟨r, z.2, m1, [.bl true], z.2, h1.up u1, st1, rfl, fun us H2 m2 u2 rd2 st2 => ?_⟩
    simp only [RepL] at rd1 rd2
    obtain ⟨v, _, rfl, q1, rfl⟩ := rd1
    obtain ⟨u, _, rfl, q2, rfl⟩ := rd2
    obtain rfl := rep_bl q2
    obtain ⟨xs, e2, h3⟩ := bi_eq_ok (show ((opt (isLst z.2 z.1)).bi fun xs => (opt (srvO z.2 xs)).bi fun ys => R.ok (D.loc z.2.length, z.2 ++ [.lst ys])) = .ok (d, S') from h3)
    obtain ⟨ys, e3, h3⟩ := bi_eq_ok h3
    cases ok_inj h3
    obtain ⟨b, ws, rfl, k2, k3⟩ := st2.lst (opt_eq_ok e2) (RepD.up u2 _ _ q1)
    obtain ⟨ds, f1, f2, f3, f4, f5⟩ := srv_facts st2 (opt_eq_ok e3) k3
    refine ⟨rfl, b, ws, ds, rfl, SqL.of k2, f1, f2, f3, f4, fun p hp => ?_⟩
    obtain ⟨u3, st3, r3⟩ := st2.fresh hp f5
    exact h4 _ _ _ ((u1.trans u2).trans u3) r3 st3
theorem lset_pe (G : Gd X g F l sc) {n : Nat} (ih : IH g F l n) {a : Expr} {c : C} {p pos p2 pos2 : Pos} (hx : gBlt g sc "len" = true) (hy : gBlt g sc "set" = true) (h : cE g n sc a = some c) :
    PE X (.Call (.Name "len" p) [.Call (.Name "set" p2) [a] [] pos2] [] pos) (tE X.K (ev F (.lset c))) := by
  obtain ⟨g1, g2, g3⟩ := G.gblt hx
  obtain ⟨g4, g5, g6⟩ := G.gblt hy
  obtain ⟨d1, d2, d3⟩ := dun g3
  obtain ⟨d4, d5, d6⟩ := dun g6
  have P1 := pa_cons (X := X) (ih sc a c h X G).1 pa_nil (star_no (cE_star h) _ _)
  have P2 : PE X (.Call (.Name "set" p2) [a] [] pos2) _ := pe_callTy (cr_setOfI G.calm) g4 g5 (by decide +kernel) P1 d6 d4 (star_no (cE_star h) _ _) rfl
  have P3 := pa_cons (X := X) P2 pa_nil rfl
  refine (pe_callB (cr_lenS G.calm) g1 g2 (by decide +kernel) P3 d3 d1 rfl rfl).imp fun σ H Q q => ?_
  obtain ⟨r, S, m, d, S', h1, h2, h3, h4⟩ := q
  obtain ⟨z, e1, h3⟩ := bi_eq_ok (show ((ev F c r S).bi fun p => lsetD p.1 p.2) = .ok (d, S') from h3)
  refine ⟨r, S, m, z.1, z.2, h1, h2, e1, fun v H1 m1 u1 rd1 st1 => ?_⟩
  obtain ⟨xs, e2, h3⟩ := bi_eq_ok (show ((opt (isLst z.2 z.1)).bi fun xs => when (xs.length < 64) ((opt (intsO xs)).bi fun ns => R.ok (D.int ((sortU ns).length : Nat), z.2))) = .ok (d, S') from h3)
  obtain ⟨few, h3⟩ := when_ok h3
  obtain ⟨ns, e3, h3⟩ := bi_eq_ok h3
  cases ok_inj h3
  obtain ⟨b, vs, rfl, k2, k3⟩ := st1.lst (opt_eq_ok e2) rd1
  have := intsO_rep (opt_eq_ok e3) k3
  subst this
  have hl : ns.length < 64 := by have := k3.length; rw [List.length_map] at this; omega
  refine ⟨b, ns, rfl, SqL.of k2, hl, fun p c hp hc => ⟨p, ns, c, rfl, upd_same, ?_⟩⟩
  obtain ⟨u2, st2⟩ := st1.aside (o := SetO X.w p (fun j => decide (j ∈ ns)) c) hp
  exact h4 _ _ _ (u1.trans u2) (mk_int _) st2
/-- a heap in which new things lie, one of them the store's new cell -/
theorem RSt.freshH {K : PySem.W.Frag} {H H' : Hp} {m : List Addr} {S : Sto} (h : RSt K H m S) {p : Addr} {c0 : Cell} (hp : H p = none) (k : ∀ b o, H b = some o → H' b = some o) (r : Up H m H' (m ++ [p]) → RepC K H' (m ++ [p]) c0 p) :
    Up H m H' (m ++ [p]) ∧ RSt K H' (m ++ [p]) (S ++ [c0]) ∧ RepD K H' (m ++ [p]) (.loc S.length) (.ref p) := by
  have u : Up H m H' (m ++ [p]) := ⟨fun b _ e => k b _ e, fun b _ _ e => k b _ e, fun b _ _ e => k b _ e, [p], rfl⟩
  refine ⟨u, ⟨by simp [h.len], ?_, fun i c e => ?_⟩, ?_⟩
  · rw [List.nodup_append]
    refine ⟨h.nd, by simp, fun a ha b hb => ?_⟩
    simp only [List.mem_singleton] at hb
    subst hb
    intro q; subst q
    exact h.notin hp ha
  · by_cases hi : i < S.length
    · rw [List.getElem?_append_left hi] at e
      obtain ⟨a, e1, q⟩ := h.at_ i c e
      exact ⟨a, u.get e1, q.up u fun ws e => k _ _ e⟩
    · rw [List.getElem?_append_right (Nat.le_of_not_lt hi)] at e
      have hi' : i = S.length := by
        by_cases q : i - S.length = 0
        · omega
        · rw [List.getElem?_eq_none (by simp; omega)] at e; cases e
      subst hi'
      simp at e
      subst e
      refine ⟨p, ?_, r u⟩
      rw [List.getElem?_append_right (by rw [h.len]; exact Nat.le_refl _), h.len]; simp
  · simp only [RepD]
    refine ⟨p, ?_, rfl⟩
    rw [List.getElem?_append_right (by rw [h.len]; exact Nat.le_refl _), h.len]; simp
theorem lit_rep {K : PySem.W.Frag} {H : Hp} {m : List Addr} : ∀ {kvs : List (Ky × D)} {ws : List (Key × V)} {ts : List Addr}, RepK K H m kvs ws → Paired (fun (t : Addr) (q : Key × V) => H t = some (.tup [kV q.1, q.2])) ts ws →
    RepL K H m (kvs.map fun kv => D.tup [kyD kv.1, kv.2]) (ts.map V.ref)
  | [], ws, ts, h, p => by
    simp only [RepK] at h
    subst h
    cases p
    exact .nil
  | kv :: kvs, ws, ts, h, p => by
    simp only [RepK] at h
    obtain ⟨v, r, rfl, h1, h2⟩ := h
    cases p with
    | cons a t =>
      have hk : RepD K H m (kyD kv.1) (kV kv.1) := by
        cases kv.1 with
        | inl i => exact mk_int i
        | inr y => exact mk_str y
      exact .cons (mk_tup (SqT.of a) (.cons hk (.cons h1 .nil))) (lit_rep h2 t)
theorem lit_ok {K : PySem.W.Frag} {H : Hp} {m : List Addr} {S S' : Sto} {d z : D} {v : V} {Q : VK} (st : RSt K H m S) (rx : RepD K H m d v) (e : litD d S = .ok (z, S')) (q : ∀ u H' m', Up H m H' m' → RepD K H' m' z u → RSt K H' m' S' → Q u H') : LiI.rItemsL v H Q := by
  obtain ⟨kvs, e1, e⟩ := bi_eq_ok e
  cases ok_inj e
  obtain ⟨k, a, ws, rfl, rfl, h1, h2, h3⟩ := st.dct (opt_eq_ok e1) rx
  refine ⟨a, ws, rfl, h2, fun H' p ts hk hp hts hpt hl hpr => ?_⟩
  obtain ⟨u1, st1, r1⟩ := st.freshH (H' := H') (c0 := .lst (kvs.map fun kv => D.tup [kyD kv.1, kv.2])) hp hk fun u => ⟨ts.map V.ref, hl, lit_rep (RepK.up u _ _ h3) hpr⟩
  exact q _ _ _ u1 r1 st1
theorem lit_pe (G : Gd X g F l sc) {n : Nat} (ih : IH g F l n) {o : Expr} {c : C} {p apos cpos pos : Pos} (hx : gBlt g sc "list" = true) (hob : okBase o = true) (hl : (apos.endLine == cpos.line) = true) (h : cE g n sc o = some c) :
    PE X (.Call (.Name "list" p) [.Call (.Attribute o "items" apos) [] [] cpos] [] pos) (tE X.K (ev F (.lit c))) := by
  obtain ⟨g1, g2, g3⟩ := G.gblt hx
  refine (LiI.pe_listItems G.calm (ih sc o c h X G).1 g1 g2 (by decide +kernel) (base_ok hob) hl rfl).imp fun σ H Q q => ?_
  obtain ⟨r, S, m, d, S', h1, h2, h3, h4⟩ := q
  obtain ⟨z, e1, h3⟩ := bi_eq_ok (show ((ev F c r S).bi fun p => litD p.1 p.2) = .ok (d, S') from h3)
  exact ⟨r, S, m, z.1, z.2, h1, h2, e1, fun v H1 m1 u1 rd1 st1 => lit_ok st1 rd1 h3 fun w H2 m2 u2 => h4 w H2 m2 (u1.trans u2)⟩
theorem srs_pe (G : Gd X g F l sc) {n : Nat} (ih : IH g F l n) {a : Expr} {c : C} {p pos p2 pos2 : Pos} (hx : gBlt g sc "sorted" = true) (hy : gBlt g sc "set" = true) (h : cE g n sc a = some c) :
    PE X (.Call (.Name "sorted" p) [.Call (.Name "set" p2) [a] [] pos2] [] pos) (tE X.K (ev F (.srs c))) := by
  obtain ⟨g1, g2, g3⟩ := G.gblt hx
  obtain ⟨g4, g5, g6⟩ := G.gblt hy
  obtain ⟨d1, d2, d3⟩ := dun g3
  obtain ⟨d4, d5, d6⟩ := dun g6
  have hu := G.hu
  have P1 := pa_cons (X := X) (ih sc a c h X G).1 pa_nil (star_no (cE_star h) _ _)
  have P2 : PE X (.Call (.Name "set" p2) [a] [] pos2) _ := pe_callTy (CallR.or (cr_setOfI G.calm) (cr_setOfT G.calm (by omega))) g4 g5 (by decide +kernel) P1 d6 d4 (star_no (cE_star h) _ _) rfl
  have P3 := pa_cons (X := X) P2 pa_nil rfl
  refine (pe_callB (CallR.or (cr_sortedSet G.calm) (cr_sortedT G.calm)) g1 g2 (by decide +kernel) P3 d3 d1 rfl rfl).imp fun σ H Q q => ?_
  obtain ⟨r, S, m, d, S', h1, h2, h3, h4⟩ := q
  obtain ⟨z, e1, h3⟩ := bi_eq_ok (show ((ev F c r S).bi fun p => srsD p.1 p.2) = .ok (d, S') from h3)
  refine ⟨r, S, m, z.1, z.2, h1, h2, e1, fun v H1 m1 u1 rd1 st1 => ?_⟩
  exact srs_ok st1 rd1 h3 fun w H2 m2 u2 => h4 w H2 m2 (u1.trans u2)
end
end Ev
set_option autoImplicit false
set_option linter.all false
namespace Ev
open PySem
open L2
section
variable {g : Ctx} {F : Nat → List D → Sto → R (D × Sto)} {l : Nat}
theorem snd_name (n : Nat) {sc : Scope} {x : Str} {pos : Pos} {c : C} (h : cE g (n + 1) sc (.Name x pos) = some c) (X : Cx) (G : Gd X g F l sc) : PE X (.Name x pos) (tE X.K (ev F c)) ∧ PT X (.Name x pos) (tT X.K (evT F c)) := by
  simp only [cE] at h
  split at h
  · cases h
  · rename_i hd
    have hd' : dunder x = false := by simpa using hd
    obtain ⟨d1, d2, d3⟩ := dun hd'
    have var : ∀ {i : Nat}, idx g.ns x = some i → Vis X.env.scope x → PE X (.Name x pos) (tE X.K (ev F (.var i))) ∧ PT X (.Name x pos) (tT X.K (evT F (.var i))) := fun {i} e v => by
      have P := (pe_var (pos := pos) (by rw [G.nm]; exact idx_get e) v d1 d2).imp (t' := tE X.K (ev F (.var i))) fun σ H Q q => by
        obtain ⟨r, S, m, d, S', h1, h2, h3, h4⟩ := q
        have h3 : (match r[i]? with | some (some d) => R.ok (d, S) | _ => .no) = R.ok (d, S') := h3
        split at h3
        · rename_i e1
          cases ok_inj h3
          obtain ⟨w, k1, k2⟩ := h1.at_ i _ e1
          exact ⟨w, k1, h4 _ _ _ Up.refl k2 h2⟩
        · cases h3
      exact ⟨P, plain_pt P fun _ => rfl⟩
    split at h
    · rename_i hk
      obtain ⟨i, e, rfl⟩ := Option.map_eq_some_iff.mp h
      exact var e (G.vis (.inl hk))
    · rename_i hk
      obtain ⟨i, e, rfl⟩ := Option.map_eq_some_iff.mp h
      exact var e (G.vis (.inr (.inl hk)))
    · rename_i hk
      obtain ⟨i, e, rfl⟩ := Option.map_eq_some_iff.mp h
      exact var e (G.vis (.inr (.inr hk)))
    · rename_i hk
      split at h
      · rename_i hc
        cases h
        obtain ⟨v, u, k1, k2, k3⟩ := G.cst x _ hc
        have P : PE X (.Name x pos) (tE X.K (ev F (.cst _))) := (pe_glob (pos := pos) (G.kind hk) k1 k2 d1).imp fun σ H Q q => cst_of (F := F) k3 q
        exact ⟨P, plain_pt P fun _ => rfl⟩
      · cases h
    · cases h
theorem bName_list {x : Str} (h : bName x = some .list) : x = "list" := by
  unfold bName at h
  repeat' (split at h)
  all_goals first
    | assumption
    | (cases h; done)
    | (unfold bName2 at h; repeat' (split at h))
  all_goals (cases h; done)
theorem snd_call (n : Nat) (ih : IH g F l n) {sc : Scope} {f : Expr} {as : List Expr} {kws : List Keyword} {cpos : Pos} {c : C} (h : cE g (n + 1) sc (.Call f as kws cpos) = some c) (X : Cx) (G : Gd X g F l sc) : PE X (.Call f as kws cpos) (tE X.K (ev F c)) := by
  have ihp := fun e c h => (ih sc e c h X G).1
  simp only [cE] at h
  replace h := (plainC_of h).1
  split at h
  · cases h
  · rename_i hs
    have hs' : as.any isStar = false := by simpa using hs
    have hst : ∀ e ∈ as, ∀ r env, starEach (e :: r) env = (false, eval e env) :: starEach r env := fun e he r env => star_no (by
      cases q : isStar e with
      | false => rfl
      | true => exact absurd (List.any_eq_true.mpr ⟨e, he, q⟩) (by rw [hs']; exact Bool.false_ne_true)) r env
    split at h
    · rename_i x xp
      split at h
      · cases h
      · rename_i hd
        have hd' : dunder x = false := by simpa using hd
        obtain ⟨d1, d2, d3⟩ := dun hd'
        split at h
        · rename_i hk
          split at h
          · rename_i i ps hf
            obtain ⟨es, e1, h⟩ := Option.bind_eq_some_iff.mp h
            obtain ⟨fa, fd, A⟩ := G.fn x i ps hf
            have PA1 := pa_of n ihp as es hs' e1
            split at h
            · cases h
              cases as with
              | nil =>
                cases e1
                refine (pe_callG0 A.ok G.room G.gd (G.kind hk) A.mg A.kp A.bd d1).imp fun σ H Q q => ?_
                obtain ⟨r, S, m, d, S', h1, h2, h3, h4⟩ := q
                have h3 : F i [] S = .ok (d, S') := h3
                exact ⟨S, m, [], d, S', .nil, h2, h3, h4⟩
              | cons a as => exact (pe_callG A.ok G.room G.gd (G.kind hk) A.mg A.kp A.bd PA1 (List.cons_ne_nil _ _) hst (fun env => back_no hs') d1).imp fun σ H Q q => call_of q
            · obtain ⟨ks, e2, h⟩ := Option.bind_eq_some_iff.mp h
              split at h
              · rename_i hm
                obtain ⟨zs, e3, h⟩ := Option.bind_eq_some_iff.mp h
                obtain ⟨gp, e4, h⟩ := Option.bind_eq_some_iff.mp h
                cases h
                have hkl : ks.length = kws.length := (mapO_len e2).symm
                refine (pe_callKG (ks := ks) (g := fun us ws => pickL gp (us ++ ws)) (gV := fun vs zs => pickL gp (vs ++ zs)) A.ok G.room G.gd (G.kind hk) A.mg A.kp
                  (fun s us ws hK h1 h2 h3 => A.kb _ _ hm gp e4 s us ws hK h1 (h2.trans hkl.symm) h3) (fun r1 r2 => pickL_vals (r1.append r2) gp) PA1
                  (fun σ H Q q => by have := tL_len q; rw [← mapO_len e1] at this; exact this) (pk_of n ihp kws zs e3) (fun σ H Q q => by have := tL_len q; rw [← mapO_len e3] at this; exact this)
                  (fun env => (kw_facts e2).1) (fun env => (kw_facts e2).2.1) (fun env => (kw_facts e2).2.2) hst (fun env => back_no hs') d1 (fun hn σ H Q q => ?_)).imp fun σ H Q q => calk_of q
                subst hn
                cases e1
                obtain ⟨r, S, m, ds, S', k1, k2, k3, k4⟩ := q
                simp only [evL] at k3
                cases ok_inj k3
                exact k4 _ _ _ Up.refl .nil k2
              · cases h
          · rename_i hf
            have hg : gBlt g sc x = true := by
              unfold gBlt
              rw [hd', hk, hf]; rfl
            split at h
            · split at h
              · rename_i hb
                split at h
                · rename_i y yp bs bpos
                  split at h
                  · rename_i hy
                    obtain ⟨hy1, hy2, hy3, hy4⟩ := hy
                    obtain ⟨es, e1, rfl⟩ := Option.map_eq_some_iff.mp h
                    subst hy1
                    obtain ⟨r1, r2, r3⟩ := G.gblt hy2
                    have hx := bName_list hb
                    subst hx
                    have nos : starEach [Expr.Call (.Name "range" yp) bs [] bpos] X.env = (false, eval (Expr.Call (.Name "range" yp) bs [] bpos) X.env) :: starEach [] X.env := rfl
                    have PA2 := pa_of n ihp bs es hy3 e1
                    match bs, hy4, hy3 with
                    | [a], _, hy3 =>
                      obtain ⟨c, k1, rfl⟩ := one_arg' e1
                      refine (pe_listRg G.calm (G.kind hk) (G.blt _ hf) (prg_1 r1 r2 (ihp _ _ k1) (star_no (cE_star k1) _ _)) nos).imp fun σ H Q q => ?_
                      obtain ⟨r, S, m, d, S', h1, h2, h3, h4⟩ := q
                      obtain ⟨p, e5, h3⟩ := bi_eq_ok h3
                      obtain ⟨p', e6, rfl⟩ := evL_one e5
                      obtain ⟨dd, S1⟩ := p'
                      cases dd with
                      | int j =>
                        obtain ⟨⟨z1, z2, z3, z4, z5⟩, h3⟩ := when_ok h3
                        cases ok_inj h3
                        refine ⟨r, S, m, _, _, h1, h2, e6, fun v H1 m1 u1 rd1 st1 => ⟨j, rep_int rd1, ⟨z1, z2, z3, z4, z5⟩, fun q0 hq0 => ?_⟩⟩
                        have hr : RepL X.K H1 m1 (rg 0 j) (rgV 0 j) := RepL.mapI (f := fun i => 0 + (i : Nat)) _
                        obtain ⟨u2, st2, rd2⟩ := st1.fresh hq0 hr
                        exact h4 _ _ _ (u1.trans u2) rd2 st2
                      | _ => cases h3
                    | [a, b], _, hy3 =>
                      obtain ⟨c, c2, k1, k2, rfl⟩ := two_args e1
                      refine (pe_listRg G.calm (G.kind hk) (G.blt _ hf) (prg_2 r1 r2 (ihp _ _ k1) (ihp _ _ k2) (star_no (cE_star k1) _ _) (star_no (cE_star k2) _ _) (by rw [star_no (cE_star k2)]; rfl)) nos).imp fun σ H Q q => ?_
                      obtain ⟨r, S, m, d, S', h1, h2, h3, h4⟩ := q
                      obtain ⟨p, e5, h3⟩ := bi_eq_ok h3
                      simp only [evL] at e5
                      obtain ⟨p1, e6, e5⟩ := bi_eq_ok e5
                      obtain ⟨p0, e7, e5⟩ := bi_eq_ok e5
                      obtain ⟨p2, e8, e7⟩ := bi_eq_ok e7
                      cases ok_inj e7
                      cases ok_inj e5
                      obtain ⟨d1', S1⟩ := p1
                      obtain ⟨d2', S2⟩ := p2
                      cases d1' with
                      | int i0 =>
                        cases d2' with
                        | int j =>
                          obtain ⟨⟨z1, z2, z3, z4, z5⟩, h3⟩ := when_ok h3
                          cases ok_inj h3
                          refine ⟨r, S, m, _, _, h1, h2, e6, fun v H1 m1 u1 rd1 st1 => ⟨r, _, m1, _, _, h1.up u1, st1, e8, fun v2 H2 m2 u2 rd2 st2 => ⟨i0, j, rep_int rd1, rep_int rd2, ⟨z1, z2, z3, z4, z5⟩, fun q0 hq0 => ?_⟩⟩⟩
                          have hr : RepL X.K H2 m2 (rg i0 j) (rgV i0 j) := RepL.mapI (f := fun i => i0 + (i : Nat)) _
                          obtain ⟨u3, st3, rd3⟩ := st2.fresh hq0 hr
                          exact h4 _ _ _ ((u1.trans u2).trans u3) rd3 st3
                        | _ => cases h3
                      | _ => cases h3
                    | [a, b, b3], _, hy3 =>
                      obtain ⟨c1, cs1, k1, k2, rfl⟩ := mapO_cons e1
                      obtain ⟨c2, c3, k3, k4, rfl⟩ := two_args k2
                      refine (RgS.pe_dn G.calm (G.kind hk) (G.blt _ hf) r1 r2 PA2 (star_no (cE_star k1) _ _) (by rw [star_no (cE_star k3), star_no (cE_star k4)]; rfl)).imp fun σ H Q q => ?_
                      obtain ⟨r, S, m, d, S', h1, h2, h3, h4⟩ := q
                      obtain ⟨⟨ds, S1⟩, e5, h3⟩ := bi_eq_ok h3
                      refine ⟨r, S, m, ds, S1, h1, h2, e5, fun vs H1 m1 u1 rd1 st1 => ?_⟩
                      have hl3 := evL_len e5
                      match ds, hl3 with
                      | [x, y, z], _ =>
                        simp only [RepL] at rd1
                        obtain ⟨v, _, rfl, q1, w, _, rfl, q2, u, _, rfl, q3, rfl⟩ := rd1
                        cases x with
                        | int i0 =>
                          cases y with
                          | int j0 =>
                            cases z with
                            | int c0 =>
                              obtain ⟨⟨z0, z1, z2, z3, z4, z5⟩, h3⟩ := when_ok h3
                              cases ok_inj h3
                              subst z0
                              cases rep_int q1; cases rep_int q2; cases rep_int q3
                              refine ⟨i0, j0, rfl, ⟨z1, z2, z3, z4, z5⟩, fun q0 hq0 => ?_⟩
                              have hr : RepL X.K H1 m1 (rgD i0 j0) (RgS.dnV i0 j0) := RepL.mapI (f := fun i => i0 - (i : Nat)) _
                              obtain ⟨u2, st2, rd2⟩ := st1.fresh hq0 hr
                              exact h4 _ _ _ (u1.trans u2) rd2 st2
                            | _ => cases h3
                          | _ => cases h3
                        | _ => cases h3
                    | [], hl, _ => exact absurd hl (by simp)
                    | _ :: _ :: _ :: _ :: _, hl, _ => exact absurd hl (by simp)
                  · obtain ⟨es, e1, rfl⟩ := Option.map_eq_some_iff.mp h
                    exact blt_pe G ih hg hb hs' e1
                · rename_i o m apos cp
                  split at h
                  · rename_i hy
                    obtain ⟨hy1, hy2, hy3⟩ := hy
                    obtain ⟨c', e1, rfl⟩ := Option.map_eq_some_iff.mp h
                    subst hy1
                    have hx := bName_list hb
                    subst hx
                    exact lit_pe G ih hg hy2 hy3 e1
                  · obtain ⟨es, e1, rfl⟩ := Option.map_eq_some_iff.mp h
                    exact blt_pe G ih hg hb hs' e1
                · obtain ⟨es, e1, rfl⟩ := Option.map_eq_some_iff.mp h
                  exact blt_pe G ih hg hb hs' e1
                · cases h
              · rename_i hb
                split at h
                · rename_i y yp bs bpos
                  split at h
                  · rename_i hy
                    obtain ⟨hy1, hy2, hy3, hy4⟩ := hy
                    obtain ⟨es, e1, rfl⟩ := Option.map_eq_some_iff.mp h
                    subst hy1
                    obtain ⟨r1, r2, r3⟩ := G.gblt hy2
                    have hx := bName_tuple hb
                    subst hx
                    have nos : starEach [Expr.Call (.Name "range" yp) bs [] bpos] X.env = (false, eval (Expr.Call (.Name "range" yp) bs [] bpos) X.env) :: starEach [] X.env := rfl
                    have PA2 := pa_of n ihp bs es hy3 e1
                    match bs, hy4, hy3 with
                    | [a], _, hy3 =>
                      obtain ⟨c, k1, rfl⟩ := one_arg' e1
                      refine (pe_tupRg G.calm (G.kind hk) (G.blt _ hf) (prg_1 r1 r2 (ihp _ _ k1) (star_no (cE_star k1) _ _)) nos).imp fun σ H Q q => ?_
                      obtain ⟨r, S, m, d, S', h1, h2, h3, h4⟩ := q
                      obtain ⟨p, e5, h3⟩ := bi_eq_ok h3
                      obtain ⟨p', e6, rfl⟩ := evL_one e5
                      obtain ⟨dd, S1⟩ := p'
                      cases dd with
                      | int j =>
                        obtain ⟨⟨z1, z2, z3, z4, z5⟩, h3⟩ := when_ok h3
                        cases ok_inj h3
                        refine ⟨r, S, m, _, _, h1, h2, e6, fun v H1 m1 u1 rd1 st1 => ⟨j, rep_int rd1, ⟨z1, z2, z3, z4, z5⟩, fun q0 hq0 => ?_⟩⟩
                        have hr : RepL X.K H1 m1 (rg 0 j) (rgV 0 j) := RepL.mapI (f := fun i => 0 + (i : Nat)) _
                        obtain ⟨u2, st2, rd2⟩ := st1.freshT hq0 hr
                        exact h4 _ _ _ (u1.trans u2) rd2 st2
                      | _ => cases h3
                    | [a, b], _, hy3 =>
                      obtain ⟨c, c2, k1, k2, rfl⟩ := two_args e1
                      refine (pe_tupRg G.calm (G.kind hk) (G.blt _ hf) (prg_2 r1 r2 (ihp _ _ k1) (ihp _ _ k2) (star_no (cE_star k1) _ _) (star_no (cE_star k2) _ _) (by rw [star_no (cE_star k2)]; rfl)) nos).imp fun σ H Q q => ?_
                      obtain ⟨r, S, m, d, S', h1, h2, h3, h4⟩ := q
                      obtain ⟨p, e5, h3⟩ := bi_eq_ok h3
                      simp only [evL] at e5
                      obtain ⟨p1, e6, e5⟩ := bi_eq_ok e5
                      obtain ⟨p0, e7, e5⟩ := bi_eq_ok e5
                      obtain ⟨p2, e8, e7⟩ := bi_eq_ok e7
                      cases ok_inj e7
                      cases ok_inj e5
                      obtain ⟨d1', S1⟩ := p1
                      obtain ⟨d2', S2⟩ := p2
                      cases d1' with
                      | int i0 =>
                        cases d2' with
                        | int j =>
                          obtain ⟨⟨z1, z2, z3, z4, z5⟩, h3⟩ := when_ok h3
                          cases ok_inj h3
                          refine ⟨r, S, m, _, _, h1, h2, e6, fun v H1 m1 u1 rd1 st1 => ⟨r, _, m1, _, _, h1.up u1, st1, e8, fun v2 H2 m2 u2 rd2 st2 => ⟨i0, j, rep_int rd1, rep_int rd2, ⟨z1, z2, z3, z4, z5⟩, fun q0 hq0 => ?_⟩⟩⟩
                          have hr : RepL X.K H2 m2 (rg i0 j) (rgV i0 j) := RepL.mapI (f := fun i => i0 + (i : Nat)) _
                          obtain ⟨u3, st3, rd3⟩ := st2.freshT hq0 hr
                          exact h4 _ _ _ ((u1.trans u2).trans u3) rd3 st3
                        | _ => cases h3
                      | _ => cases h3
                    | [], hl, _ => exact absurd hl (by simp)
                    | _ :: _ :: _ :: _, hl, _ => exact absurd hl (by simp)
                  · obtain ⟨es, e1, rfl⟩ := Option.map_eq_some_iff.mp h
                    exact blt_pe G ih hg hb hs' e1
                · obtain ⟨es, e1, rfl⟩ := Option.map_eq_some_iff.mp h
                  exact blt_pe G ih hg hb hs' e1
                · cases h
              · rename_i hb
                split at h
                · rename_i y yp bs bpos
                  split at h
                  · rename_i hy
                    obtain ⟨hy1, hy2, hy3, hy4⟩ := hy
                    subst hy1
                    obtain ⟨cs, e1, h⟩ := Option.bind_eq_some_iff.mp h
                    match bs, hy4, hy3 with
                    | [a], _, hy3 =>
                      obtain ⟨c', k1, rfl⟩ := one_arg' e1
                      cases h
                      have hx := bName_sorted hb
                      subst hx
                      exact srs_pe G ih hg hy2 k1
                    | [], hl, _ => exact absurd hl (by simp)
                    | _ :: _ :: _, hl, _ => exact absurd hl (by simp)
                  · obtain ⟨es, e1, rfl⟩ := Option.map_eq_some_iff.mp h
                    exact blt_pe G ih hg hb hs' e1
                · obtain ⟨es, e1, rfl⟩ := Option.map_eq_some_iff.mp h
                  exact blt_pe G ih hg hb hs' e1
                · cases h
              · rename_i hb
                split at h
                · rename_i y yp bs bpos
                  split at h
                  · rename_i hy
                    obtain ⟨hy1, hy2, hy3, hy4⟩ := hy
                    subst hy1
                    obtain ⟨cs, e1, h⟩ := Option.bind_eq_some_iff.mp h
                    match bs, hy4, hy3 with
                    | [a], _, hy3 =>
                      obtain ⟨c', k1, rfl⟩ := one_arg' e1
                      cases h
                      have hx := bName_len hb
                      subst hx
                      exact lset_pe G ih hg hy2 k1
                    | [], hl, _ => exact absurd hl (by simp)
                    | _ :: _ :: _, hl, _ => exact absurd hl (by simp)
                  · obtain ⟨es, e1, rfl⟩ := Option.map_eq_some_iff.mp h
                    exact blt_pe G ih hg hb hs' e1
                · obtain ⟨es, e1, rfl⟩ := Option.map_eq_some_iff.mp h
                  exact blt_pe G ih hg hb hs' e1
                · cases h
              · rename_i b hbl hb
                split at h
                · obtain ⟨es, e1, rfl⟩ := Option.map_eq_some_iff.mp h
                  exact blt_pe G ih hg hb hs' e1
                · cases h
              · split at h
                · rename_i hx
                  subst hx
                  split at h
                  · rename_i e t tp
                    split at h
                    · rename_i ht
                      obtain ⟨ty, k1, h⟩ := Option.bind_eq_some_iff.mp h
                      obtain ⟨c', k2, rfl⟩ := Option.map_eq_some_iff.mp h
                      exact isi_pe G ih hg ht k1 k2
                    · cases h
                  · cases h
                · cases h
            · rename_i y kk kp kp2
              split at h
              · rename_i a
                split at h
                · rename_i hy
                  obtain ⟨hy1, hy2⟩ := hy
                  obtain ⟨c', k1, rfl⟩ := Option.map_eq_some_iff.mp h
                  subst hy1
                  subst hy2
                  exact srv_pe G ih hg k1
                · cases h
              · cases h
            · cases h
          · cases h
        · cases h
    · rename_i o m apos
      split at h
      · split at h
        · rename_i hc
          split at h
          · rename_i e1
            obtain ⟨x, e2, h⟩ := Option.bind_eq_some_iff.mp h
            obtain ⟨es, e3, rfl⟩ := Option.map_eq_some_iff.mp h
            exact mth_pe G ih e1 hc.1 hc.2.1 hc.2.2 e2 hs' e3
          · split at h
            · rename_i kvs hg
              obtain ⟨es, e3, h⟩ := Option.bind_eq_some_iff.mp h
              exact gget_pe G ih hg hc.2.1 hs' e3 h
            · obtain ⟨m', e1, h⟩ := Option.bind_eq_some_iff.mp h
              obtain ⟨x, e2, h⟩ := Option.bind_eq_some_iff.mp h
              obtain ⟨es, e3, rfl⟩ := Option.map_eq_some_iff.mp h
              exact dmt_pe G ih e1 hc.1 hc.2.1 hc.2.2 e2 hs' e3
        · cases h
      · cases h
    · cases h
end
end Ev
set_option autoImplicit false
set_option linter.all false
namespace Ev
open PySem
open L2
section
variable {g : Ctx} {F : Nat → List D → Sto → R (D × Sto)} {l : Nat}
theorem plain_evT {c : C} (h : isPlain c = true) : evT F c = (plainT (ev F c)).t := by
  cases c <;> first | rfl | cases h
theorem call_t {n : Nat} {sc : Scope} {f : Expr} {as : List Expr} {kws : List Keyword} {cpos : Pos} {c : C} (h : cE g (n + 1) sc (.Call f as kws cpos) = some c) : evT F c = (plainT (ev F c)).t := by
  simp only [cE] at h
  exact plain_evT (plainC_of h).2
theorem lc_t {n : Nat} {sc : Scope} {elt : Expr} {gs : List Comprehension} {scope : Scope} {pos : Pos} {c : C} (h : cE g (n + 1) sc (.ListComp elt gs scope pos) = some c) : evT F c = (plainT (ev F c)).t := by
  simp only [cE] at h
  exact plain_evT (plainC_of h).2
theorem both {X : Cx} {e : Expr} {c : C} (P : PE X e (tE X.K (ev F c))) (hT : evT F c = (plainT (ev F c)).t) (he : ∀ whole, isTrue e X.env whole = (do let v ← whole; standAt e.pos; holding [v] (truthy v))) :
    PE X e (tE X.K (ev F c)) ∧ PT X e (tT X.K (evT F c)) := ⟨P, by rw [hT]; exact plain_pt P he⟩
theorem snd_step (n : Nat) (ih : IH g F l n) : IH g F l (n + 1) := by
  intro sc e c h X G
  have ihp := fun e c h => (ih sc e c h X G).1
  have iht := fun e c h => (ih sc e c h X G).2
  cases e with
  | Constant k j pos =>
    simp only [cE] at h
    have mk : ∀ {d : D} {v : V}, PE X (.Constant k j pos) (tC v) → (∀ H m, RepD X.K H m d v) → PE X (.Constant k j pos) (tE X.K (ev F (.cst d))) ∧ PT X (.Constant k j pos) (tT X.K (evT F (.cst d))) := fun {d v} p hr => by
      have P : PE X (.Constant k j pos) (tE X.K (ev F (.cst d))) := p.imp fun σ H Q q => cst_of (F := F) hr q
      exact ⟨P, plain_pt P fun _ => rfl⟩
    split at h
    · cases h
      exact mk pe_int fun _ _ => mk_int _
    · cases h
      exact mk pe_bl fun _ _ => mk_bl _
    · cases h
      exact mk pe_non fun _ _ => mk_non
    · cases h
      exact mk pe_str fun _ _ => mk_str _
    · cases h
  | Name x pos => exact snd_name n h X G
  | BinOp a o b pos =>
    simp only [cE] at h
    obtain ⟨x, e1, h⟩ := Option.bind_eq_some_iff.mp h
    obtain ⟨y, e2, h⟩ := Option.bind_eq_some_iff.mp h
    cases h
    have P : PE X (.BinOp a o b pos) (tE X.K (ev F (.bin o x y))) := (pe_op (opR_bin o) (ihp _ _ e1) (ihp _ _ e2)).imp fun σ H Q q => two_of (opD_bin o) q
    exact ⟨P, plain_pt P fun _ => rfl⟩
  | UnaryOp o a pos =>
    simp only [cE] at h
    split at h
    · obtain ⟨x, e1, h⟩ := Option.bind_eq_some_iff.mp h
      cases h
      refine ⟨(pe_notT (ihp _ _ e1)).imp fun σ H Q q => ?_, (pt_not (iht _ _ e1)).imp fun σ H Q q => ?_⟩
      · obtain ⟨r, S, m, d, S', h1, h2, h3, h4⟩ := q
        obtain ⟨p, k1, h3⟩ := bi_eq_ok h3
        obtain ⟨t, k2, h3⟩ := bi_eq_ok h3
        cases ok_inj h3
        exact ⟨r, S, m, p.1, p.2, h1, h2, k1, fun v H' m' u rd st => ⟨t, tru_ok' st rd k2, h4 _ _ _ u (mk_bl _) st⟩⟩
      · obtain ⟨r, S, m, t, S', h1, h2, h3, h4⟩ := q
        obtain ⟨p, k1, h3⟩ := bi_eq_ok h3
        cases ok_inj h3
        exact ⟨r, S, m, p.1, p.2, h1, h2, k1, fun H' m' u st => h4 _ _ u st⟩
    · obtain ⟨x, e1, h⟩ := Option.bind_eq_some_iff.mp h
      cases h
      have P : PE X (.UnaryOp .USub a pos) (tE X.K (ev F (.una .USub x))) := (pe_un (unR_una .USub) (ihp _ _ e1)).imp fun σ H Q q => by
        obtain ⟨r, S, m, d, S', h1, h2, h3, h4⟩ := q
        obtain ⟨p, k1, h3⟩ := bi_eq_ok h3
        obtain ⟨t, k2, h3⟩ := bi_eq_ok h3
        cases ok_inj h3
        exact ⟨r, S, m, p.1, p.2, h1, h2, k1, fun v H' m' u rd st => una_ok rd k2 fun w rw => h4 _ _ _ u rw st⟩
      exact ⟨P, plain_pt P fun _ => rfl⟩
    · cases h
  | BoolOp o vs pos =>
    simp only [cE] at h
    split at h
    · have q1 := ihp _ _ h
      have q2 := iht _ _ h
      refine ⟨pe_one q1, ?_⟩
      cases o with
      | And => exact (pw_and1 q2).pt
      | Or => exact (pw_or1 q2).pt
    · obtain ⟨x, e1, h⟩ := Option.bind_eq_some_iff.mp h
      obtain ⟨y, e2, h⟩ := Option.bind_eq_some_iff.mp h
      cases o with
      | And =>
        cases h
        refine ⟨(pe_andT (ihp _ _ e1) (ihp _ _ e2)).imp fun σ H Q q => ?_, (pw_and (iht _ _ e1) (pw_pt (iht _ _ e2))).pt.imp fun σ H Q q => ?_⟩
        · obtain ⟨r, S, m, d, S', h1, h2, h3, h4⟩ := q
          obtain ⟨p, k1, h3⟩ := bi_eq_ok h3
          obtain ⟨t, k2, h3⟩ := bi_eq_ok h3
          refine ⟨r, S, m, p.1, p.2, h1, h2, k1, fun v H' m' u rd st => ⟨t, tru_ok' st rd k2, ?_⟩⟩
          cases t with
          | true =>
            rw [if_pos rfl] at h3 ⊢
            exact ⟨r, p.2, m', d, S', h1.up u, st, h3, fun v2 H2 m2 u2 => h4 v2 H2 m2 (u.trans u2)⟩
          | false =>
            rw [if_neg Bool.false_ne_true] at h3 ⊢
            cases ok_inj h3
            exact h4 _ _ _ u rd st
        · obtain ⟨r, S, m, t, S', h1, h2, h3, h4⟩ := q
          obtain ⟨p, k1, h3⟩ := bi_eq_ok h3
          refine ⟨r, S, m, p.1, p.2, h1, h2, k1, fun H' m' u st => ?_⟩
          cases hp : p.1 with
          | true =>
            rw [hp, if_pos rfl] at h3
            rw [if_pos rfl]
            exact ⟨r, p.2, m', t, S', h1.up u, st, h3, fun H2 m2 u2 => h4 H2 m2 (u.trans u2)⟩
          | false =>
            rw [hp, if_neg Bool.false_ne_true] at h3
            rw [if_neg Bool.false_ne_true]
            cases ok_inj h3
            exact h4 _ _ u st
      | Or =>
        cases h
        refine ⟨(pe_orT (ihp _ _ e1) (ihp _ _ e2)).imp fun σ H Q q => ?_, (pw_or (iht _ _ e1) (pw_pt (iht _ _ e2))).pt.imp fun σ H Q q => ?_⟩
        · obtain ⟨r, S, m, d, S', h1, h2, h3, h4⟩ := q
          obtain ⟨p, k1, h3⟩ := bi_eq_ok h3
          obtain ⟨t, k2, h3⟩ := bi_eq_ok h3
          refine ⟨r, S, m, p.1, p.2, h1, h2, k1, fun v H' m' u rd st => ⟨t, tru_ok' st rd k2, ?_⟩⟩
          cases t with
          | true =>
            rw [if_pos rfl] at h3 ⊢
            cases ok_inj h3
            exact h4 _ _ _ u rd st
          | false =>
            rw [if_neg Bool.false_ne_true] at h3 ⊢
            exact ⟨r, p.2, m', d, S', h1.up u, st, h3, fun v2 H2 m2 u2 => h4 v2 H2 m2 (u.trans u2)⟩
        · obtain ⟨r, S, m, t, S', h1, h2, h3, h4⟩ := q
          obtain ⟨p, k1, h3⟩ := bi_eq_ok h3
          refine ⟨r, S, m, p.1, p.2, h1, h2, k1, fun H' m' u st => ?_⟩
          cases hp : p.1 with
          | true =>
            rw [hp, if_pos rfl] at h3
            rw [if_pos rfl]
            cases ok_inj h3
            exact h4 _ _ u st
          | false =>
            rw [hp, if_neg Bool.false_ne_true] at h3
            rw [if_neg Bool.false_ne_true]
            exact ⟨r, p.2, m', t, S', h1.up u, st, h3, fun H2 m2 u2 => h4 H2 m2 (u.trans u2)⟩
    · cases h
  | IfExp cc a b pos =>
    simp only [cE] at h
    obtain ⟨z, e0, h⟩ := Option.bind_eq_some_iff.mp h
    obtain ⟨x, e1, h⟩ := Option.bind_eq_some_iff.mp h
    obtain ⟨y, e2, h⟩ := Option.bind_eq_some_iff.mp h
    cases h
    refine ⟨(pe_ifExp (iht _ _ e0) (ihp _ _ e1) (ihp _ _ e2)).imp fun σ H Q q => ?_, (pt_ife (iht _ _ e0) (iht _ _ e1) (iht _ _ e2)).imp fun σ H Q q => ?_⟩
    · obtain ⟨r, S, m, d, S', h1, h2, h3, h4⟩ := q
      obtain ⟨p, k1, h3⟩ := bi_eq_ok h3
      refine ⟨r, S, m, p.1, p.2, h1, h2, k1, fun H' m' u st => ?_⟩
      cases hp : p.1 with
      | true =>
        rw [hp, if_pos rfl] at h3
        rw [if_pos rfl]
        exact ⟨r, p.2, m', d, S', h1.up u, st, h3, fun v2 H2 m2 u2 => h4 v2 H2 m2 (u.trans u2)⟩
      | false =>
        rw [hp, if_neg Bool.false_ne_true] at h3
        rw [if_neg Bool.false_ne_true]
        exact ⟨r, p.2, m', d, S', h1.up u, st, h3, fun v2 H2 m2 u2 => h4 v2 H2 m2 (u.trans u2)⟩
    · obtain ⟨r, S, m, t, S', h1, h2, h3, h4⟩ := q
      obtain ⟨p, k1, h3⟩ := bi_eq_ok h3
      refine ⟨r, S, m, p.1, p.2, h1, h2, k1, fun H' m' u st => ?_⟩
      cases hp : p.1 with
      | true =>
        rw [hp, if_pos rfl] at h3
        rw [if_pos rfl]
        exact ⟨r, p.2, m', t, S', h1.up u, st, h3, fun H2 m2 u2 => h4 H2 m2 (u.trans u2)⟩
      | false =>
        rw [hp, if_neg Bool.false_ne_true] at h3
        rw [if_neg Bool.false_ne_true]
        exact ⟨r, p.2, m', t, S', h1.up u, st, h3, fun H2 m2 u2 => h4 H2 m2 (u.trans u2)⟩
  | Compare a os bs pos =>
    simp only [cE] at h
    split at h
    · rename_i o b
      split at h
      · cases h
      · rename_i hm
        obtain ⟨x, e1, h⟩ := Option.bind_eq_some_iff.mp h
        obtain ⟨y, e2, h⟩ := Option.bind_eq_some_iff.mp h
        cases h
        have hm' : behindInMarks o b = false := by simpa using hm
        refine ⟨(pe_cmpR (opR_cmp G.hu o) (ihp _ _ e1) (ihp _ _ e2) hm').imp fun σ H Q q => cmp_of (cmD_cmp o) q,
          (pt_cmpR (opR_cmp G.hu o) (ihp _ _ e1) (ihp _ _ e2) hm').imp fun σ H Q q => cmp_of (cmD_cmp o) (tT_bl (fun r S d S' e => ?_) q)⟩
        obtain ⟨p, _, e⟩ := bi_eq_ok e
        obtain ⟨z, _, e⟩ := bi_eq_ok e
        obtain ⟨t, _, e⟩ := bi_eq_ok e
        cases ok_inj e
        exact ⟨t, rfl⟩
    · rename_i o o2 b cc
      split at h
      · cases h
      · rename_i hm
        obtain ⟨x, e1, h⟩ := Option.bind_eq_some_iff.mp h
        obtain ⟨y, e2, h⟩ := Option.bind_eq_some_iff.mp h
        obtain ⟨z, e3, h⟩ := Option.bind_eq_some_iff.mp h
        cases h
        have hm' : lastMarks [o, o2] [b, cc] = false := by
          have h2 : ¬ behindInMarks o2 cc = true := fun q => hm (.inr q)
          show behindInMarks o2 cc = false
          simpa using h2
        have main : ∀ {σ : L2.St} {H : Hp} {Q : VK}, tE X.K (ev F (.cmp2 o o2 x y z)) σ H Q → tChain (rCmp X.K o) (rCmp X.K o2) (tE X.K (ev F x)) (tE X.K (ev F y)) (tE X.K (ev F z)) σ H Q := fun {σ H Q} q => by
          obtain ⟨r, S, m, d, S', h1, h2, h3, h4⟩ := q
          obtain ⟨p, k1, h3⟩ := bi_eq_ok h3
          obtain ⟨p2, k2, h3⟩ := bi_eq_ok h3
          obtain ⟨t, k3, h3⟩ := bi_eq_ok h3
          refine ⟨r, S, m, p.1, p.2, h1, h2, k1, fun v H1 m1 u1 rd1 st1 => ⟨r, p.2, m1, p2.1, p2.2, h1.up u1, st1, k2, fun v2 H2 m2 u2 rd2 st2 => ?_⟩⟩
          refine cmD_cmp o H2 m2 p2.2 p.1 p2.1 v v2 t _ st2 (RepD.up u2 _ _ rd1) rd2 k3 ⟨t, rfl, ?_⟩
          cases t with
          | true =>
            rw [if_pos rfl] at h3 ⊢
            obtain ⟨p3, k4, h3⟩ := bi_eq_ok h3
            obtain ⟨t2, k5, h3⟩ := bi_eq_ok h3
            cases ok_inj h3
            exact ⟨r, p2.2, m2, p3.1, p3.2, (h1.up u1).up u2, st2, k4, fun v3 H3 m3 u3 rd3 st3 => cmD_cmp o2 H3 m3 p3.2 p2.1 p3.1 v2 v3 t2 _ st3 (RepD.up u3 _ _ rd2) rd3 k5 (h4 _ _ _ ((u1.trans u2).trans u3) (mk_bl _) st3)⟩
          | false =>
            rw [if_neg Bool.false_ne_true] at h3 ⊢
            cases ok_inj h3
            exact h4 _ _ _ (u1.trans u2) (mk_bl _) st2
        refine ⟨(pe_chain (opR_cmp G.hu o) (opR_cmp G.hu o2) (ihp _ _ e1) (ihp _ _ e2) (ihp _ _ e3) hm').imp fun σ H Q q => main q,
          (pt_chain (opR_cmp G.hu o) (opR_cmp G.hu o2) (ihp _ _ e1) (ihp _ _ e2) (ihp _ _ e3) hm').imp fun σ H Q q => main (tT_bl (fun r S d S' e => ?_) q)⟩
        obtain ⟨p, _, e⟩ := bi_eq_ok e
        obtain ⟨p2, _, e⟩ := bi_eq_ok e
        obtain ⟨t, _, e⟩ := bi_eq_ok e
        split at e
        · obtain ⟨p3, _, e⟩ := bi_eq_ok e
          obtain ⟨t2, _, e⟩ := bi_eq_ok e
          cases ok_inj e
          exact ⟨t2, rfl⟩
        · cases ok_inj e
          exact ⟨false, rfl⟩
    · cases h
  | Tuple es k pos =>
    simp only [cE] at h
    split at h
    · cases h
    · rename_i hs1
      split at h
      · have P : PE X (.Tuple es k pos) (tE X.K (ev F c)) := (pe_tup (pa_star_of n ihp es c h)).imp fun σ H Q q => by
          obtain ⟨r, S, m, d, S', h1, h2, h3, h4⟩ := q
          obtain ⟨ds, rfl⟩ := star_val h h3
          have k1 := evSt_of h3
          refine ⟨r, S, m, ds, S', h1, h2, k1, fun vs H' m' u rd st => ⟨?_, fun a ha => ?_⟩⟩
          · rw [← rd.length, sizeM]; exact star_len h k1
          · obtain ⟨u2, st2, rd2⟩ := st.freshT ha rd
            exact h4 _ _ _ (u.trans u2) rd2 st2
        exact ⟨P, by rw [star_plain h]; exact plain_pt P fun _ => rfl⟩
      rename_i hs2
      have hs : es.any isStar = false ∧ ¬ 1000 < es.length := ⟨by simpa using hs2, hs1⟩
      have hs' : es.any isStar = false := hs.1
      obtain ⟨cs, e1, rfl⟩ := Option.map_eq_some_iff.mp h
      have P : PE X (.Tuple es k pos) (tE X.K (ev F (.tup cs))) := (pe_tup (pa_of n ihp es cs hs' e1)).imp fun σ H Q q => by
        obtain ⟨r, S, m, d, S', h1, h2, h3, h4⟩ := q
        obtain ⟨p, k1, h3⟩ := bi_eq_ok h3
        cases ok_inj h3
        refine ⟨r, S, m, p.1, p.2, h1, h2, k1, fun vs H' m' u rd st => ⟨?_, fun a ha => ?_⟩⟩
        · have h5 := evL_len k1
          have h6 := mapO_len e1
          have h7 := hs.2
          rw [← rd.length, h5, ← h6, sizeM]; omega
        · obtain ⟨u2, st2, rd2⟩ := st.freshT ha rd
          exact h4 _ _ _ (u.trans u2) rd2 st2
      exact ⟨P, plain_pt P fun _ => rfl⟩
  | List es pos =>
    simp only [cE] at h
    split at h
    · cases h
    · rename_i hs1
      split at h
      · obtain ⟨c0, h0, rfl⟩ := Option.map_eq_some_iff.mp h
        have P : PE X (.List es pos) (tE X.K (ev F (.blt .list [c0]))) := (pe_lst (pa_star_of n ihp es c0 h0)).imp fun σ H Q q => by
          obtain ⟨r, S, m, d, S', h1, h2, h3, h4⟩ := q
          obtain ⟨p, k1, h3⟩ := bi_eq_ok (show ((evL F [c0] r S).bi fun p => bltD .list p.1 p.2) = .ok (d, S') from h3)
          obtain ⟨p1, k0, rfl⟩ := evL1 k1
          obtain ⟨ds, hd⟩ := star_val (d := p1.1) (S' := p1.2) h0 k0
          have h3' : bltD .list [p1.1] p1.2 = .ok (d, S') := h3
          rw [hd] at h3'
          cases ok_inj (show R.ok (D.loc p1.2.length, p1.2 ++ [.lst ds]) = .ok (d, S') from h3')
          have k1 : evSt F c0 r S = .ok (ds, p1.2) := evSt_of (by rw [← hd]; exact k0)
          refine ⟨r, S, m, ds, p1.2, h1, h2, k1, fun vs H' m' u rd st => ⟨?_, fun a ha => ?_⟩⟩
          · rw [← rd.length, sizeM]; exact star_len h0 k1
          · obtain ⟨u2, st2, rd2⟩ := st.fresh ha rd
            exact h4 _ _ _ (u.trans u2) rd2 st2
        exact ⟨P, plain_pt P fun _ => rfl⟩
      rename_i hs2
      have hs : es.any isStar = false ∧ ¬ 1000 < es.length := ⟨by simpa using hs2, hs1⟩
      have hs' : es.any isStar = false := hs.1
      obtain ⟨cs, e1, rfl⟩ := Option.map_eq_some_iff.mp h
      have P : PE X (.List es pos) (tE X.K (ev F (.lst cs))) := (pe_lst (pa_of n ihp es cs hs' e1)).imp fun σ H Q q => by
        obtain ⟨r, S, m, d, S', h1, h2, h3, h4⟩ := q
        obtain ⟨p, k1, h3⟩ := bi_eq_ok h3
        cases ok_inj h3
        refine ⟨r, S, m, p.1, p.2, h1, h2, k1, fun vs H' m' u rd st => ⟨?_, fun a ha => ?_⟩⟩
        · have h5 := evL_len k1
          have h6 := mapO_len e1
          have h7 := hs.2
          rw [← rd.length, h5, ← h6, sizeM]; omega
        · obtain ⟨u2, st2, rd2⟩ := st.fresh ha rd
          exact h4 _ _ _ (u.trans u2) rd2 st2
      exact ⟨P, plain_pt P fun _ => rfl⟩
  | Subscript a i pos =>
    simp only [cE] at h
    split at h
    · obtain ⟨x, e1, h⟩ := Option.bind_eq_some_iff.mp h
      cases h
      refine both ((RevT.pe_rev (pos := pos) (ihp _ _ e1)).imp fun σ H Q q => ?_) rfl fun _ => rfl
      obtain ⟨r, S, m, d, S', h1, h2, h3, h4⟩ := q
      obtain ⟨p, k1, h3⟩ := bi_eq_ok h3
      exact ⟨r, S, m, p.1, p.2, h1, h2, k1, fun v H1 m1 u1 rd1 st1 => rev_ok st1 rd1 h3 fun w H2 m2 u2 => h4 w H2 m2 (u1.trans u2)⟩
    · obtain ⟨x, e1, h⟩ := Option.bind_eq_some_iff.mp h
      have no : ∀ (σ : L2.St) (H : Hp) (Q : Option Int → Hp → Prop) {ch : C}, ((false = false → tNoPart σ H Q) ∧ (false = true → tPart (tE X.K (ev F ch)) σ H Q)) → tNoPart σ H Q := fun _ _ _ _ k => k.1 rfl
      have yes : ∀ (σ : L2.St) (H : Hp) (Q : Option Int → Hp → Prop) {ch : C}, ((true = false → tNoPart σ H Q) ∧ (true = true → tPart (tE X.K (ev F ch)) σ H Q)) → tPart (tE X.K (ev F ch)) σ H Q := fun _ _ _ _ k => k.2 rfl
      split at h
      · split at h
        · cases h
          exact both ((pe_slice (pos := pos) slR_slc (ihp _ _ e1) po_none po_none).imp fun σ H Q q => slc_of (fun σ H Q k => no σ H Q k) (fun σ H Q k => no σ H Q k) q) rfl fun _ => rfl
        · obtain ⟨z, e3, h⟩ := Option.bind_eq_some_iff.mp h
          cases h
          exact both ((pe_slice (pos := pos) slR_slc (ihp _ _ e1) po_none (po_some (ihp _ _ e3))).imp fun σ H Q q => slc_of (fun σ H Q k => no σ H Q k) (fun σ H Q k => yes σ H Q k) q) rfl fun _ => rfl
      · obtain ⟨y, e2, h⟩ := Option.bind_eq_some_iff.mp h
        split at h
        · cases h
          exact both ((pe_slice (pos := pos) slR_slc (ihp _ _ e1) (po_some (ihp _ _ e2)) po_none).imp fun σ H Q q => slc_of (fun σ H Q k => yes σ H Q k) (fun σ H Q k => no σ H Q k) q) rfl fun _ => rfl
        · obtain ⟨z, e3, h⟩ := Option.bind_eq_some_iff.mp h
          cases h
          exact both ((pe_slice (pos := pos) slR_slc (ihp _ _ e1) (po_some (ihp _ _ e2)) (po_some (ihp _ _ e3))).imp fun σ H Q q => slc_of (fun σ H Q k => yes σ H Q k) (fun σ H Q k => yes σ H Q k) q) rfl fun _ => rfl
    · split at h
      · cases h
      · rename_i hsl
        obtain ⟨x, e1, h⟩ := Option.bind_eq_some_iff.mp h
        obtain ⟨y, e2, h⟩ := Option.bind_eq_some_iff.mp h
        cases h
        have pl : PlainIx i := by
          intro o j
          cases i <;> first | rfl | exact absurd rfl hsl
        refine both ((pe_ix (pos := pos) (ix_seq.or (ix_dict G.hu)) (ihp _ _ e1) (ihp _ _ e2) pl).imp fun σ H Q q => two_of (k := fun x y S => (subX x y S).bi fun d => .ok (d, S)) (ea := ev F x) (eb := ev F y) (fun H m S x y v u d S' Q st rx ry e q => by
          obtain ⟨d', e3, e⟩ := bi_eq_ok e
          cases ok_inj e
          exact subX_ok st rx ry e3 fun w rw => q _ _ _ Up.refl rw st) q) rfl fun _ => rfl
  | Dict ks vs pos =>
    simp only [cE] at h
    obtain ⟨es, e1, h⟩ := Option.bind_eq_some_iff.mp h
    split at h
    · cases h
    · rename_i h15
      obtain ⟨cs, e2, rfl⟩ := Option.map_eq_some_iff.mp h
      exact both (dic_pe n (fun e c h => ihp e c h) e1 (by omega) e2) rfl fun _ => rfl
  | ListComp elt gs scope pos =>
    have h0 := h
    simp only [cE] at h0
    replace h0 := (plainC_of h0).1
    split at h0
    · obtain ⟨own, wi, gg, tt, te, k1, k2, k3, k4, k5, k6, k7⟩ := lc_ok G ih h
      have hT : evT F c = (plainT (ev F c)).t := lc_t h
      exact both ((pe_lc (pos := pos) G.calm (by rw [G.nm]; exact G.nd) k2 k3 k4 k5 k6 (fun x => k7 x _)).imp k1) hT fun _ => rfl
    · cases h0
  | Call f as kws cpos =>
    exact both (snd_call n ih h X G) (call_t h) fun _ => rfl
  | _ => cases h
end
end Ev
set_option autoImplicit false
set_option linter.all false
namespace Ev
open PySem
open L2
theorem snd {g : Ctx} {F : Nat → List D → Sto → R (D × Sto)} {l : Nat} : ∀ n, IH g F l n
  | 0 => by intro sc e c h; cases h
  | n + 1 => snd_step n (snd n)
def isLC : Expr → Bool
  | .ListComp _ _ _ _ => true
  | .SetComp _ _ _ _ => true
  | .DictComp _ _ _ _ _ => true
  | _ => false
def isCall : Expr → Bool
  | .Call _ _ _ _ => true
  | _ => false
def parOk (sc : Scope) (x y : Str) (px py : Pos) (a b : Expr) : Bool :=
  (match scK sc x with | some .local => true | _ => false) && (match scK sc y with | some .local => true | _ => false) && (px.line == py.line) && decide (x ≠ y) && !(foldedForSure 8 a && foldedForSure 8 b) && !(constantsAlone 8 a && constantsAlone 8 b) && !isStar a && !isStar b
def parOk3 (sc : Scope) (x y z : Str) (px py pz : Pos) (a b c : Expr) : Bool :=
  (match scK sc x with | some .local => true | _ => false) && (match scK sc y with | some .local => true | _ => false) && (match scK sc z with | some .local => true | _ => false) && (px.line == py.line) && (px.line == pz.line) &&
  decide (x ≠ y) && decide (x ≠ z) && decide (y ≠ z) && !(foldedForSure 8 a && foldedForSure 8 b && foldedForSure 8 c) && !(constantsAlone 8 a && constantsAlone 8 b && constantsAlone 8 c) && !isStar a && !isStar b && !isStar c
def lcOk (sc : Scope) (y : Str) (py : Pos) (scope : Scope) (pos : Pos) : Bool :=
  (match scK sc y with | some .local => true | _ => false) && (py.line == pos.line) && !(scope.names.any fun (n, k) => n == y && (k == .local || k == .cell))
/-- a target that is captured -/
def capT (sc : Scope) : Expr → Bool
  | .Name x _ => (match scK sc x with | some .cell => true | _ => false)
  | _ => false
def tupT (g : Ctx) (sc : Scope) (ts : List Expr) (kt : Nat) (pt : Pos) (vs : List Expr) (kv : Nat) (pv : Pos) : Option St :=
  if 3 < ts.length ∨ ts.any (capT sc) = true then (cP g.ns (stK sc) 9 (.Tuple ts kt pt)).bind fun p => (cE g 60 sc (.Tuple vs kv pv)).bind fun c => some (.asg p c) else none
def cS (g : Ctx) : Nat → Scope → Stmt → Option St
  | 0, _, _ => none
  | n + 1, sc, s => match s with
    | .Expr e _ => (match e with
      | .Constant (.str _) _ _ => some .pass
      | e => if isCall e = true then (cE g 60 sc e).map .exp else none)
    | .Return v _ => (match v with
      | none => some (.ret (.cst .non))
      | some e => (cE g 60 sc e).map .ret)
    | .Pass _ => some .pass
    | .Continue _ => some .cnt
    | .Break _ => some .brk
    | .Raise _ _ _ => some .nev
    | .If c a b _ => (cE g 60 sc c).bind fun x => (mapO (cS g n sc) a).bind fun y => (mapO (cS g n sc) b).bind fun z => some (.iff x y z)
    | .While c b els _ => (match els with
      | [] => (cE g 60 sc c).bind fun x => (mapO (cS g n sc) b).bind fun y => some (.whl x y)
      | _ => none)
    | .For tg iter b els _ => (match els with
      | [] => (cP g.ns (stK sc) 9 tg).bind fun p => (mapO (cE g 60 sc) (cI g sc (isTup tg) iter).2).bind fun src => (mapO (cS g n sc) b).bind fun y => some (.fr p (cI g sc (isTup tg) iter).1 src y)
      | _ => none)
    | .Assign tgs v _ => (match tgs with
      | [.Name x px] => if stK sc x = true then (idx g.ns x).bind fun i => (cE g 60 sc v).bind fun c => (match v with
          | .ListComp _ gs scope pos => if capT sc (.Name x px) = true then some (.asg (.nm i) c) else (match gs with
            | [⟨_, _, _, 0⟩] => if lcOk sc x px scope pos = true then some (.asg (.nm i) c) else none
            | _ => none)
          | v => if isLC v = true then none else some (.asg (.nm i) c)) else none
      | [.Tuple ts kt pt] => (match v with
        | .Tuple vs kv pv => (match ts, vs with
          | [.Name x px, .Name y py], [a, b] => if parOk sc x y px py a b = true then (idx g.ns x).bind fun i => (idx g.ns y).bind fun j => (cE g 60 sc a).bind fun c => (cE g 60 sc b).bind fun d => some (.par i j c d) else tupT g sc ts kt pt vs kv pv
          | [.Name x px, .Name y py, .Name z pz], [a, b, e] => if parOk3 sc x y z px py pz a b e = true then (idx g.ns x).bind fun i => (idx g.ns y).bind fun j => (idx g.ns z).bind fun k => (cE g 60 sc a).bind fun c => (cE g 60 sc b).bind fun d => (cE g 60 sc e).bind fun f => some (.par3 i j k c d f) else tupT g sc ts kt pt vs kv pv
          | [.Name y _, .Subscript o i _], [_, _] => if isSlice i = true ∨ stK sc y = false then none else (idx g.ns y).bind fun k => (cE g 60 sc (.Tuple vs kv pv)).bind fun c => (cE g 60 sc o).bind fun x => (cE g 60 sc i).bind fun z => some (.abs x z k c)
          | _, _ => tupT g sc ts kt pt vs kv pv)
        | v => if isLC v = true then none else (match ts with
          | [.Subscript o i _, .Name y _] => if isSlice i = true ∨ stK sc y = false then none else (idx g.ns y).bind fun k => (cE g 60 sc v).bind fun c => (cE g 60 sc o).bind fun x => (cE g 60 sc i).bind fun z => some (.asb x z k c)
          | ts => (cP g.ns (stK sc) 9 (.Tuple ts kt pt)).bind fun p => (cE g 60 sc v).bind fun c => some (.asg p c)))
      | [.Subscript o i _] => if isSlice i = true ∨ isLC v = true then none else (cE g 60 sc v).bind fun c => (cE g 60 sc o).bind fun x => (cE g 60 sc i).bind fun y => some (.sset x y c)
      | _ => none)
    | _ => none
def Post (K : PySem.W.Frag) (Dn : Ends) (H : Hp) (m : List Addr) : Fl → Prop
  | .nx r S => ∀ σ' H' m', Up H m H' m' → REnv K H' m' r σ' → RSt K H' m' S → Dn.nx σ' H'
  | .ct r S => ∀ σ' H' m', Up H m H' m' → REnv K H' m' r σ' → RSt K H' m' S → Dn.ct σ' H'
  | .bk r S => ∀ σ' H' m', Up H m H' m' → REnv K H' m' r σ' → RSt K H' m' S → Dn.bk σ' H'
  | .rt d S => ∀ v H' m', Up H m H' m' → RepD K H' m' d v → RSt K H' m' S → Dn.rt v H'
theorem Post.up {K : PySem.W.Frag} {Dn : Ends} {H H1 : Hp} {m m1 : List Addr} {f : Fl} (u : Up H m H1 m1) (p : Post K Dn H m f) : Post K Dn H1 m1 f := by
  cases f with
  | nx r S => exact fun σ' H' m' u' => p σ' H' m' (u.trans u')
  | ct r S => exact fun σ' H' m' u' => p σ' H' m' (u.trans u')
  | bk r S => exact fun σ' H' m' u' => p σ' H' m' (u.trans u')
  | rt d S => exact fun v H' m' u' => p v H' m' (u.trans u')
def tS (K : PySem.W.Frag) (e : Env → Sto → R Fl) : TS := fun Dn σ H => ∃ r S m f, REnv K H m r σ ∧ RSt K H m S ∧ e r S = .ok f ∧ Post K Dn H m f
section
variable {g : Ctx} {F : Nat → List D → Sto → R (D × Sto)} {l : Nat}
/-- facts beside Gd for statements -/
structure Gs (X : Cx) : Prop where
  po : PassesOwn (model X.prog X.w) X.A X.env X.xe
  fnT : ∀ x, X.fn x = true
  kd : X.env.scope.kind = .function
theorem stK_loc {X : Cx} {sc : Scope} (G : Gd X g F l sc) (T : Gs X) {x : Str} (h : stK sc x = true) : Loc X.env.scope x ∧ (X.fn x = true ∨ X.env.scope.names.lookup x = some .local) := by
  unfold stK scK at h
  rw [← G.sc] at h
  refine ⟨?_, .inl (T.fnT x)⟩
  split at h
  · rename_i e; exact .inl e
  · rename_i e; exact .inr e
  · cases h
theorem scK_local {X : Cx} {sc : Scope} (G : Gd X g F l sc) {x : Str} (h : (match scK sc x with | some .local => true | _ => false) = true) : X.env.scope.names.lookup x = some .local := by
  split at h
  · rename_i e
    unfold scK at e
    rw [G.sc]; exact e
  · cases h
theorem cE_noSwap {e : Expr} (h : isLC e = false) (t : Option Expr) (ln : Nat) (env : PySem.Env) : swapsWith e t ln env = pure false := by
  cases e <;> first | rfl | cases h
theorem sole {t e : Expr} {ln : Nat} {env : PySem.Env} (h : isLC e = false) : swapsWithSole [t] e ln env = pure false := cE_noSwap h _ _ _
theorem IHs_pss {X : Cx} {sc : Scope} (n : Nat) (ih : ∀ s c, cS g n sc s = some c → PS X s (tS X.K (evS F c))) : ∀ (ss : List Stmt) (cs : List St), mapO (cS g n sc) ss = some cs → PSs X ss (tS X.K (evSs F cs))
  | [], cs, h => by
    cases h
    refine pss_nil.imp fun Dn σ H q => ?_
    obtain ⟨r, S, m, f, h1, h2, h3, h4⟩ := q
    simp only [evSs] at h3
    cases ok_inj h3
    exact h4 _ _ _ Up.refl h1 h2
  | s :: ss, cs, h => by
    obtain ⟨c, cs', e1, e2, rfl⟩ := mapO_cons h
    refine (pss_cons (ih s c e1) (IHs_pss n ih ss cs' e2)).imp fun Dn σ H q => ?_
    obtain ⟨r, S, m, f, h1, h2, h3, h4⟩ := q
    simp only [evSs] at h3
    obtain ⟨f1, k1, h3⟩ := bi_eq_ok h3
    refine ⟨r, S, m, f1, h1, h2, k1, ?_⟩
    cases f1 with
    | nx r' S' => exact fun σ' H' m' u k2 k3 => ⟨r', S', m', f, k2, k3, h3, h4.up u⟩
    | ct r' S' => cases ok_inj h3; exact h4
    | bk r' S' => cases ok_inj h3; exact h4
    | rt d S' => cases ok_inj h3; exact h4
theorem for_of {K : PySem.W.Frag} {k : Ev.K} {src : List C} {p : Pt} {b : Env → Sto → R Fl} {Dn : Ends} {σ : L2.St} {H : Hp}
    (q : tS K (fun r S => (evL F src r S).bi fun z => (srcD k z.1 z.2).bi fun it => frGo it.2 p b it.1 r z.2) Dn σ H) : tFor (tI K k (evL F src)) (gP K p) (tS K b) Dn σ H := by
  obtain ⟨r, S, m, f, h1, h2, h3, h4⟩ := q
  obtain ⟨z, e1, h3⟩ := bi_eq_ok h3
  obtain ⟨it, e2, h3⟩ := bi_eq_ok h3
  refine ⟨r, S, m, z, it, h1, h2, e1, e2, fun J H1 m1 u1 st1 wk => ?_⟩
  refine ⟨fun i n σ' H' => ∃ r' S' m', n = it.1.length - i ∧ i ≤ it.1.length ∧ Up H1 m1 H' m' ∧ REnv K H' m' r' σ' ∧ RSt K H' m' S' ∧ frGo it.2 p b (it.1.drop i) r' S' = .ok f,
    ⟨it.1.length, r, z.2, m1, by simp, Nat.zero_le _, Up.refl, h1.up u1, st1, by rw [List.drop_zero]; exact h3⟩, ?_⟩
  rintro i n σ2 H2 ⟨r2, S2, m2, rfl, hi, u2, re2, st2, e3⟩
  by_cases hlt : i < it.1.length
  · rw [List.drop_eq_getElem_cons hlt] at e3
    simp only [frGo] at e3
    split at e3
    · rename_i hg
      obtain ⟨r3, e4, e3⟩ := bi_eq_ok e3
      obtain ⟨f3, e5, e3⟩ := bi_eq_ok e3
      refine .inr ⟨wk.go H2 m2 S2 u2 st2 hg i hlt, fun σ' H' => ∃ n, n < it.1.length - i ∧ ∃ r' S' m', n = it.1.length - (i + 1) ∧ i + 1 ≤ it.1.length ∧ Up H1 m1 H' m' ∧ REnv K H' m' r' σ' ∧ RSt K H' m' S' ∧ frGo it.2 p b (it.1.drop (i + 1)) r' S' = .ok f,
        fun σ' H' ⟨n, hn, h⟩ => ⟨n, hn, h⟩, fun x H3 yl => ?_⟩
      obtain ⟨u3, st3, rd3⟩ := wk.yld H2 m2 S2 u2 st2 hg i x H3 _ (List.getElem?_eq_getElem hlt) yl
      refine ⟨_, m2, r2, r3, rd3, re2.up u3, opt_eq_ok e4, fun σ' k1 k2 k3 => ⟨r3, S2, m2, f3, k1, st3, e5, ?_⟩⟩
      have again : ∀ {r' S'}, frGo it.2 p b (it.1.drop (i + 1)) r' S' = .ok f → ∀ σ' H' m', Up H3 m2 H' m' → REnv K H' m' r' σ' → RSt K H' m' S' → ∃ n, n < it.1.length - i ∧ ∃ r' S' m', n = it.1.length - (i + 1) ∧ i + 1 ≤ it.1.length ∧ Up H1 m1 H' m' ∧ REnv K H' m' r' σ' ∧ RSt K H' m' S' ∧ frGo it.2 p b (it.1.drop (i + 1)) r' S' = .ok f :=
        fun {r' S'} e σ' H' m' u re st => ⟨it.1.length - (i + 1), by omega, r', S', m', rfl, hlt, (u2.trans u3).trans u, re, st, e⟩
      have up3 := (u1.trans u2).trans u3
      cases f3 with
      | nx r' S' => exact again e3
      | ct r' S' => exact again e3
      | bk r' S' =>
        cases ok_inj e3
        exact fun σ' H' m' u re st => h4 σ' H' m' (up3.trans u) re st
      | rt d S' =>
        cases ok_inj e3
        exact fun v H' m' u rd st => h4 v H' m' (up3.trans u) rd st
    · cases e3
  · have hi' : i = it.1.length := by omega
    subst hi'
    rw [List.drop_length] at e3
    simp only [frGo] at e3
    split at e3
    · rename_i hg
      have stp := wk.stop H2 m2 S2 u2 st2 hg
      cases ok_inj e3
      exact .inl ⟨stp, h4 σ2 H2 m2 (u1.trans u2) re2 st2⟩
    · cases e3
theorem while_of {K : PySem.W.Frag} {c : Env → Sto → R (Bool × Sto)} {b : Env → Sto → R Fl} {Dn : Ends} {σ : L2.St} {H : Hp} (q : tS K (whileR c b) Dn σ H) : tWhile (tT K c) (tS K b) Dn σ H := by
  obtain ⟨r, S, m, f, h1, h2, h3, h4⟩ := q
  have h3' : ∃ n, itW c b n r S = .ok f := by
    unfold whileR at h3
    split at h3
    · rename_i hx
      cases ok_inj h3
      exact ⟨_, hx.choose_spec.choose_spec⟩
    · cases h3
  obtain ⟨n0, h3'⟩ := h3'
  refine ⟨fun n σ' H' => ∃ r' S' m', Up H m H' m' ∧ REnv K H' m' r' σ' ∧ RSt K H' m' S' ∧ itW c b n r' S' = .ok f, ⟨n0, r, S, m, Up.refl, h1, h2, h3'⟩, ?_⟩
  rintro n σ2 H2 ⟨r2, S2, m2, u2, re2, st2, e3⟩
  cases n with
  | zero => cases e3
  | succ n =>
    simp only [itW] at e3
    obtain ⟨t, e4, e3⟩ := bi_eq_ok e3
    refine ⟨r2, S2, m2, t.1, t.2, re2, st2, e4, fun H3 m3 u3 st3 => ?_⟩
    cases ht : t.1 with
    | true =>
      rw [ht, if_pos rfl] at e3
      rw [if_pos rfl]
      obtain ⟨f3, e5, e3⟩ := bi_eq_ok e3
      refine ⟨fun σ' H' => ∃ r' S' m', Up H m H' m' ∧ REnv K H' m' r' σ' ∧ RSt K H' m' S' ∧ itW c b n r' S' = .ok f, fun σ' H' h => ⟨n, Nat.lt_succ_self n, h⟩, r2, t.2, m3, f3, re2.up u3, st3, e5, ?_⟩
      have up3 := u2.trans u3
      cases f3 with
      | nx r' S' => exact fun σ' H' m' u re st => ⟨r', S', m', up3.trans u, re, st, e3⟩
      | ct r' S' => exact fun σ' H' m' u re st => ⟨r', S', m', up3.trans u, re, st, e3⟩
      | bk r' S' =>
        cases ok_inj e3
        exact fun σ' H' m' u re st => h4 σ' H' m' (up3.trans u) re st
      | rt d S' =>
        cases ok_inj e3
        exact fun v H' m' u rd st => h4 v H' m' (up3.trans u) rd st
    | false =>
      rw [ht, if_neg Bool.false_ne_true] at e3
      rw [if_neg Bool.false_ne_true]
      cases ok_inj e3
      exact h4 σ2 H3 m3 (u2.trans u3) (re2.up u3) st3
theorem any2 {a b : Expr} {f : Expr → Bool} (hf : ∀ e, f e = isStar e) (ha : isStar a = false) (hb : isStar b = false) : [a, b].any f = false := by
  simp [hf, ha, hb]
theorem par_ok {X : Cx} {sc : Scope} (G : Gd X g F l sc) (hk : X.env.scope.kind = .function) {x y : Str} {px py pt pt2 : Pos} {kt k2 : Nat} {a b : Expr} (h : parOk sc x y px py a b = true) :
    X.env.scope.names.lookup x = some .local ∧ X.env.scope.names.lookup y = some .local ∧ x ≠ y ∧ isStar a = false ∧ isStar b = false ∧
    swappedStores [.Tuple [.Name x px, .Name y py] kt pt] (.Tuple [a, b] k2 pt2) X.env = pure (some [x, y]) := by
  unfold parOk at h
  simp only [Bool.and_eq_true, Bool.not_eq_true', decide_eq_true_eq] at h
  obtain ⟨⟨⟨⟨⟨⟨⟨h1, h2⟩, h3⟩, h4⟩, h5⟩, h6⟩, h7⟩, h8⟩ := h
  have l1 := scK_local G h1
  have l2 := scK_local G h2
  refine ⟨l1, l2, h4, h7, h8, ?_⟩
  have hb : X.env.blockKind = .function := by unfold Env.blockKind; rw [hk]; rfl
  have k1 : X.env.kindOf x = some .local := l1
  have k2' : X.env.kindOf y = some .local := l2
  have e3 : (py.line == px.line) = true := by rw [beq_iff_eq] at h3 ⊢; exact h3.symm
  have nd : ([x, y] : List Str).eraseDups.length = 2 := by
    have e : (y == x) = false := beq_eq_false_iff_ne.mpr fun q => h4 q.symm
    rw [List.eraseDups_cons]
    have f1 : List.filter (fun b => !b == x) [y] = [y] := by rw [List.filter_cons, e]; rfl
    rw [f1]; rfl
  have fo : [a, b].all (foldedForSure 8) = false := by simpa using h5
  have co : [a, b].all (constantsAlone 8) = false := by simpa using h6
  unfold swappedStores
  simp only [hb, k1, k2', List.length_cons, List.length_nil, List.head?_cons, Option.map_some, Option.getD_some, List.filterMap_cons, List.filterMap_nil, Expr.pos, fo, co]
  rw [any2 (fun e => by cases e <;> rfl) h7 h8]
  simp [e3, nd]
theorem any3 {a b c : Expr} {f : Expr → Bool} (hf : ∀ e, f e = isStar e) (ha : isStar a = false) (hb : isStar b = false) (hc : isStar c = false) : [a, b, c].any f = false := by
  simp [hf, ha, hb, hc]
theorem par3_ok {X : Cx} {sc : Scope} (G : Gd X g F l sc) (hk : X.env.scope.kind = .function) {x y z : Str} {px py pz pt pt2 : Pos} {kt k2 : Nat} {a b c : Expr} (h : parOk3 sc x y z px py pz a b c = true) :
    X.env.scope.names.lookup x = some .local ∧ X.env.scope.names.lookup y = some .local ∧ X.env.scope.names.lookup z = some .local ∧ x ≠ y ∧ x ≠ z ∧ y ≠ z ∧ isStar a = false ∧ isStar b = false ∧ isStar c = false ∧
    swappedStores [.Tuple [.Name x px, .Name y py, .Name z pz] kt pt] (.Tuple [a, b, c] k2 pt2) X.env = pure (some [x, y, z]) := by
  unfold parOk3 at h
  simp only [Bool.and_eq_true, Bool.not_eq_true', decide_eq_true_eq] at h
  obtain ⟨⟨⟨⟨⟨⟨⟨⟨⟨⟨⟨⟨h1, h2⟩, h0⟩, h3⟩, h30⟩, h4⟩, h40⟩, h41⟩, h5⟩, h6⟩, h7⟩, h8⟩, h9⟩ := h
  have l1 := scK_local G h1
  have l2 := scK_local G h2
  have l3 := scK_local G h0
  refine ⟨l1, l2, l3, h4, h40, h41, h7, h8, h9, ?_⟩
  have hb : X.env.blockKind = .function := by unfold Env.blockKind; rw [hk]; rfl
  have k1 : X.env.kindOf x = some .local := l1
  have k2' : X.env.kindOf y = some .local := l2
  have k3' : X.env.kindOf z = some .local := l3
  have e3 : (py.line == px.line) = true := by rw [beq_iff_eq] at h3 ⊢; exact h3.symm
  have e30 : (pz.line == px.line) = true := by rw [beq_iff_eq] at h30 ⊢; exact h30.symm
  have nd : ([x, y, z] : List Str).eraseDups.length = 3 := by
    have e : (y == x) = false := beq_eq_false_iff_ne.mpr fun q => h4 q.symm
    have e' : (z == x) = false := beq_eq_false_iff_ne.mpr fun q => h40 q.symm
    have e'' : (z == y) = false := beq_eq_false_iff_ne.mpr fun q => h41 q.symm
    rw [List.eraseDups_cons]
    have f1 : List.filter (fun b => !b == x) [y, z] = [y, z] := by rw [List.filter_cons, e, List.filter_cons, e']; rfl
    rw [f1, List.eraseDups_cons]
    have f2 : List.filter (fun b => !b == y) [z] = [z] := by rw [List.filter_cons, e'']; rfl
    rw [f2]; rfl
  have fo : [a, b, c].all (foldedForSure 8) = false := by
    simp only [List.all_cons, List.all_nil, Bool.and_true]
    rw [← Bool.and_assoc]; exact h5
  have co : [a, b, c].all (constantsAlone 8) = false := by
    simp only [List.all_cons, List.all_nil, Bool.and_true]
    rw [← Bool.and_assoc]; exact h6
  unfold swappedStores
  simp only [hb, k1, k2', k3', List.length_cons, List.length_nil, List.head?_cons, Option.map_some, Option.getD_some, List.filterMap_cons, List.filterMap_nil, Expr.pos, fo, co]
  rw [any3 (fun e => by cases e <;> rfl) h7 h8 h9]
  simp [e3, e30, nd]
end
end Ev
set_option autoImplicit false
set_option linter.all false
namespace Ev
open PySem
open L2
section
variable {g : Ctx} {F : Nat → List D → Sto → R (D × Sto)} {l : Nat}
theorem asg_of {K : PySem.W.Frag} {p : Pt} {c : C} {te : TE} (hte : ∀ σ H Q, tE K (ev F c) σ H Q → te σ H Q) {Dn : Ends} {σ : L2.St} {H : Hp} (q : tS K (evS F (.asg p c)) Dn σ H) : tAsg te (gP K p) Dn σ H := by
  obtain ⟨r, S, m, f, h1, h2, h3, h4⟩ := q
  simp only [evS] at h3
  obtain ⟨z, e1, h3⟩ := bi_eq_ok h3
  obtain ⟨r', e2, h3⟩ := bi_eq_ok h3
  cases ok_inj h3
  exact hte _ _ _ ⟨r, S, m, z.1, z.2, h1, h2, e1, fun v H' m' u rd st => ⟨z.1, m', r, r', rd, h1.up u, opt_eq_ok e2, fun σ' k1 _ _ => h4 σ' H' m' u k1 st⟩⟩
theorem asgN_of {K : PySem.W.Frag} {i : Nat} {c : C} {te : TE} (hte : ∀ σ H Q, tE K (ev F c) σ H Q → te σ H Q) {Dn : Ends} {σ : L2.St} {H : Hp} (q : tS K (evS F (.asg (.nm i) c)) Dn σ H) : tAsg te (gName i) Dn σ H := by
  obtain ⟨r, S, m, f, h1, h2, h3, h4⟩ := q
  simp only [evS] at h3
  obtain ⟨z, e1, h3⟩ := bi_eq_ok h3
  obtain ⟨r', e2, h3⟩ := bi_eq_ok h3
  cases ok_inj h3
  have e2 := opt_eq_ok e2
  simp only [bindP] at e2
  cases e2
  exact hte _ _ _ ⟨r, S, m, z.1, z.2, h1, h2, e1, fun v H' m' u rd st => h4 _ H' m' u ((h1.up u).set i rd) st⟩
theorem fm_lt {α β : Type} {f : α → Option β} : ∀ {l : List α}, (∃ x, x ∈ l ∧ f x = none) → (l.filterMap f).length ≠ l.length
  | [], h => by obtain ⟨x, hx, _⟩ := h; cases hx
  | y :: l, h => by
    have le := List.length_filterMap_le f l
    cases e : f y with
    | none => rw [List.filterMap_cons_none e, List.length_cons]; omega
    | some z =>
      rw [List.filterMap_cons_some e, List.length_cons, List.length_cons]
      obtain ⟨x, hx, hn⟩ := h
      rcases List.mem_cons.mp hx with rfl | hx
      · rw [e] at hn; cases hn
      · have := fm_lt ⟨x, hx, hn⟩
        omega
theorem cap_sw {X : Cx} {sc : Scope} (G : Gd X g F l sc) {ts vs : List Expr} {kt kv : Nat} {pt pv : Pos} (h : 3 < ts.length ∨ ts.any (capT sc) = true) : swappedStores [.Tuple ts kt pt] (.Tuple vs kv pv) X.env = pure none := by
  rcases h with hlen | h
  · have e2 : (ts.length == 2) = false := by simp; omega
    have e3 : (ts.length == 3) = false := by simp; omega
    unfold swappedStores
    simp [e2, e3]
  · unfold swappedStores
    obtain ⟨e, he, hc⟩ := List.any_eq_true.mp h
    have hn : ∀ line : Nat, (ts.filterMap fun
        | .Name id pos => if X.env.kindOf id == some .local && pos.line == line then some id else none
        | _ => none).length ≠ ts.length := fun line => fm_lt ⟨e, he, by
      cases e with
      | Name x pos =>
        unfold capT at hc
        simp only at hc
        split at hc
        · rename_i hk
          have := G.kind hk
          simp only
          rw [this]; rfl
        · cases hc
      | _ => cases hc⟩
    have hb := fun line => (bne_iff_ne.mpr (hn line))
    simp only
    split
    · rfl
    · split
      · rfl
      · rw [if_pos]
        rw [Bool.or_eq_true]
        exact .inl (hb _)
theorem cap_lc {X : Cx} {sc : Scope} (G : Gd X g F l sc) {x : Str} {px : Pos} {e : Expr} {ln : Nat} (h : capT sc (.Name x px) = true) : swapsWith e (some (.Name x px)) ln X.env = pure false := by
  unfold capT at h
  simp only at h
  split at h
  · rename_i hk
    have ky : X.env.kindOf x = some .cell := G.kind hk
    cases e with
    | ListComp elt gs scope pos =>
      unfold swapsWith
      simp only [ky]
      rw [show ((some NameKind.cell == some NameKind.local) : Bool) = false from rfl]
      simp
    | SetComp elt gs scope pos =>
      unfold swapsWith
      simp only [ky]
      rw [show ((some NameKind.cell == some NameKind.local) : Bool) = false from rfl]
      simp
    | DictComp a b gs scope pos =>
      unfold swapsWith
      simp only [ky]
      rw [show ((some NameKind.cell == some NameKind.local) : Bool) = false from rfl]
      simp
    | _ => rfl
  · cases h
theorem tupT_ok {X : Cx} {sc : Scope} (G : Gd X g F l sc) (T : Gs X) (ihE : ∀ e c, cE g 60 sc e = some c → PE X e (tE X.K (ev F c))) {ts vs : List Expr} {kt kv : Nat} {pt pv pos : Pos} {c : St} (h : tupT g sc ts kt pt vs kv pv = some c) :
    PS X (.Assign [.Tuple ts kt pt] (.Tuple vs kv pv) pos) (tS X.K (evS F c)) := by
  unfold tupT at h
  split at h
  · rename_i hc
    obtain ⟨p, e0, h⟩ := Option.bind_eq_some_iff.mp h
    obtain ⟨cc, e1, h⟩ := Option.bind_eq_some_iff.mp h
    cases h
    exact (ps_asg (ihE _ _ e1) (pg_of G.nm G.nd G.calm (fun y hy => stK_loc G T hy) 9 _ p e0) (sole rfl) (cap_sw G hc) rfl).imp fun Dn σ H q => asg_of (fun _ _ _ z => z) q
  · cases h
theorem asb_ok {X : Cx} {sc : Scope} (G : Gd X g F l sc) {o i v : Expr} {y : Str} {px py pt pos : Pos} {kt : Nat} {k : Nat} {cc x z : C} (hv : PE X v (tE X.K (ev F cc))) (ho : PE X o (tE X.K (ev F x))) (hi : PE X i (tE X.K (ev F z))) (hs : ¬ isSlice i = true)
    (hn : PG X (.Name y py) (gName k)) (s1 : swapsWithSole [.Tuple [.Subscript o i px, .Name y py] kt pt] v pos.line X.env = pure false) (s2 : swappedStores [.Tuple [.Subscript o i px, .Name y py] kt pt] v X.env = pure none) :
    PS X (.Assign [.Tuple [.Subscript o i px, .Name y py] kt pt] v pos) (tS X.K (evS F (.asb x z k cc))) := by
  have h1 : PG X (.Subscript o i px) _ := pg_sub (pos := px) ho hi (PSet.or set_list (set_dict G.hu)) (by intro v; cases i <;> first | rfl | exact absurd rfl hs)
  refine (ps_asg hv (pg_tup (n := 2) G.calm (pgs_cons h1 (pgs_cons hn pgs_nil))) s1 s2 rfl).imp fun Dn σ H q => ?_
  obtain ⟨r, S, m, f, h1, h2, h3, h4⟩ := q
  simp only [evS] at h3
  obtain ⟨zz, k1, h3⟩ := bi_eq_ok h3
  refine ⟨r, S, m, zz.1, zz.2, h1, h2, k1, fun v H1 m1 u1 rd1 st1 => ?_⟩
  split at h3
  · rename_i a b ez
    rw [ez] at rd1
    obtain ⟨o1, k2, h3⟩ := bi_eq_ok h3
    obtain ⟨i1, k3, h3⟩ := bi_eq_ok h3
    obtain ⟨ad, vs, rfl, sq, rl⟩ := rep_tup rd1
    simp only [RepL] at rl
    obtain ⟨va, _, rfl, ra, vb, _, rfl, rb, rfl⟩ := rl
    refine ⟨ad, _, rfl, sq, rfl, va, _, rfl, ?_⟩
    refine ⟨r, zz.2, m1, o1.1, o1.2, h1.up u1, st1, k2, fun w H2 m2 u2 rd2 st2 => ⟨r, o1.2, m2, i1.1, i1.2, (h1.up u1).up u2, st2, k3, fun z H3 m3 u3 rd3 st3 => ?_⟩⟩
    obtain ⟨S3, k4, h3⟩ := bi_eq_ok h3
    cases ok_inj h3
    refine setX_ok st3 (RepD.up u3 _ _ rd2) rd3 (RepD.up (u2.trans u3) _ _ ra) k4 fun H' u4 st4 => ⟨vb, _, rfl, rfl, ?_⟩
    exact h4 _ _ _ (((u1.trans u2).trans u3).trans u4) (((((h1.up u1).up u2).up u3).up u4).set k (RepD.up ((u2.trans u3).trans u4) _ _ rb)) st4
  · cases h3
theorem mix_sw {X : Cx} {o i a b : Expr} {y : Str} {px py pt pv : Pos} {kt kv : Nat} : swappedStores [.Tuple [.Name y py, .Subscript o i px] kt pt] (.Tuple [a, b] kv pv) X.env = pure none := by
  unfold swappedStores
  have few : ∀ line : Nat, ([Expr.Name y py, .Subscript o i px].filterMap fun
      | .Name id pos => if X.env.kindOf id == some .local && pos.line == line then some id else none
      | _ => none).length ≠ [Expr.Name y py, .Subscript o i px].length := fun line => fm_lt ⟨.Subscript o i px, by simp, rfl⟩
  have far := fun line => (bne_iff_ne.mpr (few line))
  simp only
  split
  · rfl
  · split
    · rfl
    · rw [if_pos]
      rw [Bool.or_eq_true]
      exact .inl (far _)
theorem abs_ok {X : Cx} {sc : Scope} (G : Gd X g F l sc) {o i v : Expr} {y : Str} {px py pt pos : Pos} {kt : Nat} {k : Nat} {cc x z : C} (hv : PE X v (tE X.K (ev F cc))) (ho : PE X o (tE X.K (ev F x))) (hi : PE X i (tE X.K (ev F z))) (hs : ¬ isSlice i = true)
    (hn : PG X (.Name y py) (gName k)) (s1 : swapsWithSole [.Tuple [.Name y py, .Subscript o i px] kt pt] v pos.line X.env = pure false) (s2 : swappedStores [.Tuple [.Name y py, .Subscript o i px] kt pt] v X.env = pure none) :
    PS X (.Assign [.Tuple [.Name y py, .Subscript o i px] kt pt] v pos) (tS X.K (evS F (.abs x z k cc))) := by
  have h1 : PG X (.Subscript o i px) _ := pg_sub (pos := px) ho hi (PSet.or set_list (set_dict G.hu)) (by intro v; cases i <;> first | rfl | exact absurd rfl hs)
  refine (ps_asg hv (pg_tup (n := 2) G.calm (pgs_cons hn (pgs_cons h1 pgs_nil))) s1 s2 rfl).imp fun Dn σ H q => ?_
  obtain ⟨r, S, m, f, h1, h2, h3, h4⟩ := q
  simp only [evS] at h3
  obtain ⟨zz, k1, h3⟩ := bi_eq_ok h3
  refine ⟨r, S, m, zz.1, zz.2, h1, h2, k1, fun v H1 m1 u1 rd1 st1 => ?_⟩
  split at h3
  · rename_i a b ez
    rw [ez] at rd1
    obtain ⟨o1, k2, h3⟩ := bi_eq_ok h3
    obtain ⟨i1, k3, h3⟩ := bi_eq_ok h3
    obtain ⟨ad, vs, rfl, sq, rl⟩ := rep_tup rd1
    simp only [RepL] at rl
    obtain ⟨va, _, rfl, ra, vb, _, rfl, rb, rfl⟩ := rl
    have env1 := (h1.up u1).set k ra
    refine ⟨ad, _, rfl, sq, rfl, va, _, rfl, ?_⟩
    refine ⟨vb, _, rfl, ?_⟩
    refine ⟨_, zz.2, m1, o1.1, o1.2, env1, st1, k2, fun w H2 m2 u2 rd2 st2 => ⟨_, o1.2, m2, i1.1, i1.2, env1.up u2, st2, k3, fun z H3 m3 u3 rd3 st3 => ?_⟩⟩
    obtain ⟨S3, k4, h3⟩ := bi_eq_ok h3
    cases ok_inj h3
    refine setX_ok st3 (RepD.up u3 _ _ rd2) rd3 (RepD.up (u2.trans u3) _ _ rb) k4 fun H' u4 st4 => ⟨rfl, ?_⟩
    exact h4 _ _ _ (((u1.trans u2).trans u3).trans u4) (((env1.up u2).up u3).up u4) st4
  · cases h3
theorem sndS : ∀ (n : Nat) (sc : Scope) (s : Stmt) (c : St), cS g n sc s = some c → ∀ X, Gd X g F l sc → Gs X → PS X s (tS X.K (evS F c))
  | 0, _, _, _, h, _, _, _ => by cases h
  | n + 1, sc, s, c, h, X, G, T => by
    have ihE := fun e c h => (snd (g := g) (F := F) (l := l) 60 sc e c h X G).1
    have ihT := fun e c h => (snd (g := g) (F := F) (l := l) 60 sc e c h X G).2
    have ihS := fun ss cs h => IHs_pss (X := X) (F := F) (g := g) (sc := sc) n (fun s c h => sndS n sc s c h X G T) ss cs h
    have nodup : X.N.Nodup := by rw [G.nm]; exact G.nd
    cases s with
    | Expr e pos =>
      simp only [cS] at h
      split at h
      · cases h
        refine ps_doc.imp fun Dn σ H q => ?_
        obtain ⟨r, S, m, f, h1, h2, h3, h4⟩ := q
        simp only [evS] at h3
        cases ok_inj h3
        exact h4 _ _ _ Up.refl h1 h2
      · split at h
        · rename_i hc
          obtain ⟨x, e1, rfl⟩ := Option.map_eq_some_iff.mp h
          refine (ps_expr (ihE _ _ e1) (cE_noSwap (by cases e <;> first | rfl | cases hc) _ _ _)).imp fun Dn σ H q => ?_
          obtain ⟨r, S, m, f, h1, h2, h3, h4⟩ := q
          simp only [evS] at h3
          obtain ⟨p, e2, h3⟩ := bi_eq_ok h3
          cases ok_inj h3
          exact ⟨r, S, m, p.1, p.2, h1, h2, e2, fun v H' m' u rd st => h4 _ _ _ u (h1.up u) st⟩
        · cases h
    | Return v pos =>
      simp only [cS] at h
      split at h
      · cases h
        refine ps_retN.imp fun Dn σ H q => ?_
        obtain ⟨r, S, m, f, h1, h2, h3, h4⟩ := q
        simp only [evS] at h3
        obtain ⟨p, e2, h3⟩ := bi_eq_ok h3
        cases ok_inj h3
        have e2 : (R.ok (D.non, S) : R (D × Sto)) = .ok p := e2
        cases ok_inj e2
        exact h4 _ _ _ Up.refl mk_non h2
      · obtain ⟨x, e1, rfl⟩ := Option.map_eq_some_iff.mp h
        refine (ps_ret (ihE _ _ e1)).imp fun Dn σ H q => ?_
        obtain ⟨r, S, m, f, h1, h2, h3, h4⟩ := q
        simp only [evS] at h3
        obtain ⟨p, e2, h3⟩ := bi_eq_ok h3
        cases ok_inj h3
        exact ⟨r, S, m, p.1, p.2, h1, h2, e2, h4⟩
    | Pass pos =>
      cases h
      refine ps_pass.imp fun Dn σ H q => ?_
      obtain ⟨r, S, m, f, h1, h2, h3, h4⟩ := q
      simp only [evS] at h3
      cases ok_inj h3
      exact h4 _ _ _ Up.refl h1 h2
    | Continue pos =>
      cases h
      refine ps_continue.imp fun Dn σ H q => ?_
      obtain ⟨r, S, m, f, h1, h2, h3, h4⟩ := q
      simp only [evS] at h3
      cases ok_inj h3
      exact h4 _ _ _ Up.refl h1 h2
    | Break pos =>
      cases h
      refine ps_break.imp fun Dn σ H q => ?_
      obtain ⟨r, S, m, f, h1, h2, h3, h4⟩ := q
      simp only [evS] at h3
      cases ok_inj h3
      exact h4 _ _ _ Up.refl h1 h2
    | Raise ex ca pos =>
      cases h
      refine ps_never.imp fun Dn σ H q => ?_
      obtain ⟨r, S, m, f, h1, h2, h3, h4⟩ := q
      simp only [evS] at h3
      cases h3
    | If cc a b pos =>
      simp only [cS] at h
      obtain ⟨x, e1, h⟩ := Option.bind_eq_some_iff.mp h
      obtain ⟨y, e2, h⟩ := Option.bind_eq_some_iff.mp h
      obtain ⟨z, e3, h⟩ := Option.bind_eq_some_iff.mp h
      cases h
      refine (ps_if (ihT _ _ e1) (ihS _ _ e2) (ihS _ _ e3)).imp fun Dn σ H q => ?_
      obtain ⟨r, S, m, f, h1, h2, h3, h4⟩ := q
      simp only [evS] at h3
      obtain ⟨t, e4, h3⟩ := bi_eq_ok h3
      refine ⟨r, S, m, t.1, t.2, h1, h2, e4, fun H' m' u st => ?_⟩
      cases ht : t.1 with
      | true =>
        rw [ht, if_pos rfl] at h3
        rw [if_pos rfl]
        exact ⟨r, t.2, m', f, h1.up u, st, h3, h4.up u⟩
      | false =>
        rw [ht, if_neg Bool.false_ne_true] at h3
        rw [if_neg Bool.false_ne_true]
        exact ⟨r, t.2, m', f, h1.up u, st, h3, h4.up u⟩
    | While cc b els pos =>
      simp only [cS] at h
      split at h
      · obtain ⟨x, e1, h⟩ := Option.bind_eq_some_iff.mp h
        obtain ⟨y, e2, h⟩ := Option.bind_eq_some_iff.mp h
        cases h
        refine (ps_while T.po (ihT _ _ e1) (ihS _ _ e2)).imp fun Dn σ H q => ?_
        simp only [evS] at q
        exact while_of q
      · cases h
    | For tg iter b els pos =>
      simp only [cS] at h
      split at h
      · obtain ⟨p, e0, h⟩ := Option.bind_eq_some_iff.mp h
        obtain ⟨src, e1, h⟩ := Option.bind_eq_some_iff.mp h
        obtain ⟨y, e2, h⟩ := Option.bind_eq_some_iff.mp h
        cases h
        obtain ⟨P1, P2⟩ := pi_of G 60 ihE e1
        refine (ps_for T.po G.calm P1 (pg_of G.nm G.nd G.calm (fun y hy => stK_loc G T hy) 9 tg p e0) (ihS _ _ e2) (fun x => P2 x _)).imp fun Dn σ H q => ?_
        simp only [evS] at q
        exact for_of q
      · cases h
    | Assign tgs v pos =>
      simp only [cS] at h
      split at h
      · rename_i x px
        split at h
        · rename_i hst
          obtain ⟨i, e0, h⟩ := Option.bind_eq_some_iff.mp h
          obtain ⟨cc, e1, h⟩ := Option.bind_eq_some_iff.mp h
          obtain ⟨k1, k2⟩ := stK_loc G T hst
          have hi : X.N[i]? = some x := by rw [G.nm]; exact idx_get e0
          split at h
          · split at h
            · rename_i hcap
              cases h
              exact (ps_set nodup hi k1 (ihE _ _ e1) (cap_lc G hcap) k2).imp fun Dn σ H q => asgN_of (fun _ _ _ z => z) q
            split at h
            · split at h
              · rename_i hl
                cases h
                unfold lcOk at hl
                simp only [Bool.and_eq_true, Bool.not_eq_true'] at hl
                obtain ⟨⟨l1, l2⟩, l3⟩ := hl
                have loc := scK_local G l1
                obtain ⟨own, wi, gg, tt, te, w1, w2, w3, w4, w5, w6, w7⟩ := lc_ok G (snd (g := g) (F := F) (l := l) 59) e1
                refine (ps_setLc G.calm nodup hi loc (sw_true T.kd loc l2 l3) w2 w3 w4 w5 w6 (fun x => w7 x _)).imp fun Dn σ H q => ?_
                exact asgN_of w1 q
              · cases h
            · cases h
          · split at h
            · cases h
            · rename_i hlc
              cases h
              have hlc' := Bool.eq_false_iff.mpr hlc
              exact (ps_set nodup hi k1 (ihE _ _ e1) (cE_noSwap hlc' _ _ _) k2).imp fun Dn σ H q => asgN_of (fun _ _ _ z => z) q
        · cases h
      · rename_i ts kt pt
        split at h
        · rename_i vs kv pv
          split at h
          · rename_i x px y py a b
            split at h
            · rename_i hp
              obtain ⟨i, e0, h⟩ := Option.bind_eq_some_iff.mp h
              obtain ⟨j, e1, h⟩ := Option.bind_eq_some_iff.mp h
              obtain ⟨c1, e2, h⟩ := Option.bind_eq_some_iff.mp h
              obtain ⟨c2, e3, h⟩ := Option.bind_eq_some_iff.mp h
              cases h
              obtain ⟨l1, l2, hne, s1, s2, hw⟩ := par_ok (pt := pt) (pt2 := pv) (kt := kt) (k2 := kv) G T.kd hp
              have hi : X.N[i]? = some x := by rw [G.nm]; exact idx_get e0
              have hj : X.N[j]? = some y := by rw [G.nm]; exact idx_get e1
              have hij : i ≠ j := fun e => by
                subst e
                rw [hi] at hj; cases hj
                exact hne rfl
              have PA1 := pa_of (F := F) 60 ihE [a, b] [c1, c2] (by simp [s1, s2]) (by simp [mapO, e2, e3])
              refine (ps_par G.calm nodup hi hj hij l1 l2 PA1 hw).imp fun Dn σ H q => ?_
              obtain ⟨r, S, m, f, h1, h2, h3, h4⟩ := q
              simp only [evS] at h3
              obtain ⟨p, k1, h3⟩ := bi_eq_ok h3
              obtain ⟨z, k2, h3⟩ := bi_eq_ok h3
              cases ok_inj h3
              refine ⟨r, S, m, [p.1, z.1], z.2, h1, h2, ?_, fun vs H' m' u rd st => ?_⟩
              · simp only [evL]
                rw [show (evP F c1).v r S = .ok p from k1, bi_ok, show (evP F c2).v r p.2 = .ok z from k2]
                rfl
              · simp only [RepL] at rd
                obtain ⟨v, _, rfl, r1, w, _, rfl, r2, rfl⟩ := rd
                exact ⟨v, w, rfl, h4 _ _ _ u (((h1.up u).set i r1).set j r2) st⟩
            · exact tupT_ok G T ihE h
          · rename_i x px y py z pz a b e
            split at h
            · rename_i hp
              obtain ⟨i, e0, h⟩ := Option.bind_eq_some_iff.mp h
              obtain ⟨j, e1, h⟩ := Option.bind_eq_some_iff.mp h
              obtain ⟨k, e10, h⟩ := Option.bind_eq_some_iff.mp h
              obtain ⟨c1, e2, h⟩ := Option.bind_eq_some_iff.mp h
              obtain ⟨c2, e3, h⟩ := Option.bind_eq_some_iff.mp h
              obtain ⟨c3, e4, h⟩ := Option.bind_eq_some_iff.mp h
              cases h
              obtain ⟨l1, l2, l3, n1, n2, n3, s1, s2, s3, hw⟩ := par3_ok (pt := pt) (pt2 := pv) (kt := kt) (k2 := kv) G T.kd hp
              have hi : X.N[i]? = some x := by rw [G.nm]; exact idx_get e0
              have hj : X.N[j]? = some y := by rw [G.nm]; exact idx_get e1
              have hk : X.N[k]? = some z := by rw [G.nm]; exact idx_get e10
              have hij : i ≠ j := fun e => by
                subst e
                rw [hi] at hj; cases hj
                exact n1 rfl
              have hik : i ≠ k := fun e => by
                subst e
                rw [hi] at hk; cases hk
                exact n2 rfl
              have hjk : j ≠ k := fun e => by
                subst e
                rw [hj] at hk; cases hk
                exact n3 rfl
              have PA1 := pa_of (F := F) 60 ihE [a, b, e] [c1, c2, c3] (by simp [s1, s2, s3]) (by simp [mapO, e2, e3, e4])
              refine (ps_par3 G.calm nodup hi hj hk hij hik hjk l1 l2 l3 PA1 hw).imp fun Dn σ H q => ?_
              obtain ⟨r, S, m, f, h1, h2, h3, h4⟩ := q
              simp only [evS] at h3
              obtain ⟨p, k1, h3⟩ := bi_eq_ok h3
              obtain ⟨q2, k2, h3⟩ := bi_eq_ok h3
              obtain ⟨q3, k3, h3⟩ := bi_eq_ok h3
              cases ok_inj h3
              refine ⟨r, S, m, [p.1, q2.1, q3.1], q3.2, h1, h2, ?_, fun vs H' m' u rd st => ?_⟩
              · simp only [evL]
                rw [show (evP F c1).v r S = .ok p from k1, bi_ok, show (evP F c2).v r p.2 = .ok q2 from k2, bi_ok, show (evP F c3).v r q2.2 = .ok q3 from k3]
                rfl
              · simp only [RepL] at rd
                obtain ⟨v, _, rfl, r1, w, _, rfl, r2, w3, _, rfl, r3, rfl⟩ := rd
                exact ⟨v, w, w3, rfl, h4 _ _ _ u ((((h1.up u).set i r1).set j r2).set k r3) st⟩
            · exact tupT_ok G T ihE h
          · rename_i y py o i px ea eb
            split at h
            · cases h
            · rename_i hs
              simp only [not_or, Bool.not_eq_false] at hs
              obtain ⟨k, e0, h⟩ := Option.bind_eq_some_iff.mp h
              obtain ⟨cc, e1, h⟩ := Option.bind_eq_some_iff.mp h
              obtain ⟨x, e2, h⟩ := Option.bind_eq_some_iff.mp h
              obtain ⟨z, e3, h⟩ := Option.bind_eq_some_iff.mp h
              cases h
              obtain ⟨k1, k2⟩ := stK_loc G T hs.2
              have hi : X.N[k]? = some y := by rw [G.nm]; exact idx_get e0
              exact abs_ok G (ihE _ _ e1) (ihE _ _ e2) (ihE _ _ e3) hs.1 (pg_name nodup hi k1 k2) (sole rfl) mix_sw
          · exact tupT_ok G T ihE h
        · split at h
          · cases h
          · rename_i hnt hlc
            have hlc' := Bool.eq_false_iff.mpr hlc
            have hsw : swappedStores [.Tuple ts kt pt] v X.env = pure none := by
              cases v <;> first | rfl | exact absurd rfl (hnt _ _ _)
            split at h
            · rename_i o i px y py
              split at h
              · cases h
              · rename_i hs
                simp only [not_or, Bool.not_eq_false] at hs
                obtain ⟨k, e0, h⟩ := Option.bind_eq_some_iff.mp h
                obtain ⟨cc, e1, h⟩ := Option.bind_eq_some_iff.mp h
                obtain ⟨x, e2, h⟩ := Option.bind_eq_some_iff.mp h
                obtain ⟨z, e3, h⟩ := Option.bind_eq_some_iff.mp h
                cases h
                obtain ⟨k1, k2⟩ := stK_loc G T hs.2
                have hi : X.N[k]? = some y := by rw [G.nm]; exact idx_get e0
                exact asb_ok G (ihE _ _ e1) (ihE _ _ e2) (ihE _ _ e3) hs.1 (pg_name nodup hi k1 k2) (sole hlc') hsw
            obtain ⟨p, e0, h⟩ := Option.bind_eq_some_iff.mp h
            obtain ⟨cc, e1, h⟩ := Option.bind_eq_some_iff.mp h
            cases h
            exact (ps_asg (ihE _ _ e1) (pg_of G.nm G.nd G.calm (fun y hy => stK_loc G T hy) 9 _ p e0) (sole hlc') hsw rfl).imp fun Dn σ H q => asg_of (fun _ _ _ z => z) q
      · rename_i o i px
        split at h
        · cases h
        · rename_i hs
          simp only [not_or] at hs
          have hlc' := Bool.eq_false_iff.mpr hs.2
          obtain ⟨cc, e1, h⟩ := Option.bind_eq_some_iff.mp h
          obtain ⟨x, e2, h⟩ := Option.bind_eq_some_iff.mp h
          obtain ⟨y, e3, h⟩ := Option.bind_eq_some_iff.mp h
          cases h
          refine (ps_asg (ihE _ _ e1) (pg_sub (pos := px) (ihE _ _ e2) (ihE _ _ e3) (PSet.or set_list (set_dict G.hu)) (by intro v; cases i <;> first | rfl | exact absurd rfl hs.1)) (sole hlc') rfl rfl).imp fun Dn σ H q => ?_
          obtain ⟨r, S, m, f, h1, h2, h3, h4⟩ := q
          simp only [evS] at h3
          obtain ⟨v1, k1, h3⟩ := bi_eq_ok h3
          obtain ⟨o1, k2, h3⟩ := bi_eq_ok h3
          obtain ⟨i1, k3, h3⟩ := bi_eq_ok h3
          refine ⟨r, S, m, v1.1, v1.2, h1, h2, k1, fun v H1 m1 u1 rd1 st1 => ⟨r, v1.2, m1, o1.1, o1.2, h1.up u1, st1, k2, fun w H2 m2 u2 rd2 st2 => ⟨r, o1.2, m2, i1.1, i1.2, (h1.up u1).up u2, st2, k3, fun z H3 m3 u3 rd3 st3 => ?_⟩⟩⟩
          obtain ⟨S3, k4, h3⟩ := bi_eq_ok h3
          cases ok_inj h3
          exact setX_ok st3 (RepD.up u3 _ _ rd2) rd3 (RepD.up (u2.trans u3) _ _ rd1) k4 fun H' u4 st4 => h4 _ _ _ (((u1.trans u2).trans u3).trans u4) ((((h1.up u1).up u2).up u3).up u4) st4
      · cases h
    | _ => cases h
end
end Ev
set_option autoImplicit false
set_option linter.all false
namespace Ev
open PySem
open L2
open PySem.Spec
open PyProof.Rows
section
variable {P : Program} {w : World} {K : PySem.W.Frag} {mg : Str → Option Value} {base : Heap}
theorem fn_G {k : Nat} {f : Addr} {name qual : Str} {params : Arguments} {body : List Stmt} {scope : Scope} {dV kV doc pm cdv ct oc : Value} {an od : Option Addr} {osl : Array (Option Value)} {N ps : List Str} {sp : Sp}
    (lk : K.lookup f = some ⟨oc, od, .func (PySem.W.fnOf name qual params body scope dV kV doc pm an cdv ct), osl⟩) (hcd : PySem.W.codeIn K cdv qual = true) (S : FnScope N ps scope)
    (len : ∀ vs H Q E, sp vs H Q E → vs.length = ps.length)
    (hbody : ∀ (A : Around) (outer : List PySem.Env) (s : Shared) (H : Hp) (vs : List V) (Q : VK), Room k (A.deeper (envOfC qual scope s.heap.objs.size f cdv)) → A.guards = some [] → sp vs H Q E0 →
      ∃ t, PSs (cxOf CX0 P w K mg base N qual scope f cdv A outer s H E0).nox body t ∧ t { nx := fun _ H' => Q .non H', rt := Q } (L2.start N vs) H) :
    FnG P w K mg base (k + 1) f (PySem.W.fnOf name qual params body scope dV kV doc pm an cdv ct) ps sp := by
  refine ⟨len, ?_⟩
  intro A outer s H args us vs Q hr hgd e0 hb rv hsp
  have kept : ∀ b o, base.get? b = some o → s.heap.get? b = some o := fun b o e => (e0.bs b o e).1
  have KIn : K.In s.heap := e0.mod.kin.keeps kept
  have noLim : s.heap.NoLimit := e0.mod.nolimit.keeps kept
  have vl := len vs H Q E0 hsp
  have kinds : ∀ y ∈ ps.zip us, scope.names.lookup y.1 = some .local ∨ (scope.names.lookup y.1 = some .cell ∧ ((cellsFrom (s.heap.objs.size + 1) scope.names []).lookup y.1).isSome = true) := by
    rintro ⟨y, u⟩ hy
    have := S.par y (List.of_mem_zip hy).1
    exact this.imp id fun c => ⟨c, PySem.W.cellsFrom_some _ _ _ (.inl c)⟩
  refine codeAny_call_function hr.depth (KIn f _ lk) rfl S.co S.gen rfl (PySem.W.codeRec_of KIn hcd) (hb _ _ _ _ (wpAny_newFunctionEnv_cells S.kind kinds fun env eq s1 inn => ?_))
  subst eq
  obtain ⟨t, P1, q⟩ := hbody A outer s H vs Q (hr.deeper _) hgd hsp
  refine ⟨noLim.keeps inn.toInCall.keep, codeAny_func ?_⟩
  have I := inv_start (CX := CX0) (E := E0) (P := P) (w := w) (qual := qual) (f := f) (cd := cdv) S hr.hd e0 vl rv inn
  have back : ∀ {σ' : L2.St} {H' : Hp} {v : V} {u : Value} {s' : Shared}, Inv (cxOf CX0 P w K mg base N qual scope f cdv A outer s H E0) [] σ' H' s' → RelV v u → Q v H' → CE outer P w H s Q u s' :=
    fun J r z => ⟨_, _, J.os, J.bare, J.base, J.hok, r, z⟩
  refine wpAny_mono (P1.run [] s1 (L2.start N vs) H _ (I.wish _) q) (fun fl s' h => ?_) (fun _ _ h => False.elim h)
  have h := h.unwish
  match fl, h with
  | .ret u, ⟨v, σ', H', J, r, z⟩ => exact back J r z
  | .next, ⟨σ', H', J, z⟩ => exact back (v := V.non) (u := Value.none) J rfl z
  | .brk, ⟨_, _, _, z⟩ => exact False.elim z
  | .cont, ⟨_, _, _, z⟩ => exact False.elim z
structure DefE where
  x : Str
  st : Stmt
  ps : List Str
  ns : List Str
  code : List St
def DefE.fn (d : DefE) : Fn := ⟨d.ps.length, d.ns.length, d.code⟩
def tab (defs : Nat → Option DefE) (i : Nat) : Option Fn := (defs i).map DefE.fn
theorem start_env {H : Hp} {m : List Addr} {N : List Str} {ds : List D} {vs : List V} (r : RepL K H m ds vs) (n : Nat) (hn : n = N.length - ds.length) : REnv K H m (ds.map some ++ List.replicate n none) (L2.start N vs) := by
  subst hn
  unfold L2.start
  refine ⟨by simp [r.length], fun i d e => ?_⟩
  by_cases hi : i < ds.length
  · rw [List.getElem?_append_left (by simpa using hi), List.getElem?_map] at e
    obtain ⟨d', e1, e2⟩ := Option.map_eq_some_iff.mp e
    cases e2
    obtain ⟨v, h1, h2⟩ := r.get e1
    refine ⟨v, ?_, h2⟩
    rw [List.getElem?_append_left (by simp; rw [← r.length]; exact hi), List.getElem?_map, h1]; rfl
  · rw [List.getElem?_append_right (by simp; omega), List.getElem?_replicate] at e
    split at e <;> cases e
/-- what a trimmed store still tells -/
theorem und_of {H : Hp} {m : List Addr} : ∀ (d : D) (v : V), RepD K H m d v → d.und m.length = true ∧ True
  | .non, _, _ => ⟨rfl, trivial⟩
  | .bl _, _, _ => ⟨rfl, trivial⟩
  | .int _, _, _ => ⟨rfl, trivial⟩
  | .str _, _, _ => ⟨rfl, trivial⟩
  | .loc k, v, h => by
    simp only [RepD] at h
    obtain ⟨a, h1, _⟩ := h
    exact ⟨by simp only [D.und, decide_eq_true_eq]; exact (List.getElem?_eq_some_iff.mp h1).1, trivial⟩
  | .tup xs, v, h => by
    simp only [RepD] at h
    obtain ⟨a, vs, _, _, h3⟩ := h
    exact ⟨by simp only [D.und]; exact undL_of xs vs h3, trivial⟩
  | .frz xs, v, h => by
    simp only [RepD] at h
    obtain ⟨a, vs, _, _, h3⟩ := h
    exact ⟨by simp only [D.und]; exact undL_of xs vs h3, trivial⟩
where undL_of {H : Hp} {m : List Addr} : ∀ (ds : List D) (vs : List V), RepL K H m ds vs → D.undL m.length ds = true
  | [], _, _ => rfl
  | d :: ds, vs, h => by
    simp only [RepL] at h
    obtain ⟨v, r, _, h2, h3⟩ := h
    simp only [D.undL, Bool.and_eq_true]
    exact ⟨(und_of d v h2).1, undL_of ds r h3⟩
end
end Ev
set_option autoImplicit false
set_option linter.all false
set_option maxRecDepth 100000
set_option maxHeartbeats 2000000
namespace Sup
open PySem PySem.W PySem.Calls PyProof.Rows PySem.HandSPX
def iA (f : Option Str) (p1 p2 : Pos) : Arguments := { posonlyargs := [], args := { arg := "self", annotation := none, pos := p1 } :: (match f with | none => [] | some x => [{ arg := x, annotation := none, pos := p2 }]), vararg := none, kwonlyargs := [], kw_defaults := [], kwarg := none, defaults := [] }
def iB (msg : Str) (f : Option Str) (j : Nat) (q0 q1 q2 q3 q4 q5 q6 q7 q8 q9 : Pos) : List Stmt :=
  .Expr (.Call (.Attribute (.Call (.Name "super" q0) [] [] q1) "__init__" q2) [.Constant (.str msg) j q3] [] q4) q5 :: (match f with | none => [] | some x => [.Assign [.Attribute (.Name "self" q6) x q7] (.Name x q8) q9])
def iS (f : Option Str) : Scope := { kind := .function, names := (PySem.Str.ofString "self", .local) :: ((match f with | none => [] | some x => [(x, .local)]) ++ [(PySem.Str.ofString "__class__", .free), (PySem.Str.ofString "super", .globalImplicit)]), isGenerator := false, isCoroutine := false, more := [] }
/-- what the written part says of the class at C -/
structure Txt (prog : Program) (K : Frag) (C fI : Addr) (f : Option Str) : Prop where
  cls : ∃ nm q N bs bm sn sub ab col dd k0 k1 k2 k3 k5, K.lookup C = some (excClassObj nm q C N bs bm true sn sub ab col dd k0 k1 k2 k3 k5 "ValueError.__new__") ∧ refsVE bm = true
  sa : findIn K (.ref C) "__setattr__" = some (some (.builtin "object.__setattr__"))
  ga : findIn K (.ref C) "__getattribute__" = some (some (.builtin "BaseException.__getattribute__"))
  gg : findIn K (.ref C) "__getattr__" = some none
  noN : ∀ x, f = some x → findIn K (.ref C) x = some none
  iC : findIn K (.ref C) "__init__" = some (some (.ref fI))
  tC : typeIn K (.ref fI) = some (.type "function")
  kC : keepIn K (.ref C) = true
  exC : subIn K (.ref C) (.type "BaseException") = some true
  tyC : typeIn K (.ref C) = some (.type "type")
  hdC : hasDictIn K C = true
  veC : subIn K (.ref C) (.type "ValueError") = some true
  sup : ks_superIn K C C "__init__" = some (some (.builtin "ValueError.__init__"))
  msub : mroIn K C (.ref C) = some true
  noS : nsIn K mainGlobals "super" = some none
  tp : nsIn K cStatics "thirdparty.any" = some none
  top : (prog.main.scope.names.lookup ("super" : Str)).isSome = false
  fn : ∃ (oc : Value) (od : Option Addr) (doc pm : Value) (an : Option Addr) (ct : Value) (osl : Array (Option Value)) (p1 p2 q0 q1 q2 q3 q4 q5 q6 q7 q8 q9 : Pos) (j : Nat) (qual msg : Str) (cc cda : Addr)
    (cl : Value) (cld : Option Addr) (csl : Array (Option Value)) (ccl : Value) (cdd : Option Addr) (vs : Array Value) (ccs : Array (Option Value)) (file : Str) (tf : Tok),
    K.lookup fI = some ⟨oc, od, .func (ksFn "__init__" qual (iA f p1 p2) (iB msg f j q0 q1 q2 q3 q4 q5 q6 q7 q8 q9) (iS f) .none .none doc pm an (.ref cda) ct cc), osl⟩ ∧ codeIn K (.ref cda) qual = true ∧
    K.lookup cc = some ⟨cl, cld, .cell (some (.ref C)), csl⟩ ∧ K.lookup cda = some ⟨ccl, cdd, .fields vs, ccs⟩ ∧ vs[2]? = some (.str file tf) ∧ ((prog.main.file : Str) == file) = true ∧ (q2.endLine == q4.line) = true
theorem one_size (v : Value) : [v].length ≤ sizeLine := by
  rw [sizeLine_eq]
  exact (by decide : 1 ≤ 16777216)
/-- the arguments behind self -/
def args (f : Option Str) (v : Value) : List Value := match f with | none => [] | some _ => [v]
/-- how super().__init__(m) is read -/
theorem ev_sup (msg : Str) (q0 q1 q2 q3 q4 : Pos) (j : Nat) (env : Env) (h : (q2.endLine == q4.line) = true) : 
  eval (.Call (.Attribute (.Call (.Name "super" q0) [] [] q1) "__init__" q2) [.Constant (.str msg) j q3] [] q4) env = (do
      let ov ← attributeBase (.Call (.Name "super" q0) [] [] q1) "__init__" env (eval (.Call (.Name "super" q0) [] [] q1) env)
      standAt q2.atName
      let (fn, first) ← holding [ov] (getMethod ov "__init__" (do return (← importBound (.Call (.Name "super" q0) [] [] q1) env).getD true))
      callWith q4 fn first (backTo q4 (starEach [.Constant (.str msg) j q3] env)) []) := by
  show (do
      let ov ← attributeBase (.Call (.Name "super" q0) [] [] q1) "__init__" env (eval (.Call (.Name "super" q0) [] [] q1) env)
      standAt q2.atName
      methodCall (.Call (.Name "super" q0) [] [] q1) "__init__" q2 q4 env ov 1 (backTo q4 (starEach [.Constant (.str msg) j q3] env)) []) = _
  have hp : ∀ o, methodCallPos true o env q2 q4 = pure q4 := fun o => by
    unfold methodCallPos
    rw [h]; rfl
  have hf : methodCallForm 1 (backTo q4 (starEach [.Constant (.str msg) j q3] env)) [] = true := rfl
  simp only [methodCall, hf, hp, pure_bind]
  rfl
/-- the arguments' names -/
def bnd (f : Option Str) (x v : Value) : List (Str × Value) := match f with | none => [("self", x)] | some y => [("self", x), (y, v)]
/-- a field's name that serves -/
structure FldOk (f : Option Str) : Prop where
  ns : f ≠ some ("self" : Str)
  nd : ∀ y, f = some y → (y == ("__debug__" : Str)) = false ∧ y ≠ "__class__" ∧ y ≠ "super"
  bd : ∀ (s : Shared) (qual : Str) (p1 p2 : Pos) (body : List Stmt) (doc pm : Value) (an : Option Addr) (cd ct x v : Value) (cc : Addr), BindsTo s (ksFn "__init__" qual (iA f p1 p2) body (iS f) .none .none doc pm an cd ct cc) ⟨x :: args f v, []⟩ (bnd f x v)
theorem fld_deed : FldOk (some "deed") := ⟨fun e => absurd (Option.some.inj e) (by decide), fun y e => by cases e; decide, fun _ _ _ _ _ _ _ _ _ _ _ _ _ => BindsTo.of_eq (by first | rfl | with_unfolding_all rfl)⟩
section
variable {prog : Program} {w : World} {A : Around} {E : Value → Shared → Prop} {R : Result → Shared → Prop} {s : Shared} {K : Frag} {C fI : Addr} {f : Option Str}
/-- what __init__ leaves of a fresh exception at x -/
structure InitEnd (h h' : Heap) (x C t1 : Addr) (f : Option Str) (d : Option Addr) (v : Value) : Prop where
  keep : ∀ b o, b ≠ x → h.get? b = some o → h'.get? b = some o
  obj : h'.get? x = some { cls := .ref C, dict := d, data := .fields #[.ref t1, .none, .none, .none, .bool false, .none] }
  dct : match f, d with
    | none, none => True
    | some y, some dx => h.objs.size ≤ dx ∧ dx ≠ x ∧ h'.Ns1 dx (fun z => if z = y then some v else none)
    | _, _ => False
theorem base_call {h : Heap} {g : Array GenState} {d : Drawn} {t : Nat} {os : OsState} {x t0 u : Addr} {rest : List Value} {Q : Value → Shared → Prop} (T : Txt prog K C fI f) (X : K.In h) (hx : h.get? x = some (excO C t0)) (hu : h.get? u = some (kxs_mw "ValueError.__init__" x)) (hrest : rest.length ≤ sizeLine)
    (hq : ∀ h' t1, (∀ b o, b ≠ x → h.get? b = some o → h'.get? b = some o) → h'.get? x = some (excO C t1) → Q .none ⟨h', g, d, t, os⟩) :
    wpAny (model prog w) A (call (.ref u) rest) Q E ⟨h, g, d, t, os⟩ := by
  obtain ⟨nm, q, N, bs, bm, sn, sub, ab, col, dd, k0, k1, k2, k3, k5, hC, hbm⟩ := T.cls
  have FB := PySem.F.excBase_ValueError
  refine wpAny_call (codeAny_of_tree ?_)
  show wpAny _ A.in1 (callAny (.ref u) ⟨rest, []⟩) _ _ _
  simp only [callAny]
  refine wpAny_bind (wpAny_load hu ?_)
  simp only [kxs_mw, show (Value.type "method-wrapper" == Value.type "method" || Value.type "method-wrapper" == Value.type "builtin_function_or_method" || Value.type "method-wrapper" == Value.type "method-wrapper") = true by decide, if_true]
  refine KFB.if_so (by decide) ?_
  refine wpAny_bind (check_bound_init FB.toExcCallFacts (X _ _ hC) hx rfl ?_)
  refine wpAny_bind (wpAny_pure (wpAny_pure ?_))
  refine ⟨plainId_quiet FB.init.plain _, codeAny_builtin FB.initEntry ?_⟩
  exact exc_init_tree (cls := .ref C) (t0 := t0) (dv := none) (c2 := .none) (c3 := .none) (b4 := .bool false) hx hrest fun h' k e _ => hq h' _ k e
theorem sup_init (T : Txt prog K C fI f) {mg mb : Str → Option Value} {x t0 : Addr} {v : Value} (X : K.In s.heap) (hg : s.heap.Ns mainGlobals mg) (hb : s.heap.Ns builtinsNs mb) (hbb : ∀ x : Str, x ≠ "__name__" → mb x = bootBuiltins x) (hlim : s.heap.NoLimit)
    (hx : s.heap.get? x = some (excO C t0)) (hnx : K.lookup x = none) (hroom : A.depth < recursionLimit)
    (fo : FldOk f)
    (hq : ∀ h' tk t1 d, InitEnd s.heap h' x C t1 f d v → R (.ok (.ret .none)) { s with heap := h', toks := tk }) :
    codeAny (model prog w) A (.call (.ref fI) ⟨.ref x :: args f v, []⟩) R s := by
  obtain ⟨oc, od, doc, pm, an, ct, osl, p1, p2, q0, q1, q2, q3, q4, q5, q6, q7, q8, q9, j, qual, msg, cc, cda, cl, cld, csl, ccl, cdd, vs, ccs, file, tf, ho, hcd, hcell, hcode, hvs, hfile, hpos⟩ := T.fn
  obtain ⟨nm, q, N, bs, bm, sn, sub, ab, col, dd, k0, k1, k2, k3, k5, hC, hbm⟩ := T.cls
  have hcl : clsIn K C = some { name := nm, bases := bs, mro := .ref C :: bm, ns := N, qualname := q, hasDict := true, slotNames := sn, subclasses := sub, abstract := ab, collection := col, hasDel := false } := by unfold clsIn; rw [hC] <;> rfl
  have hf := fo.ns
  have hf2 := fo.nd
  obtain ⟨hp, g, dr, tk, os⟩ := s
  have hxC : x ≠ C := fun z => by rw [z, hC] at hnx; cases hnx
  refine ks_codeAny_call_defAt (fd := ksFn "__init__" qual (iA f p1 p2) (iB msg f j q0 q1 q2 q3 q4 q5 q6 q7 q8 q9) (iS f) .none .none doc pm an (.ref cda) ct cc) (body := iB msg f j q0 q1 q2 q3 q4 q5 q6 q7 q8 q9)
    (binds := bnd f (.ref x) v) hroom (X _ _ ho) rfl hlim (codeRec_of X hcd) rfl ?_ ?_ ?_ (fun h₁ hns k₁ => ?_) rfl rfl rfl
  · exact fo.bd _ _ _ _ _ _ _ _ _ _ _ _ _
  · intro y hy
    cases f with
    | none => simp [iS] at hy; rcases hy with rfl | rfl | rfl <;> simp
    | some z => simp [iS] at hy; rcases hy with rfl | rfl | rfl | rfl <;> simp
  · intro y hy
    cases f with
    | none => simp [bnd] at hy; subst hy; rfl
    | some z =>
      simp [bnd] at hy
      rcases hy with rfl | rfl
      · rfl
      · have e : (z == ("self" : Str)) = false := beq_eq_false_iff_ne.mpr fun q => hf (by rw [q])
        show List.lookup z [("self", NameKind.local), (z, NameKind.local), ("__class__", _), ("super", _)] = _
        simp only [List.lookup_cons, e, beq_self_eq_true]
  have X₁ : K.In h₁ := X.keeps k₁
  have hx₁ := k₁ _ _ hx
  have hself : (bnd f (.ref x) v).reverse.lookup ("self" : Str) = some (.ref x) := by
    cases f with
    | none => rfl
    | some y =>
      have e : (("self" : Str) == y) = false := beq_eq_false_iff_ne.mpr fun q => hf (by rw [q])
      show List.lookup ("self" : Str) [(y, v), ("self", Value.ref x)] = _
      simp only [List.lookup_cons, e]
      rfl
  have nsAt : ∀ {L : Addr} {m : Str → Option Value}, hp.Ns L m → h₁.Ns L m := fun {L m} ⟨o, es, ep, e, r⟩ => ⟨o, es, ep, k₁ _ _ e, r⟩
  have hsz : x < hp.objs.size := Heap.lt_size hx
  have kSu : (ksEnv qual (iS f) hp.objs.size fI (.ref cda) cc).kindOf "super" = some .globalImplicit := by
    cases f with
    | none => rfl
    | some y =>
      obtain ⟨_, _, h3⟩ := hf2 y rfl
      have e : (("super" : Str) == y) = false := beq_eq_false_iff_ne.mpr fun z => h3 z.symm
      show List.lookup ("super" : Str) [("self", _), (y, _), ("__class__", _), ("super", NameKind.globalImplicit)] = _
      simp only [List.lookup_cons, e]
      rfl
  have kCl : (ksEnv qual (iS f) hp.objs.size fI (.ref cda) cc).kindOf "__class__" = some .free := by
    cases f with
    | none => rfl
    | some y =>
      obtain ⟨_, h2, _⟩ := hf2 y rfl
      have e : (("__class__" : Str) == y) = false := beq_eq_false_iff_ne.mpr fun z => h2 z.symm
      show List.lookup ("__class__" : Str) [("self", _), (y, _), ("__class__", NameKind.free), ("super", _)] = _
      simp only [List.lookup_cons, e]
      rfl
  have kSe : (ksEnv qual (iS f) hp.objs.size fI (.ref cda) cc).kindOf "self" = some .local := rfl
  refine ks_wpAt_execs_cons (ks_wpAt_Expr_any (ks_wpAt_MethodCall ?_ (ev_sup msg q0 q1 q2 q3 q4 j _ hpos)))
  refine ks_wpAt_super_base (env := ksEnv qual (iS f) hp.objs.size fI (.ref cda) cc) kSu kCl (by decide +kernel) rfl (X₁ _ _ ho) rfl (ar := { arg := "self", annotation := none, pos := p1 }) rfl rfl (X₁ _ _ hcode) rfl hvs hfile T.top ?_
  refine ks_loadName_global rfl kSu (loadGlobal_builtin (env := ksEnv qual (iS f) hp.objs.size fI (.ref cda) cc) (nsAt hg) (mg_none_of X hg T.noS) (nsAt hb) ((hbb _ (by decide +kernel)).trans (by decide +kernel : bootBuiltins "super" = some (.type "super"))) ⟨rfl, ?_⟩)
  refine wpAny_loadName_free rfl kCl rfl ⟨_, X₁ _ _ hcell, rfl⟩ ?_
  refine wpAny_loadName_local rfl kSe hns hself ?_
  refine ks_wpAny_isType_cls (X₁ _ _ hC) rfl ⟨rfl, ?_⟩
  refine ks_wpAny_call_super (X₁ _ _ hC) rfl hx₁ rfl (fun c e => by cases e) (looks_mroIn X₁ T.msub) (fun h₂ e₂ k₂ => ?_)
  have X₂ : K.In h₂ := X₁.keeps k₂
  have hx₂ := k₂ _ _ hx₁
  have hI : Looks (model prog w) h₂ (isInstance (.ref x) (.type "ValueError")) true := by
    have I : InstAt h₂ x (excO C t0) C none := ⟨hx₂, rfl, rfl, trivial⟩
    exact I.type.andThen (looks_subIn X₂ T.veC)
  have hsup := T.sup
  unfold ks_superIn at hsup
  rw [hcl] at hsup
  refine kxs_getMethod kxs_ValueError e₂ (looks_opaque X₂ T.tp) (l₀ := .ref C :: bm) (fun A Q E s k q => wpAny_bind ((looks_clsIn X₂ hcl) A _ E s k (wpAny_pure q))) rfl X₂ hsup hI hxC (by decide +kernel) ?_
  show wpAny _ _ (callWith q4 (.ref _) [] (backTo q4 (starEach [.Constant (.str msg) j q3] _)) []) _ _ _
  refine kxs_callWith (i := "ValueError.__init__") (x := x) rfl ?_
  refine Calls.evalArgs_plain (spliced_more (Calls.Constant_str (spliced_none ⟨?_, ?_⟩)))
  · exact Heap.get?_push_at rfl rfl
  have hx₃ : (h₂.push (kxs_mw "ValueError.__init__" x)).get? x = some (excO C t0) := Heap.get?_push_of_some _ hx₂
  have X₃ : K.In (h₂.push (kxs_mw "ValueError.__init__" x)) := X₂.keeps fun b o e => Heap.get?_push_of_some _ e
  refine base_call T X₃ hx₃ (Heap.get?_push_at rfl rfl) (one_size _) fun h₄ t₄ k₄ hx₄ => ?_
  have kk : ∀ b o, b ≠ x → hp.get? b = some o → h₄.get? b = some o := fun b o hb e => k₄ b o hb (Heap.get?_push_of_some _ (k₂ b o (k₁ b o e)))
  have X₄ : K.In h₄ := fun b o e => kk b o (fun z => by rw [z, hnx] at e; cases e) (X b o e)
  have hns₄ : h₄.Ns hp.objs.size (fun y => (bnd f (.ref x) v).reverse.lookup y) := by
    obtain ⟨o, es, ep, e, r⟩ := hns
    exact ⟨o, es, ep, k₄ _ _ (fun z => by rw [← z] at hsz; exact absurd hsz (Nat.lt_irrefl _)) (Heap.get?_push_of_some _ (k₂ _ _ e)), r⟩
  cases f with
  | none =>
    refine wpAt_of_wpAny (wpAny_execs_nil ?_)
    exact hq h₄ _ t₄ none ⟨kk, hx₄, trivial⟩
  | some y =>
    refine wpAt_of_wpAny ?_
    show wpAny _ _ (execs [.Assign [.Attribute (.Name "self" q6) y q7] (.Name y q8) q9] _) _ _ _
    refine wpAny_execs_cons (plainObj_wpAny_Assign_Attribute ?_)
    obtain ⟨y1, y2, y3⟩ := hf2 y rfl
    have ys : y ≠ "self" := fun z => hf (by rw [z])
    have hyv : (bnd (some y) (.ref x) v).reverse.lookup y = some v := by simp [bnd, List.lookup]
    have kY : (ksEnv qual (iS (some y)) hp.objs.size fI (.ref cda) cc).kindOf y = some .local := by
      have e : (y == ("self" : Str)) = false := beq_eq_false_iff_ne.mpr ys
      show List.lookup y [("self", NameKind.local), (y, NameKind.local), ("__class__", _), ("super", _)] = _
      simp only [List.lookup_cons, e, beq_self_eq_true]
    refine wpAny_Name (wpAny_loadName_local rfl kY hns₄ hyv ?_) y1
    refine wpAny_Name (wpAny_loadName_local rfl kSe hns₄ hself ?_) (by decide +kernel)
    refine set_plain X₄ (ox := excO C t₄) (od := none) ⟨hx₄, rfl, rfl, trivial⟩ T.sa ?_
    refine HandSPX.exc_osa X₄ hx₄ hcl (show refsVE (.ref C :: bm) = true from hbm) rfl (T.noN y rfl) (fun h₅ tk₅ dx k₅ dn dne hx₅ hn₅ => ?_)
    show wpAny _ _ (execs _ _) _ _ _
    obtain ⟨oL, _, _, eL, _⟩ := hns₄
    have z : hp.objs.size ≤ h₄.objs.size := Nat.le_of_lt (Heap.lt_size eL)
    exact wpAny_execs_nil (hq h₅ tk₅ t₄ (some dx) ⟨fun b o hb e => k₅ b o hb (kk b o hb e), hx₅, Nat.le_trans z dn, dne, hn₅⟩)
end
end Sup
set_option autoImplicit false
set_option linter.all false
set_option maxRecDepth 100000
set_option maxHeartbeats 2000000
namespace Sup
open PySem PySem.W PySem.Calls PyProof.Rows PySem.HandSPX
/-- a made one -/
structure Made (h h' : Heap) (e C : Addr) (f : Option Str) (d : Option Addr) (v : Value) : Prop where
  keep : ∀ b o, h.get? b = some o → h'.get? b = some o
  new : h.objs.size ≤ e
  obj : ∃ oe vs, h'.get? e = some oe ∧ oe.cls = .ref C ∧ oe.dict = d ∧ oe.data = .fields vs ∧ vs[1]? = some .none
  dct : match f, d with
    | none, none => True
    | some y, some dx => h.objs.size ≤ dx ∧ dx ≠ e ∧ h'.Ns1 dx (fun z => if z = y then some v else none)
    | _, _ => False
section
variable {prog : Program} {w : World} {A : Around} {E : Value → Shared → Prop} {R : Result → Shared → Prop} {s : Shared} {K : Frag} {C fI : Addr} {f : Option Str}
theorem args_size (f : Option Str) (v : Value) : (args f v).length ≤ sizeLine := by
  rw [sizeLine_eq]
  cases f <;> simp [args]
theorem made (T : Txt prog K C fI f) (fo : FldOk f) {mg mb : Str → Option Value} {v : Value} (X : K.In s.heap) (hg : s.heap.Ns mainGlobals mg) (hb : s.heap.Ns builtinsNs mb) (hbb : ∀ x : Str, x ≠ "__name__" → mb x = bootBuiltins x) (hlim : s.heap.NoLimit) (hroom : A.depth + 1 < recursionLimit)
    (hq : ∀ h' tk e d, Made s.heap h' e C f d v → R (.ok (.ret (.ref e))) { s with heap := h', toks := tk }) :
    codeAny (model prog w) A (.call (.ref C) ⟨args f v, []⟩) R s := by
  obtain ⟨nm, q, N, bs, bm, sn, sub, ab, col, dd, k0, k1, k2, k3, k5, hC, hbm⟩ := T.cls
  obtain ⟨hp, g, dr, tk, os⟩ := s
  have k : ∀ b o, hp.get? b = some o → ((hp.push (kdv_tup (args f v))).push (excO C hp.objs.size)).get? b = some o := fun b o e => Heap.get?_push_of_some _ (Heap.get?_push_of_some _ e)
  have hget : ((hp.push (kdv_tup (args f v))).push (excO C hp.objs.size)).get? (hp.objs.size + 1) = some (excO C hp.objs.size) := by heap_get
  have hnx : K.lookup (hp.objs.size + 1) = none := by
    cases e : K.lookup (hp.objs.size + 1) with
    | none => rfl
    | some o =>
      have z : hp.get? (hp.objs.size + 1) = some o := X _ _ e
      exact absurd (Nat.lt_of_succ_lt (Heap.lt_size z)) (Nat.lt_irrefl _)
  have nsAt : ∀ {L : Addr} {m : Str → Option Value}, hp.Ns L m → ((hp.push (kdv_tup (args f v))).push (excO C hp.objs.size)).Ns L m := fun {L m} ⟨o, es, ep, e, r⟩ => ⟨o, es, ep, k _ _ e, r⟩
  refine call_own PySem.F.excBase_ValueError (fun X => refsVE_contains X bm hbm) (X _ _ hC) (looks_findIn X T.iC) (fun self => bind_fn X self T.tC) (args_size f v) ?_
  refine sup_init (s := ⟨(hp.push (kdv_tup (args f v))).push (excO C hp.objs.size), g, dr, tk, os⟩) (v := v) T (X.keeps k) (nsAt hg) (nsAt hb) hbb (hlim.keeps k) hget hnx ?_ fo fun h' tk' t1 d ⟨k', hx, hd⟩ => ?_
  · show A.depth + 1 < recursionLimit
    exact hroom
  · have old : ∀ b o, hp.get? b = some o → h'.get? b = some o := fun b o e => k' b o (Nat.ne_of_lt (Nat.lt_succ_of_lt (Heap.lt_size e))) (k b o e)
    have big : hp.objs.size ≤ ((hp.push (kdv_tup (args f v))).push (excO C hp.objs.size)).objs.size := by
      first
        | (simp only [Heap.size_push]; omega)
        | (rw [Heap.size_push, Heap.size_push]; omega)
    refine ⟨rfl, hq h' tk' (hp.objs.size + 1) d ⟨old, Nat.le_succ _, ⟨_, _, hx, rfl, rfl, rfl, rfl⟩, ?_⟩⟩
    cases f <;> cases d <;> first | trivial | exact hd.elim | exact ⟨Nat.le_trans big hd.1, hd.2⟩
end
end Sup
namespace L2
open PySem PySem.Spec PyProof.Rows
theorem relO_one {y : Str} {v : V} {v' : Value} (r : RelV v v') (z : Str) : RelO (List.lookup z [(y, v)]) (if z = y then some v' else none) := by
  by_cases hw : z = y
  · subst hw
    rw [if_pos rfl]
    have q : List.lookup z [(z, v)] = some v := by simp [List.lookup]
    rw [q]
    exact r
  · rw [if_neg hw]
    have qw : (z == y) = false := by simpa using hw
    have q2 : List.lookup z [(y, v)] = none := by simp [List.lookup, qw]
    rw [q2]
    trivial
section
variable {X : Cx} {C fI : Addr}
theorem Inv.nsMain {pins : List (Addr × Obj)} {σ : St} {H : Hp} {s : Shared} (I : Inv X pins σ H s) : s.heap.Ns mainGlobals X.mg ∧ ∃ mb, s.heap.Ns builtinsNs mb ∧ ∀ x : Str, x ≠ "__name__" → mb x = bootBuiltins x := by
  have nsAt : ∀ {L : Addr} {m : Str → Option Value}, X.base.Ns L m → s.heap.Ns L m := fun {L m} ⟨o, es, ep, e, r⟩ => ⟨o, es, ep, (I.bs _ _ e).1, r⟩
  obtain ⟨mb, h1, h2⟩ := I.ok.mod.blt
  exact ⟨nsAt I.ok.mod.glob, mb, nsAt h1, h2⟩
/-- X(..) -/
def MkQ (C : Addr) (vs : List V) (H1 : Hp) (Q : XK) : Option Str → Prop
  | none => vs = [] ∧ Q (.ref C) none H1
  | some y => ∃ v, vs = [v] ∧ ∀ d, H1 d = none → Q (.ref C) (some d) (upd H1 d (.xd [(y, v)]))
def tMk (C : Addr) (f : Option Str) (ta : TA) : St → Hp → XK → Prop := fun σ H Q => ta σ H fun vs H1 => MkQ C vs H1 Q f
theorem mk_end_ {pins : List (Addr × Obj)} {σ : St} {H1 : Hp} {s1 : Shared} {Q : XK} {f : Option Str} {us : List Value} {vs : List V} {k : Nat} (T : Sup.Txt X.prog X.K C fI f) (fo : Sup.FldOk f) (hr : Room k X.A) (I1 : Inv X pins σ H1 s1) (r : Vals vs us)
    (h : MkQ C vs H1 Q f) :
    wpAny (model X.prog X.w) X.A (call (.ref C) us) (MkP X pins σ Q) X.xe s1 := by
  obtain ⟨hgm, mb, hb, hbb⟩ := I1.nsMain
  have hlim := I1.nolimit
  have key : ∃ (v : V) (v' : Value), us = Sup.args f v' ∧ RelV v v' ∧ (match f with
      | none => Q (.ref C) none H1
      | some y => ∀ d, H1 d = none → Q (.ref C) (some d) (upd H1 d (.xd [(y, v)]))) := by
    cases f with
    | none =>
      obtain ⟨rfl, q⟩ := h
      cases r
      exact ⟨.non, .none, rfl, rfl, q⟩
    | some y =>
      obtain ⟨v, rfl, q⟩ := h
      cases r with
      | cons rv rn => cases rn; exact ⟨v, _, rfl, rv, q⟩
  obtain ⟨v, v', rfl, rv, q⟩ := key
  obtain ⟨hp, g, dr, tk, os⟩ := s1
  refine wpAny_call (Sup.made T fo (v := v') I1.kIn hgm hb hbb hlim (by have := hr.dp; omega) fun h' tk' e d M => ?_)
  show MkP X pins σ Q (.ref e) ⟨h', g, dr, tk', os⟩
  obtain ⟨oe, fv, hoe, hc, hd, hdat, h1⟩ := M.obj
  obtain ⟨G', g1, g2⟩ := restrict h' fun b => decide (b ≠ e)
  have gk : ∀ b, b ≠ e → G'.get? b = h'.get? b := fun b hb => g1 b (decide_eq_true hb)
  have ge : G'.get? e = none := g2 e (by simp)
  have old : ∀ b o, hp.get? b = some o → G'.get? b = some o := fun b o q => (gk b (Nat.ne_of_lt (Nat.lt_of_lt_of_le (Heap.lt_size q) M.new))).trans (M.keep b o q)
  have back : ∀ b o, G'.get? b = some o → h'.get? b = some o := fun b o q => by
    by_cases hb : b = e
    · rw [hb, ge] at q; cases q
    · exact (gk b hb).symm.trans q
  have M5 := M.dct
  cases f with
  | none =>
    cases d with
    | some _ => exact M5.elim
    | none =>
      have J : Inv X pins σ H1 ⟨G', g, dr, tk', os⟩ := I1.kept (t' := tk') old
      exact ⟨e, oe, fv, ⟨G', g, dr, tk', os⟩, _, .ref C, none, rfl, J, back, ge, hoe, ⟨hc, hd⟩, hdat, h1, I1.hok.fresh M.new, rfl, I1.bare, raises_own T.exC T.tyC, q⟩
  | some y =>
    cases d with
    | none => exact M5.elim
    | some dx =>
      obtain ⟨dbig, dne, hns⟩ := M5
      have ob : ObjOk X.prog X.w (upd H1 dx (.xd [(y, v)])) G' dx (.xd [(y, v)]) := ⟨_, hns.at (fun o q => (gk dx dne).trans q), fun z => relO_one rv z⟩
      have J : Inv X pins σ (upd H1 dx (.xd [(y, v)])) ⟨G', g, dr, tk', os⟩ := I1.laid (t' := tk') old dbig ob
      refine ⟨e, oe, fv, ⟨G', g, dr, tk', os⟩, _, .ref C, some dx, rfl, J, back, ge, hoe, ⟨hc, hd⟩, hdat, h1, ?_, rfl, I1.bare, raises_own T.exC T.tyC, q dx (I1.hok.fresh dbig)⟩
      rw [upd_ne (Ne.symm dne)]
      exact I1.hok.fresh M.new
theorem pmk_sup1 {f : Option Str} {x : Str} {a : Expr} {ta : TA} {p pos : Pos} {k : Nat} (T : Sup.Txt X.prog X.K C fI f) (fo : Sup.FldOk f) (hr : Room k X.A) (ha : PA X [a] ta) (hg : Gl X x) (hm : X.mg x = some (.ref C)) (hdb : (x == ("__debug__" : Str)) = false)
    (he : starEach (a :: []) X.env = (false, eval a X.env) :: starEach [] X.env) :
    PMk X (.Call (.Name x p) [a] [] pos) (tMk C f ta) := by
  intro pins s σ H Q I h
  refine wpAny_Call_Name_kw (ld_glob I hg hm ?_ hdb)
  refine PySem.W.callWith_K (h₀ := X.base) I.ok.mod.kin T.kC (thn (ha.run pos pins s σ H _ I h) fun us s1 hh => ?_) he rfl
  obtain ⟨vs, H1, I1, r1, q⟩ := hh
  exact ⟨I1.kIn, mk_end_ T fo hr I1 r1 q⟩
theorem pmk_sup0 {f : Option Str} {x : Str} {p pos : Pos} {k : Nat} (T : Sup.Txt X.prog X.K C fI f) (fo : Sup.FldOk f) (hr : Room k X.A) (hg : Gl X x) (hm : X.mg x = some (.ref C)) (hdb : (x == ("__debug__" : Str)) = false) :
    PMk X (.Call (.Name x p) [] [] pos) (tMk C f tNil) := by
  intro pins s σ H Q I h
  refine wpAny_Call_Name_kw (ld_glob I hg hm ?_ hdb)
  refine PySem.W.callWith_K0 I.kIn T.kC ?_
  exact mk_end_ T fo hr I .nil h
end
end L2
set_option autoImplicit false
set_option linter.all false
namespace Ev
open PySem
/-- an expression that may raise -/
inductive Xe where
  | pln (c : C) | call (f : Nat) (es : List C) | calk (f : Nat) (es ks : List C) (g : List Nat)
  | ife (c : C) (a b : Xe) | lst (es : List C) (x : Xe)
  | cmp (o : CmpOp) (x : Xe) (c : C) | andl (x : Xe) (c : C)
/-- what an except suite tells -/
inductive Hx where
  | str (s : Str) | fld (f : Str) | isa
inductive Sx where
  | pln (s : St) | rse (x : Str) (f : Option Str) (es : List C) | asg (i : Nat) (x : Xe) | parx (i j : Nat) (x : Xe) (c : C) | ret (x : Xe) | exp (x : Xe)
  | iff (c : C) (a b : List Sx) | fr (p : Pt) (k : K) (src : List C) (b : List Sx) | tri (b : List Sx) (x : Str) (i : Nat) (h : List Hx) | trc (b : List Sx) (x : Str) (i : Nat) (f w : Str) (k : Nat)
inductive RX where
  | ok (f : Fl) | ex (e : Exn) (r : Env) (S : Sto) | no
/-- nothing is raised in it -/
def noE {α : Type} : R α → R α
  | .ok a => .ok a
  | _ => .no
@[simp] theorem noE_ok {α : Type} (a : α) : noE (R.ok a) = .ok a := (rfl)
@[simp] theorem noE_no {α : Type} : noE (R.no : R α) = .no := (rfl)
@[simp] theorem bi_err {α β : Type} (e : Exn) (S : Sto) (f : α → R β) : (R.err e S : R α).bi f = .err e S := (rfl)
def RX.of {α : Type} (r : Env) (m : R α) (k : α → RX) : RX := match m with
  | .ok a => k a
  | .err e S => .ex e r S
  | .no => .no
@[simp] theorem of_ok {α : Type} (r : Env) (a : α) (k : α → RX) : RX.of r (.ok a) k = k a := (rfl)
@[simp] theorem of_err {α : Type} (r : Env) (e : Exn) (S : Sto) (k : α → RX) : RX.of r (.err e S) k = .ex e r S := (rfl)
@[simp] theorem of_no {α : Type} (r : Env) (k : α → RX) : RX.of r .no k = .no := (rfl)
def excO (x : Str) (f : Option Str) (ds : List D) : Option Exn := match f, ds with
  | none, [] => some ⟨x, []⟩
  | some y, [d] => some ⟨x, [(y, d)]⟩
  | _, _ => none
def evHx (e : Exn) : Hx → Option D
  | .str s => some (.str s)
  | .fld f => e.fs.lookup f
  | .isa => some (.bl true)
/-- a field of the error against a pair of a text and a value -/
noncomputable def cmpFld (e : Exn) (r : Env) (S : Sto) (f w : Str) (k : Nat) : Option Bool := match e.fs.lookup f, r[k]? with
  | some d, some (some d2) => (match eqD d (.tup [.str w, d2]) S with
    | .ok t => some t
    | _ => none)
  | _, _ => none
section
variable (F : Nat → List D → Sto → R (D × Sto))
noncomputable def evLX (x : Env → Sto → R (D × Sto)) : List C → Env → Sto → R (List D × Sto)
  | [], r, S => (x r S).bi fun p => .ok ([p.1], p.2)
  | c :: cs, r, S => (noE (ev F c r S)).bi fun p => (evLX x cs r p.2).bi fun q => .ok (p.1 :: q.1, q.2)
noncomputable def evXe : Xe → Env → Sto → R (D × Sto)
  | .pln c, r, S => noE (ev F c r S)
  | .call f es, r, S => (noE (evL F es r S)).bi fun p => F f p.1 p.2
  | .calk f es ks g, r, S => (noE (evL F es r S)).bi fun p => (noE (evL F ks r p.2)).bi fun q => (opt (perm g (p.1 ++ q.1))).bi fun ds => F f ds q.2
  | .ife c a b, r, S => (noE (evT F c r S)).bi fun p => if p.1 = true then evXe a r p.2 else evXe b r p.2
  | .lst es x, r, S => (evLX F (evXe x) es r S).bi fun p => .ok (.loc p.2.length, p.2 ++ [.lst p.1])
  | .cmp o x c, r, S => (evXe x r S).bi fun p => (noE (ev F c r p.2)).bi fun q => (noE (cmpD o p.1 q.1 q.2)).bi fun t => .ok (.bl t, q.2)
  | .andl x c, r, S => (evXe x r S).bi fun p => (noE (tru p.1 p.2)).bi fun t => if t = true then noE (ev F c r p.2) else .ok p
open Classical in
noncomputable def frX (g : G) (p : Pt) (b : Env → Sto → RX) : List D → Env → Sto → RX
  | [], r, S => if gok g S then .ok (.nx r S) else .no
  | d :: ds, r, S => if gok g S then (match bindP p d r with
      | none => .no
      | some r1 => match b r1 S with
        | .ok (.nx r' S') => frX g p b ds r' S'
        | .ok (.ct r' S') => frX g p b ds r' S'
        | .ok (.bk r' S') => .ok (.nx r' S')
        | .ok (.rt d S') => .ok (.rt d S')
        | .ex e r' S' => .ex e r' S'
        | .no => .no) else .no
mutual
noncomputable def evX : Sx → Env → Sto → RX
  | .pln s, r, S => .of r (noE (evS F s r S)) .ok
  | .rse x f es, r, S => .of r (noE (evL F es r S)) fun p => match excO x f p.1 with
    | some e => .ex e r p.2
    | none => .no
  | .asg i x, r, S => .of r (evXe F x r S) fun z => .ok (.nx (r.set i (some z.1)) z.2)
  | .parx i j x c, r, S => .of r (evXe F x r S) fun z => .of r (noE (ev F c r z.2)) fun q => .ok (.nx ((r.set i (some z.1)).set j (some q.1)) q.2)
  | .ret x, r, S => .of r (evXe F x r S) fun z => .ok (.rt z.1 z.2)
  | .exp x, r, S => .of r (evXe F x r S) fun z => .ok (.nx r z.2)
  | .iff c a b, r, S => .of r (noE (evT F c r S)) fun t => if t.1 = true then evXs a r t.2 else evXs b r t.2
  | .fr p k src b, r, S => .of r (noE (evL F src r S)) fun z => .of r (noE (srcD k z.1 z.2)) fun it => frX it.2 p (evXs b) it.1 r z.2
  | .tri b x i h, r, S => match evXs b r S with
    | .ex e r' S' => if e.cls = x ∧ i < r'.length then (match mapO (evHx e) h with
      | some ds => .ok (.rt (.loc S'.length) (S' ++ [.lst ds]))
      | none => .no) else .no
    | z => z
  | .trc b x i f w k, r, S => match evXs b r S with
    | .ex e r' S' => if e.cls = x ∧ i < r'.length ∧ k ≠ i then (match cmpFld e r' S' f w k with
      | some t => .ok (.rt (.bl t) S')
      | none => .no) else .no
    | z => z
noncomputable def evXs : List Sx → Env → Sto → RX
  | [], r, S => .ok (.nx r S)
  | s :: ss, r, S => match evX s r S with
    | .ok (.nx r' S') => evXs ss r' S'
    | z => z
end
end
/-- the value that an error carries -/
def exD (e : Exn) : D := match e.fs with
  | [(_, d)] => d
  | _ => .non
structure FnX where
  np : Nat
  nn : Nat
  body : List Sx
noncomputable def runX (F : Nat → List D → Sto → R (D × Sto)) (f : FnX) (ds : List D) (S : Sto) : R (D × Sto) :=
  when (ds.length = f.np) (match evXs F f.body (ds.map some ++ List.replicate (f.nn - f.np) none) S with
    | .ok (.rt d S1) => .ok (d, trim S S1 d)
    | .ok (.nx _ S1) => .ok (.non, trim S S1 .non)
    | .ex e _ S1 => .err e (trim S S1 (exD e))
    | _ => .no)
/-- a def: plain, or one that may raise -/
inductive FnE where
  | pl (f : Fn) | xs (f : FnX)
noncomputable def callX (T : Nat → Option FnE) : Nat → Nat → List D → Sto → R (D × Sto)
  | 0, _, _, _ => .no
  | l + 1, f, ds, S => match T f with
    | some (.pl d) => runFn (callX T l) d ds S
    | some (.xs d) => runX (callX T l) d ds S
    | none => .no
end Ev
set_option autoImplicit false
set_option linter.all false
namespace Ev
open PySem
open L2
/-- what the written part says of an error's class -/
structure ClsX (prog : Program) (K : PySem.W.Frag) (mg : Str → Option Value) (x : Str) (f : Option Str) (C fI : Addr) : Prop where
  cm : mg x = some (.ref C)
  txt : Sup.Txt prog K C fI f
  fo : Sup.FldOk f
  exm : PySem.W.exmOne K (.ref C) (.ref C) = some true
  cl : (PySem.W.clsIn K C).isSome = true
  kl : PySem.W.findIn K (.ref C) "__class__" = some (some (.builtin "object.__class__"))
  kg : PySem.W.specialIn K (.builtin "object.__class__") "__get__" = some (some (.builtin "getset_descriptor.__get__"))
  kt : PySem.W.takesIn K (.builtin "object.__class__") = some true
  km : PySem.W.mroIn K C (.type "object") = some true
  root : ∃ CR, mg "RoomError" = some (.ref CR) ∧ PySem.W.kitOne K (.ref C) (.ref CR) = some true
/-- an error stands for what is told of it -/
def ExR (prog : Program) (K : PySem.W.Frag) (mg : Str → Option Value) (H : Hp) (m : List Addr) (e : Exn) (cls : Value) (d : Option Addr) : Prop :=
  ∃ f C fI, ClsX prog K mg e.cls f C fI ∧ cls = .ref C ∧ ((f = none ∧ e.fs = [] ∧ d = none) ∨ ∃ y dv dd v, f = some y ∧ e.fs = [(y, dv)] ∧ d = some dd ∧ H dd = some (.xd [(y, v)]) ∧ RepD K H m dv v)
/-- what is wanted behind an expression that may raise -/
def PR (X : Cx) (W : WX) (σ : L2.St) (H : Hp) (m : List Addr) {α β : Type} (rep : Hp → List Addr → α → β → Prop) (Q : β → Hp → Prop) : R (α × Sto) → Prop
  | .ok p => ∀ v H' m', Up H m H' m' → rep H' m' p.1 v → RSt X.K H' m' p.2 → Q v H'
  | .err e S' => ∀ H' m' cls d, Up H m H' m' → RSt X.K H' m' S' → ExR X.prog X.K X.mg H' m' e cls d → W cls d σ H'
  | .no => False
theorem PR.up {X : Cx} {W : WX} {σ : L2.St} {H H1 : Hp} {m m1 : List Addr} {α β : Type} {rep : Hp → List Addr → α → β → Prop} {Q : β → Hp → Prop} {e : R (α × Sto)} (u : Up H m H1 m1) (p : PR X W σ H m rep Q e) : PR X W σ H1 m1 rep Q e := by
  cases e with
  | ok a => exact fun v H' m' u' => p v H' m' (u.trans u')
  | err e S' => exact fun H' m' cls d u' => p H' m' cls d (u.trans u')
  | no => exact p.elim
theorem pr_noE {X : Cx} {W : WX} {σ : L2.St} {H : Hp} {m : List Addr} {α β γ : Type} {rep : Hp → List Addr → α → β → Prop} {Q : β → Hp → Prop} {z : R γ} {f : γ → R (α × Sto)} (p : PR X W σ H m rep Q ((noE z).bi f)) : ∃ a, z = .ok a ∧ PR X W σ H m rep Q (f a) := by
  cases z with
  | ok a => exact ⟨a, rfl, p⟩
  | err e S' => exact p.elim
  | no => exact p.elim
theorem pr_opt {X : Cx} {W : WX} {σ : L2.St} {H : Hp} {m : List Addr} {α β γ : Type} {rep : Hp → List Addr → α → β → Prop} {Q : β → Hp → Prop} {z : Option γ} {f : γ → R (α × Sto)} (p : PR X W σ H m rep Q ((opt z).bi f)) : ∃ a, z = some a ∧ PR X W σ H m rep Q (f a) := by
  cases z with
  | some a => exact ⟨a, rfl, p⟩
  | none => exact p.elim
def tXe (X : Cx) (W : WX) (ev : Env → Sto → R (D × Sto)) : TE := fun σ H Q => ∃ r S m, REnv X.K H m r σ ∧ RSt X.K H m S ∧ PR X W σ H m (RepD X.K) Q (ev r S)
def tXL (X : Cx) (W : WX) (ev : Env → Sto → R (List D × Sto)) : TA := fun σ H Q => ∃ r S m, REnv X.K H m r σ ∧ RSt X.K H m S ∧ PR X W σ H m (RepL X.K) Q (ev r S)
/-- a def's promise where it may raise -/
def spX (prog : Program) (K : PySem.W.Frag) (mg : Str → Option Value) (F : Nat → List D → Sto → R (D × Sto)) (i : Nat) : Sp := fun vs H Q E => ∃ S m ds, RepL K H m ds vs ∧ RSt K H m S ∧ match F i ds S with
  | .ok p => ∀ v H' m', Up H m H' m' → RepD K H' m' p.1 v → RSt K H' m' p.2 → Q v H'
  | .err e S' => ∀ H' m' cls d, Up H m H' m' → RSt K H' m' S' → ExR prog K mg H' m' e cls d → E cls d H'
  | .no => False
structure FnP (P : Program) (w : World) (K : PySem.W.Frag) (mg : Str → Option Value) (base : Heap) (k : Nat) (f : Addr) (fd : FuncData) (ps : List Str) (sp : Sp) : Prop where
  len : ∀ vs H Q E, sp vs H Q E → vs.length = ps.length
  run : ∀ (A : Around) (outer : List PySem.Env) (s : Shared) (H : Hp) (args : Args) (us : List Value) (vs : List V) (Q : VK) (E : XK), Room k A → A.guards = some [] →
    Env0 P w K mg base A outer s H → BindsTo s fd args (ps.zip us) → Vals vs us → sp vs H Q E → codeAny (model P w) A (.call (.ref f) args) (CR (L2.CX P w) outer P w H s Q E) s
section
variable {X : Cx} {k : Nat} {f : Addr} {fd : FuncData} {ps ks : List Str} {sp : Sp} {x : Str} {p pos : Pos} {e : Expr} {es : List Expr} {t tk : TA} {kws : List Keyword} {W : WX}
theorem callK_P {pins : List (Addr × Obj)} {σ : L2.St} {H : Hp} {s : Shared} {Q : VK} {us ws : List Value} {kw : List (Str × Value)} {vs : List V} (F : FnP X.prog X.w X.K X.mg X.base k f fd ps sp) (tk : Takes X W) (hr : Room k X.A) (hg : X.A.guards = some [])
    (I : Inv X pins σ H s) (hb : ws.length = ps.length → BindsTo s fd ⟨us, kw⟩ (ps.zip ws)) (r : Vals vs ws) (h : sp vs H Q (WE W σ)) : wpAny (model X.prog X.w) X.A (call (.ref f) us kw) (EP X pins σ Q) X.xe s := by
  have hl : ws.length = ps.length := by rw [← r.length]; exact F.len _ _ _ _ h
  refine wpAny_call (codeAny_mono (F.run X.A X.stack s H ⟨us, kw⟩ ws vs Q (WE W σ) hr hg I.env0 (hb hl) r h) fun r s' hq => ?_)
  match r with
  | .error e => exact passAt tk σ pins H s e s' I hq
  | .ok (.ret u) => exact I.after hq
  | .ok .next => exact False.elim hq
  | .ok .brk => exact False.elim hq
  | .ok .cont => exact False.elim hq
def tCallX (sp : Sp) (W : WX) (t : TA) : TE := fun σ H Q => t σ H fun vs H1 => sp vs H1 Q (WE W σ)
theorem pe_callX (F : FnP X.prog X.w X.K X.mg X.base k f fd ps sp) (tk : Takes X W) (hr : Room k X.A) (hgd : X.A.guards = some []) (hg : Gl X x) (hm : X.mg x = some (.ref f)) (hk : PySem.W.keepIn X.K (.ref f) = true) (hb : Binds X.K fd ps [])
    (ha : PA X es t) (hne : es ≠ []) (hst : ∀ e ∈ es, ∀ r env, starEach (e :: r) env = (false, eval e env) :: starEach r env) (hpl : ∀ env, (backTo pos (starEach es env)).any (·.1) = false) (hdb : (x == ("__debug__" : Str)) = false) :
    PE X (.Call (.Name x p) es [] pos) (tCallX sp W t) := by
  refine ⟨fun pins s σ H Q I h => wpAny_Call_Name_kw (ld_glob I hg hm ?_ hdb)⟩
  cases es with
  | nil => exact absurd rfl hne
  | cons e es =>
    have he := fun env => hst e List.mem_cons_self es env
    refine PySem.W.callWith_K (h₀ := X.base) I.ok.mod.kin hk (thn (ha.run pos pins s σ H _ I h) fun us s1 ⟨vs, H1, I1, r, q⟩ => ⟨I1.kIn, ?_⟩) (he _) (by
      have := hpl X.env
      rw [he] at this
      exact this)
    refine callK_P F tk hr hgd I1 (fun hl => ?_) r q
    have hb' := hb s1 us I1.kIn (by simpa using hl)
    simpa using hb'
theorem pe_callX0 (F : FnP X.prog X.w X.K X.mg X.base k f fd ps sp) (tk : Takes X W) (hr : Room k X.A) (hgd : X.A.guards = some []) (hg : Gl X x) (hm : X.mg x = some (.ref f)) (hk : PySem.W.keepIn X.K (.ref f) = true) (hb : Binds X.K fd ps [])
    (hdb : (x == ("__debug__" : Str)) = false) : PE X (.Call (.Name x p) [] [] pos) (tCallX sp W tNil) := by
  refine ⟨fun pins s σ H Q I h => wpAny_Call_Name_kw (ld_glob I hg hm ?_ hdb)⟩
  refine PySem.W.callWith_K0 I.kIn hk ?_
  refine callK_P (us := []) (ws := []) F tk hr hgd I (fun hl => ?_) .nil h
  exact hb s [] I.kIn (by simpa using hl)
def tCallXK (sp : Sp) (gV : List V → List V → List V) (W : WX) (t tk : TA) : TE := fun σ H Q => t σ H fun vs H1 => tk σ H1 fun zs H2 => sp (gV vs zs) H2 Q (WE W σ)
theorem pe_callXK {g : List Value → List Value → List Value} {gV : List V → List V → List V} (F : FnP X.prog X.w X.K X.mg X.base k f fd ps sp) (tkx : Takes X W) (hr : Room k X.A) (hgd : X.A.guards = some []) (hg : Gl X x) (hm : X.mg x = some (.ref f)) (hk : PySem.W.keepIn X.K (.ref f) = true)
    (hb : ∀ (s : Shared) (us ws : List Value), X.K.In s.heap → us.length = es.length → ws.length = kws.length → (g us ws).length = ps.length → BindsTo s fd ⟨us, ks.zip ws⟩ (ps.zip (g us ws)))
    (hr2 : ∀ {vs : List V} {us : List Value} {zs : List V} {ws : List Value}, Vals vs us → Vals zs ws → Vals (gV vs zs) (g us ws))
    (ha : PA X es t) (hle : ∀ σ H Q, t σ H Q → t σ H fun vs H1 => vs.length = es.length ∧ Q vs H1) (hkw : PK X kws tk) (hlk : ∀ σ H Q, tk σ H Q → tk σ H fun vs H1 => vs.length = kws.length ∧ Q vs H1)
    (hall : ∀ env, (backToKw pos (keywordEach kws env)).all (·.1.isSome) = true) (hks : ∀ env, (backToKw pos (keywordEach kws env)).filterMap (·.1) = ks) (hno : ∀ env, (backToKw pos (keywordEach kws env)).any (·.1.isNone) = false)
    (hst : ∀ e ∈ es, ∀ r env, starEach (e :: r) env = (false, eval e env) :: starEach r env) (hpl : ∀ env, (backTo pos (starEach es env)).any (·.1) = false) (hdb : (x == ("__debug__" : Str)) = false)
    (hnil : es = [] → ∀ σ H Q, t σ H Q → Q [] H) :
    PE X (.Call (.Name x p) es kws pos) (tCallXK sp gV W t tk) := by
  refine ⟨fun pins s σ H Q I h => wpAny_Call_Name_kw (ld_glob I hg hm ?_ hdb)⟩
  have fin : ∀ {us : List Value} {vs : List V} {s1 : Shared} {H1 : Hp}, Inv X pins σ H1 s1 → Vals vs us → us.length = es.length → (tk σ H1 fun zs H2 => sp (gV vs zs) H2 Q (WE W σ)) →
      wpAny (model X.prog X.w) X.A (evalAll ((backToKw pos (keywordEach kws X.env)).map (·.2))) (fun ws s2 => X.K.In s2.heap ∧ wpAny (model X.prog X.w) X.A (call (.ref f) us (((backToKw pos (keywordEach kws X.env)).filterMap (·.1)).zip ws)) (EP X pins σ Q) X.xe s2) X.xe s1 := fun {us vs s1 H1} I1 r hl q => by
    refine thn (hkw.run pos pins s1 σ H1 _ I1 (hlk _ _ _ q)) fun ws s2 ⟨zs, H2, I2, rz, hz, q2⟩ => ⟨I2.kIn, ?_⟩
    rw [hks]
    exact callK_P F tkx hr hgd I2 (fun hw => hb s2 us ws I2.kIn hl (by rw [← rz.length]; exact hz) hw) (hr2 r rz) q2
  cases es with
  | nil =>
    refine PySem.W.callWith_KW0 (h₀ := X.base) I.ok.mod.kin hk (hall _) ?_ (by rw [hno]; rfl)
    exact fin (us := []) I .nil rfl (hnil rfl _ _ _ h)
  | cons e es =>
    have he := fun env => hst e List.mem_cons_self es env
    refine PySem.W.callWith_KW (h₀ := X.base) I.ok.mod.kin hk (hall _) (thn (ha.run pos pins s σ H _ I (hle _ _ _ h)) fun us s1 ⟨vs, H1, I1, r, hl, q⟩ => fin (us := us) I1 r (r.length.symm.trans hl) q) (by rw [hpl, hno]; rfl) (he _)
end
def hasX (g : Ctx) (xf : List Nat) : Nat → Expr → Bool
  | 0, _ => false
  | n + 1, e => match e with
    | .Call (.Name x _) _ _ _ => (match g.gl.lookup x with
      | some (.fn i _) => xf.contains i
      | _ => false)
    | .IfExp _ a b _ => hasX g xf n a || hasX g xf n b
    | .List es _ => es.any (hasX g xf n)
    | .Compare a _ _ _ => hasX g xf n a
    | .BoolOp _ (a :: _) _ => hasX g xf n a
    | _ => false
/-- all but the last, and the last -/
def cLast (g : Ctx) (sc : Scope) (cx : Expr → Option Xe) : List Expr → Option (List C × Xe)
  | [] => none
  | [e] => if isStar e = true then none else (cx e).map fun x => ([], x)
  | e :: es => (cE g 60 sc e).bind fun c => (cLast g sc cx es).map fun p => (c :: p.1, p.2)
def cXe (g : Ctx) (xf : List Nat) : Nat → Scope → Expr → Option Xe
  | 0, _, _ => none
  | n + 1, sc, e => if hasX g xf (n + 1) e = false then (cE g 60 sc e).map .pln else match e with
    | .IfExp c a b _ => (cE g 60 sc c).bind fun z => (cXe g xf n sc a).bind fun x => (cXe g xf n sc b).bind fun y => some (.ife z x y)
    | .List es _ => if 1000 < es.length then none else (cLast g sc (cXe g xf n sc) es).map fun p => .lst p.1 p.2
    | .Call f as kws _ => if as.any isStar = true then none else (match f with
      | .Name x _ => if dunder x = true then none else (match scK sc x with
        | some .globalImplicit => (match g.gl.lookup x with
          | some (.fn i ps) => if xf.contains i = true then (mapO (cE g 60 sc) as).bind fun es => (match kws with
            | [] => some (.call i es)
            | kws => (kwNames kws).bind fun ks => if (i, as.length, ks) ∈ g.kw then (mapO (fun k => cE g 60 sc k.value) kws).bind fun zs => (permOf ps as.length ks).bind fun gp => some (.calk i es zs gp) else none) else none
          | _ => none)
        | _ => none)
      | _ => none)
    | .Compare a os bs _ => (match os, bs with
      | [o], [b] => if behindInMarks o b = true then none else (cXe g xf n sc a).bind fun x => (cE g 60 sc b).bind fun y => some (.cmp o x y)
      | _, _ => none)
    | .BoolOp o vs pos => (match o, vs with
      | .And, a :: b :: r => (cXe g xf n sc a).bind fun x => (cE g 60 sc (.BoolOp .And (b :: r) pos)).bind fun y => some (.andl x y)
      | _, _ => none)
    | _ => none
section
variable {X : Cx} {g : Ctx} {F : Nat → List D → Sto → R (D × Sto)} {l : Nat} {sc : Scope} {xf : List Nat} {W : WX}
/-- facts beside Gd where errors are about -/
structure GX (X : Cx) (g : Ctx) (F : Nat → List D → Sto → R (D × Sto)) (l : Nat) (xf : List Nat) (xc : List (Str × Option Str)) : Prop where
  fn : ∀ x i ps, g.gl.lookup x = some (.fn i ps) → xf.contains i = true → ∃ f fd, FnAt X g F l x i ps f fd ∧ FnP X.prog X.w X.K X.mg X.base l f fd ps (spX X.prog X.K X.mg F i)
  cl : ∀ x f, xc.lookup x = some f → ∃ C fI, ClsX X.prog X.K X.mg x f C fI
  hs : X.stack = X.env :: X.outer
  hf : X.env.frame = some X.env.locals
theorem ifeX {c a b : Expr} {pos : Pos} {z : C} {x y : Xe} (hc : PT X c (tT X.K (evT F z))) (ha : PE X a (tXe X W (evXe F x))) (hb : PE X b (tXe X W (evXe F y))) : PE X (.IfExp c a b pos) (tXe X W (evXe F (.ife z x y))) := by
  refine (pe_ifExp hc ha hb).imp fun σ H Q q => ?_
  obtain ⟨r, S, m, h1, h2, h3⟩ := q
  simp only [evXe] at h3
  obtain ⟨t, e1, h3⟩ := pr_noE h3
  refine ⟨r, S, m, t.1, t.2, h1, h2, e1, fun H' m' u st => ?_⟩
  cases ht : t.1 with
  | true =>
    rw [ht, if_pos rfl] at h3
    rw [if_pos rfl]
    exact ⟨r, t.2, m', h1.up u, st, h3.up u⟩
  | false =>
    rw [ht, if_neg Bool.false_ne_true] at h3
    rw [if_neg Bool.false_ne_true]
    exact ⟨r, t.2, m', h1.up u, st, h3.up u⟩
theorem cmpX (G : Gd X g F l sc) {a b : Expr} {o : CmpOp} {pos : Pos} {x : Xe} {c : C} (hm : behindInMarks o b = false) (ha : PE X a (tXe X W (evXe F x))) (hb : PE X b (tE X.K (ev F c))) : PE X (.Compare a [o] [b] pos) (tXe X W (evXe F (.cmp o x c))) := by
  refine (pe_cmpR (opR_cmp G.hu o) ha hb hm).imp fun σ H Q q => ?_
  obtain ⟨r, S, m, h1, h2, h3⟩ := q
  simp only [evXe] at h3
  refine ⟨r, S, m, h1, h2, ?_⟩
  cases q : evXe F x r S with
  | ok p =>
    rw [q, bi_ok] at h3
    obtain ⟨z, k1, h3⟩ := pr_noE h3
    obtain ⟨t, k2, h3⟩ := pr_noE h3
    intro v H1 m1 u1 rd1 st1
    exact ⟨r, p.2, m1, z.1, z.2, h1.up u1, st1, k1, fun v2 H2 m2 u2 rd2 st2 => cmD_cmp o H2 m2 z.2 p.1 z.1 v v2 t _ st2 (RepD.up u2 _ _ rd1) rd2 k2 (h3 _ _ _ (u1.trans u2) (mk_bl _) st2)⟩
  | err e S' => rw [q] at h3; exact h3
  | no => rw [q] at h3; exact h3
theorem andX {a b : Expr} {rest : List Expr} {pos : Pos} {x : Xe} {c : C} (ha : PE X a (tXe X W (evXe F x))) (hb : PE X (.BoolOp .And (b :: rest) pos) (tE X.K (ev F c))) : PE X (.BoolOp .And (a :: b :: rest) pos) (tXe X W (evXe F (.andl x c))) := by
  refine (pe_andT ha hb).imp fun σ H Q q => ?_
  obtain ⟨r, S, m, h1, h2, h3⟩ := q
  simp only [evXe] at h3
  refine ⟨r, S, m, h1, h2, ?_⟩
  cases q : evXe F x r S with
  | ok p =>
    rw [q, bi_ok] at h3
    obtain ⟨t, k1, h3⟩ := pr_noE h3
    intro v H1 m1 u1 rd1 st1
    refine ⟨t, tru_ok' st1 rd1 k1, ?_⟩
    cases t with
    | true =>
      rw [if_pos rfl] at h3 ⊢
      cases q2 : ev F c r p.2 with
      | ok z =>
        rw [q2] at h3
        exact ⟨r, p.2, m1, z.1, z.2, h1.up u1, st1, q2, fun v2 H2 m2 u2 rd2 st2 => h3 _ _ _ (u1.trans u2) rd2 st2⟩
      | err e S' => rw [q2] at h3; exact h3.elim
      | no => rw [q2] at h3; exact h3.elim
    | false =>
      rw [if_neg Bool.false_ne_true] at h3 ⊢
      exact h3 _ _ _ u1 rd1 st1
  | err e S' => rw [q] at h3; exact h3
  | no => rw [q] at h3; exact h3
theorem plnX {e : Expr} {c : C} (h : PE X e (tE X.K (ev F c))) : PE X e (tXe X W (evXe F (.pln c))) := by
  refine h.imp fun σ H Q q => ?_
  obtain ⟨r, S, m, h1, h2, h3⟩ := q
  simp only [evXe] at h3
  cases q : ev F c r S with
  | ok p =>
    rw [q] at h3
    exact ⟨r, S, m, p.1, p.2, h1, h2, q, h3⟩
  | err e S' => rw [q] at h3; exact h3.elim
  | no => rw [q] at h3; exact h3.elim
theorem lastX {n : Nat} (ihE : ∀ e c, cE g 60 sc e = some c → PE X e (tE X.K (ev F c))) (ih : ∀ e x, cXe g xf n sc e = some x → PE X e (tXe X W (evXe F x))) :
    ∀ (es : List Expr) (p : List C × Xe), cLast g sc (cXe g xf n sc) es = some p → PA X es (tXL X W (evLX F (evXe F p.2) p.1))
  | [], p, h => by cases h
  | [e], p, h => by
    simp only [cLast] at h
    split at h
    · cases h
    · rename_i hs
      obtain ⟨x, e1, rfl⟩ := Option.map_eq_some_iff.mp h
      refine (pa_cons (ih _ _ e1) pa_nil (star_no (by simpa using hs) _ _)).imp fun σ H Q q => ?_
      obtain ⟨r, S, m, h1, h2, h3⟩ := q
      simp only [evLX] at h3
      refine ⟨r, S, m, h1, h2, ?_⟩
      cases q : evXe F x r S with
      | ok p =>
        rw [q] at h3
        exact fun v H' m' u rd st => h3 [v] H' m' u (RepL.one rd) st
      | err e S' => rw [q] at h3; exact h3
      | no => rw [q] at h3; exact h3
  | e :: e2 :: es, p, h => by
    simp only [cLast] at h
    obtain ⟨c, e1, h⟩ := Option.bind_eq_some_iff.mp h
    obtain ⟨p', e3, rfl⟩ := Option.map_eq_some_iff.mp h
    refine (pa_cons (ihE _ _ e1) (lastX ihE ih (e2 :: es) p' e3) (star_no (cE_star e1) _ _)).imp fun σ H Q q => ?_
    obtain ⟨r, S, m, h1, h2, h3⟩ := q
    simp only [evLX] at h3
    obtain ⟨a, k1, h3⟩ := pr_noE h3
    refine ⟨r, S, m, a.1, a.2, h1, h2, k1, fun v H1 m1 u1 rd1 st1 => ⟨r, a.2, m1, h1.up u1, st1, ?_⟩⟩
    cases q : evLX F (evXe F p'.2) p'.1 r a.2 with
    | ok z =>
      rw [q] at h3
      exact fun vs H' m' u rd st => h3 (v :: vs) H' m' (u1.trans u) (RepL.cons (RepD.up u _ _ rd1) rd) st
    | err e S' =>
      rw [q] at h3
      exact fun H' m' cls d u => h3 H' m' cls d (u1.trans u)
    | no => rw [q] at h3; exact h3
end
end Ev
set_option autoImplicit false
set_option linter.all false
namespace Ev
open PySem
open L2
section
variable {X : Cx} {g : Ctx} {F : Nat → List D → Sto → R (D × Sto)} {l : Nat} {sc : Scope} {xf : List Nat} {xc : List (Str × Option Str)} {W : WX}
theorem sndXe (G : Gd X g F l sc) (gx : GX X g F l xf xc) (tk : Takes X W) : ∀ (n : Nat) (e : Expr) (x : Xe), cXe g xf n sc e = some x → PE X e (tXe X W (evXe F x))
  | 0, _, _, h => by cases h
  | n + 1, e, x, h => by
    have ihE := fun e c h => (snd (g := g) (F := F) (l := l) 60 sc e c h X G).1
    have ihT := fun e c h => (snd (g := g) (F := F) (l := l) 60 sc e c h X G).2
    simp only [cXe] at h
    split at h
    · obtain ⟨c, e1, rfl⟩ := Option.map_eq_some_iff.mp h
      exact plnX (ihE _ _ e1)
    · split at h
      · obtain ⟨z, e1, h⟩ := Option.bind_eq_some_iff.mp h
        obtain ⟨a, e2, h⟩ := Option.bind_eq_some_iff.mp h
        obtain ⟨b, e3, h⟩ := Option.bind_eq_some_iff.mp h
        cases h
        exact ifeX (ihT _ _ e1) (sndXe G gx tk n _ _ e2) (sndXe G gx tk n _ _ e3)
      · rename_i es pos _
        split at h
        · cases h
        · rename_i hl
          obtain ⟨p, e1, rfl⟩ := Option.map_eq_some_iff.mp h
          have PL := lastX (W := W) ihE (fun e x h => sndXe G gx tk n e x h) es p e1
          refine (pe_lst PL).imp fun σ H Q q => ?_
          obtain ⟨r, S, m, h1, h2, h3⟩ := q
          simp only [evXe] at h3
          refine ⟨r, S, m, h1, h2, ?_⟩
          cases q : evLX F (evXe F p.2) p.1 r S with
          | ok z =>
            rw [q] at h3
            intro vs H' m' u rd st
            refine ⟨?_, fun a ha => ?_⟩
            · rw [← rd.length]
              have hz : z.1.length = es.length := by
                have : ∀ (es : List Expr) (p : List C × Xe) (r : Env) (S : Sto) (z : List D × Sto), cLast g sc (cXe g xf n sc) es = some p → evLX F (evXe F p.2) p.1 r S = .ok z → z.1.length = es.length := by
                  intro es
                  induction es with
                  | nil => intro p r S z h; cases h
                  | cons e es ih =>
                    intro p r S z h k
                    cases es with
                    | nil =>
                      simp only [cLast] at h
                      split at h
                      · cases h
                      · obtain ⟨x, _, rfl⟩ := Option.map_eq_some_iff.mp h
                        simp only [evLX] at k
                        obtain ⟨a, _, k⟩ := bi_eq_ok k
                        cases ok_inj k
                        rfl
                    | cons e2 es =>
                      simp only [cLast] at h
                      obtain ⟨c, _, h⟩ := Option.bind_eq_some_iff.mp h
                      obtain ⟨p', e3, rfl⟩ := Option.map_eq_some_iff.mp h
                      simp only [evLX] at k
                      obtain ⟨a, _, k⟩ := bi_eq_ok k
                      obtain ⟨b, k2, k⟩ := bi_eq_ok k
                      cases ok_inj k
                      have := ih p' r a.2 b e3 k2
                      simp only [List.length_cons] at this ⊢
                      rw [this]
                exact this es p r S z e1 q
              rw [hz]
              have : es.length ≤ 1000 := Nat.le_of_not_lt hl
              exact Nat.le_trans this (by decide)
            · obtain ⟨u2, st2, rd2⟩ := st.fresh ha rd
              exact h3 _ _ _ (u.trans u2) rd2 st2
          | err e S' => rw [q] at h3; exact h3
          | no => rw [q] at h3; exact h3
      · rename_i f as kws cpos _
        split at h
        · cases h
        · rename_i hs
          have hs' : as.any isStar = false := by simpa using hs
          have hst : ∀ e ∈ as, ∀ r env, starEach (e :: r) env = (false, eval e env) :: starEach r env := fun e he r env => star_no (by
            cases q : isStar e with
            | false => rfl
            | true => exact absurd (List.any_eq_true.mpr ⟨e, he, q⟩) (by rw [hs']; exact Bool.false_ne_true)) r env
          split at h
          · rename_i x xp _
            split at h
            · cases h
            · rename_i hd
              have hd' : dunder x = false := by simpa using hd
              obtain ⟨d1, d2, d3⟩ := dun hd'
              split at h
              · rename_i hk
                split at h
                · rename_i i ps hf
                  split at h
                  · rename_i hx
                    obtain ⟨es, e1, h⟩ := Option.bind_eq_some_iff.mp h
                    obtain ⟨fa, fd, A, P⟩ := gx.fn x i ps hf hx
                    have PA1 := pa_of 60 ihE as es hs' e1
                    split at h
                    · cases h
                      have fin : ∀ σ H Q, tXe X W (evXe F (.call i es)) σ H Q → tCallX (spX X.prog X.K X.mg F i) W (tL X.K (evL F es)) σ H Q := fun σ H Q q => by
                        obtain ⟨r, S, m, h1, h2, h3⟩ := q
                        simp only [evXe] at h3
                        obtain ⟨p, k1, h3⟩ := pr_noE h3
                        refine ⟨r, S, m, p.1, p.2, h1, h2, k1, fun vs H1 m1 u1 rd1 st1 => ⟨p.2, m1, p.1, rd1, st1, ?_⟩⟩
                        have h3 := h3.up u1
                        cases q : F i p.1 p.2 with
                        | ok z => rw [q] at h3; exact h3
                        | err e S' => rw [q] at h3; exact h3
                        | no => rw [q] at h3; exact h3
                      cases as with
                      | nil =>
                        cases e1
                        refine (pe_callX0 P tk G.room G.gd (G.kind hk) A.mg A.kp A.bd d1).imp fun σ H Q q => ?_
                        obtain ⟨r, S, m, ds, S', k1, k2, k3, k4⟩ := fin σ H Q q
                        simp only [evL] at k3
                        cases ok_inj k3
                        exact k4 _ _ _ Up.refl .nil k2
                      | cons a as => exact (pe_callX P tk G.room G.gd (G.kind hk) A.mg A.kp A.bd PA1 (List.cons_ne_nil _ _) hst (fun env => back_no hs') d1).imp fin
                    · obtain ⟨ks, e2, h⟩ := Option.bind_eq_some_iff.mp h
                      split at h
                      · rename_i hm
                        obtain ⟨zs, e3, h⟩ := Option.bind_eq_some_iff.mp h
                        obtain ⟨gp, e4, h⟩ := Option.bind_eq_some_iff.mp h
                        cases h
                        have hkl : ks.length = kws.length := (mapO_len e2).symm
                        refine (pe_callXK (ks := ks) (g := fun us ws => pickL gp (us ++ ws)) (gV := fun vs zs => pickL gp (vs ++ zs)) P tk G.room G.gd (G.kind hk) A.mg A.kp
                          (fun s us ws hK h1 h2 h3 => A.kb _ _ hm gp e4 s us ws hK h1 (h2.trans hkl.symm) h3) (fun r1 r2 => pickL_vals (r1.append r2) gp) PA1
                          (fun σ H Q q => by have := tL_len q; rw [← mapO_len e1] at this; exact this) (pk_of 60 ihE kws zs e3) (fun σ H Q q => by have := tL_len q; rw [← mapO_len e3] at this; exact this)
                          (fun env => (kw_facts e2).1) (fun env => (kw_facts e2).2.1) (fun env => (kw_facts e2).2.2) hst (fun env => back_no hs') d1 (fun hn σ H Q q => ?_)).imp fun σ H Q q => ?_
                        · subst hn
                          cases e1
                          obtain ⟨r, S, m, ds, S', k1, k2, k3, k4⟩ := q
                          simp only [evL] at k3
                          cases ok_inj k3
                          exact k4 _ _ _ Up.refl .nil k2
                        · obtain ⟨r, S, m, h1, h2, h3⟩ := q
                          simp only [evXe] at h3
                          obtain ⟨p, k1, h3⟩ := pr_noE h3
                          obtain ⟨z, k2, h3⟩ := pr_noE h3
                          obtain ⟨ds, k3, h3⟩ := pr_opt h3
                          refine ⟨r, S, m, p.1, p.2, h1, h2, k1, fun vs H1 m1 u1 rd1 st1 => ⟨r, p.2, m1, z.1, z.2, h1.up u1, st1, k2, fun ws H2 m2 u2 rd2 st2 => ⟨z.2, m2, ds, pickL_rep ((RepL.up u2 _ _ rd1).append rd2) k3, st2, ?_⟩⟩⟩
                          have h3 := h3.up (u1.trans u2)
                          cases q : F i ds z.2 with
                          | ok z => rw [q] at h3; exact h3
                          | err e S' => rw [q] at h3; exact h3
                          | no => rw [q] at h3; exact h3
                      · cases h
                  · cases h
                · cases h
              · cases h
          · cases h
      · split at h
        · split at h
          · cases h
          · rename_i hm
            obtain ⟨x, e1, h⟩ := Option.bind_eq_some_iff.mp h
            obtain ⟨y, e2, h⟩ := Option.bind_eq_some_iff.mp h
            cases h
            exact cmpX G (by simpa using hm) (sndXe G gx tk n _ _ e1) (ihE _ _ e2)
        · cases h
      · split at h
        · obtain ⟨x, e1, h⟩ := Option.bind_eq_some_iff.mp h
          obtain ⟨y, e2, h⟩ := Option.bind_eq_some_iff.mp h
          cases h
          exact andX (sndXe G gx tk n _ _ e1) (ihE _ _ e2)
        · cases h
      · cases h
end
end Ev
set_option autoImplicit false
set_option linter.all false
namespace Ev
open PySem
open L2
/-- isinstance(e, c), e the error that the suite holds -/
def rIsX (K : PySem.W.Frag) (C : Addr) (cls : Value) (d : Option Addr) (a : Addr) : List V → Hp → VK → Prop := fun xs H Q => ∃ (c : V) (cv : Value) (b : Bool), xs = [.ref a, c] ∧ (∀ u, RelV c u → u = cv) ∧ cls = .ref C ∧
  (∀ dd, d = some dd → ∃ fs, H dd = some (.xd fs)) ∧ PySem.W.kitOne K (.ref C) cv = some b ∧ Q (.bl b) H
theorem call_isX {X : Cx} {f : Option Str} {x : Str} {C fI a : Addr} {cls : Value} {d : Option Addr} {oe : Obj} {pn : List (Addr × Obj)} (T : ClsX X.prog X.K X.mg x f C fI) (hz : Zc cls d oe) (hf : ∃ vs, oe.data = .fields vs) :
    CallR (X.suite a ((a, oe) :: pn)) (.builtin "isinstance") (rIsX X.K C cls d a) := by
  intro pins s σ H xs us Q I r h
  obtain ⟨c, cv, b, rfl, hcv, hC, hd, e, q⟩ := h
  cases r with
  | cons rx rr =>
    cases rr with
    | cons rt rr =>
      cases rr
      cases rx
      have ec := hcv _ rt
      subst ec
      obtain ⟨hget, _⟩ := I.pin (a, oe) (List.mem_append.mpr (.inl List.mem_cons_self))
      obtain ⟨vs, hv⟩ := hf
      have J : ∃ od, PySem.W.InstAt s.heap a oe C od := by
        obtain ⟨oc, odc, oda, osl⟩ := oe
        obtain ⟨h1, h2⟩ := hz
        dsimp only at h1 h2 hv
        subst h1 h2 hv
        subst hC
        cases odc with
        | none => exact ⟨none, hget, rfl, rfl, trivial⟩
        | some dd =>
          obtain ⟨fs, e⟩ := hd dd rfl
          have hx : ObjOk X.prog X.w H s.heap dd (.xd fs) := I.hok dd _ e
          obtain ⟨mA, hns, hr⟩ := hx
          obtain ⟨od, ho, hl⟩ := lookIn_ns hns
          exact ⟨some od, hget, rfl, rfl, ho⟩
      obtain ⟨od, J⟩ := J
      exact PySem.W.kia_one (PySem.W.kitx_exc T.cl T.txt.ga T.txt.gg T.txt.exC T.kl T.kg T.kt T.km) I.kIn J e (fun z => nomatch z) fun tk => ⟨.bl b, H, I.kept (t' := tk) fun _ _ z => z, rfl, q⟩
def tHx (K : PySem.W.Frag) (C CR : Addr) (a : Addr) (cls : Value) (d : Option Addr) (i : Nat) : Hx → TE
  | .str s => tC (.str s)
  | .fld f => tXf a cls d C f (tVar i)
  | .isa => tCB (rIsX K C cls d a) (tCons (tVar i) (tCons (tC (.ref CR)) tNil))
def tHs (K : PySem.W.Frag) (C CR : Addr) (a : Addr) (cls : Value) (d : Option Addr) (i : Nat) : List Hx → TA
  | [] => tNil
  | h :: hs => tCons (tHx K C CR a cls d i h) (tHs K C CR a cls d i hs)
def cHx (g : Ctx) (sc : Scope) (f : Option Str) (n : Str) : Expr → Option Hx
  | .Constant (.str s) _ _ => some (.str s)
  | .Attribute (.Name y _) z _ => if y = n ∧ f = some z then some (.fld z) else none
  | .Call (.Name b _) [.Name y _, .Name r _] [] _ => if b = "isinstance" ∧ y = n ∧ r = "RoomError" ∧ gBlt g sc "isinstance" = true ∧ scK sc "RoomError" = some .globalImplicit then some .isa else none
  | _ => none
section
variable {X : Cx} {g : Ctx} {F : Nat → List D → Sto → R (D × Sto)} {l : Nat} {sc : Scope} {xf : List Nat} {xc : List (Str × Option Str)} {W : WX}
theorem pa_hs {x n : Str} {f : Option Str} {C fI CR a : Addr} {i : Nat} {cls : Value} {d : Option Addr} {oe : Obj} {pn : List (Addr × Obj)} (G : Gd X g F l sc) (T : ClsX X.prog X.K X.mg x f C fI) (hCR : X.mg "RoomError" = some (.ref CR))
    (hi : X.N[i]? = some n) (hv : Vis X.env.scope n) (hdb : dunder n = false) (hz : Zc cls d oe) (hf : ∃ vs, oe.data = .fields vs) : ∀ (es : List Expr) (hs : List Hx), mapO (cHx g sc f n) es = some hs → PA (X.suite a ((a, oe) :: pn)) es (tHs X.K C CR a cls d i hs)
  | [], hs, h => by cases h; exact pa_nil
  | e :: es, hs, h => by
    obtain ⟨y, ys, e1, e2, rfl⟩ := mapO_cons h
    have ih := pa_hs (a := a) (pn := pn) G T hCR hi hv hdb hz hf es ys e2
    obtain ⟨d1, d2, d3⟩ := dun hdb
    have pn1 : ∀ {pos : Pos}, PE (X.suite a ((a, oe) :: pn)) (.Name n pos) (tVar i) := fun {pos} => pe_var hi hv d1 d2
    unfold cHx at e1
    split at e1
    · cases e1
      exact pa_cons pe_str ih
    · split at e1
      · rename_i hy
        obtain ⟨rfl, rfl⟩ := hy
        cases e1
        exact pa_cons (pe_xf ⟨T.txt.ga, T.txt.gg, T.txt.exC, T.txt.hdC⟩ (T.txt.noN _ rfl) hz hf pn1) ih
      · cases e1
    · split at e1
      · rename_i hy
        obtain ⟨rfl, rfl, rfl, hg, hr⟩ := hy
        cases e1
        obtain ⟨r1, r2, r3⟩ := G.gblt hg
        have gr : Gl X "RoomError" := G.kind hr
        exact pa_cons (pe_callB (call_isX T hz hf) r1 r2 (by decide +kernel) (pa_cons pn1 (pa_cons (pe_glob (v := .ref CR) (u := .ref CR) gr hCR rfl) pa_nil))) ih
      · cases e1
    · cases e1
theorem hs_ok {x : Str} {f : Option Str} {C fI CR a : Addr} {i : Nat} {cls : Value} {d : Option Addr} {H : Hp} {m : List Addr} {σ : L2.St} {e : Exn} (T : ClsX X.prog X.K X.mg x f C fI) (hCR : X.mg "RoomError" = some (.ref CR)) (hx : e.cls = x) (r : ExR X.prog X.K X.mg H m e cls d) (hσ : σ[i]? = some (some (.ref a))) :
    ∀ (hs : List Hx) (ds : List D), mapO (evHx e) hs = some ds → ∀ Q : List V → Hp → Prop, (∀ vs, RepL X.K H m ds vs → Q vs H) → tHs X.K C CR a cls d i hs σ H Q
  | [], ds, h, Q, q => by cases h; exact q _ .nil
  | y :: hs, ds, h, Q, q => by
    obtain ⟨dv, ds', e1, e2, rfl⟩ := mapO_cons h
    have ih := hs_ok T hCR hx r hσ hs ds' e2
    obtain ⟨f', C', fI', T', hC, hd⟩ := r
    have eC : C' = C := by
      have h1 := T'.cm
      rw [hx, T.cm] at h1
      cases h1
      rfl
    subst eC
    have one : ∀ {v : V}, RepD X.K H m dv v → tHs X.K C' CR a cls d i hs σ H fun vs H2 => Q (v :: vs) H2 := fun {v} rd => ih _ fun vs rr => q _ (RepL.cons rd rr)
    cases y with
    | str s =>
      cases e1
      exact one (v := .str s) rfl
    | fld z =>
      refine ⟨_, hσ, rfl, hC, ?_⟩
      rcases hd with ⟨_, h2, _⟩ | ⟨y, dv', dd, v, h1, h2, h3, h4, h5⟩
      · unfold evHx at e1; rw [h2] at e1; cases e1
      · unfold evHx at e1
        rw [h2] at e1
        dsimp only at e1
        rw [List.lookup_cons] at e1
        cases hq : z == y with
        | false => rw [hq] at e1; cases e1
        | true =>
          rw [hq] at e1
          cases e1
          exact ⟨dd, _, v, h3, h4, by rw [List.lookup_cons, hq], one h5⟩
    | isa =>
      cases e1
      refine ⟨_, hσ, ?_⟩
      refine ⟨.ref CR, .ref CR, true, rfl, fun u h => h, hC, fun dd h => ?_, ?_, one (v := .bl true) rfl⟩
      · rcases hd with ⟨_, _, h3⟩ | ⟨y, dv', d2, v, h1, h2, h3, h4, h5⟩
        · rw [h3] at h; cases h
        · rw [h3] at h; cases h; exact ⟨_, h4⟩
      · obtain ⟨CR', h1, h2⟩ := T'.root
        rw [hCR] at h1
        cases h1
        exact h2
def tQx (K : PySem.W.Frag) (C : Addr) (a : Addr) (cls : Value) (d : Option Addr) (i : Nat) (f w : Str) (k : Nat) : TE := tOp (rCmp K .Eq) (tXf a cls d C f (tVar i)) (tTup (tCons (tC (.str w)) (tCons (tVar k) tNil)))
theorem pe_qx {x n z v w : Str} {C fI a : Addr} {i k : Nat} {cls : Value} {d : Option Addr} {oe : Obj} {pn : List (Addr × Obj)} {p0 p1 p2 p3 p4 c1 : Pos} {c0 kk : Nat} (G : Gd X g F l sc) (T : ClsX X.prog X.K X.mg x (some z) C fI)
    (hi : X.N[i]? = some n) (hv : Vis X.env.scope n) (hdb : dunder n = false) (hk : X.N[k]? = some v) (hkv : Vis X.env.scope v) (hkd : dunder v = false) (hz : Zc cls d oe) (hf : ∃ vs, oe.data = .fields vs) :
    PE (X.suite a ((a, oe) :: pn)) (.Compare (.Attribute (.Name n p0) z p1) [.Eq] [.Tuple [.Constant (.str w) c0 c1, .Name v p2] kk p3] p4) (tQx X.K C a cls d i z w k) := by
  obtain ⟨d1, d2, _⟩ := dun hdb
  obtain ⟨d3, d4, _⟩ := dun hkd
  exact pe_cmpR (opR_cmp (X := X.suite a ((a, oe) :: pn)) G.hu .Eq) (pe_xf ⟨T.txt.ga, T.txt.gg, T.txt.exC, T.txt.hdC⟩ (T.txt.noN _ rfl) hz hf (pe_var hi hv d1 d2)) (pe_tup (pa_cons pe_str (pa_cons (pe_var hk hkv d3 d4) pa_nil))) rfl
theorem qx_ok {x : Str} {f w : Str} {C fI a : Addr} {i k : Nat} {cls : Value} {d : Option Addr} {H : Hp} {m : List Addr} {σ : L2.St} {e : Exn} {r : Env} {S : Sto} {t : Bool} (T : ClsX X.prog X.K X.mg x (some f) C fI) (hx : e.cls = x) (er : ExR X.prog X.K X.mg H m e cls d) (hσ : σ[i]? = some (some (.ref a)))
    (hr : ∀ dk, r[k]? = some (some dk) → ∃ v, σ[k]? = some (some v) ∧ RepD X.K H m dk v) (st : RSt X.K H m S) (h : cmpFld e r S f w k = some t) (Q : VK) (q : ∀ H' m', Up H m H' m' → RSt X.K H' m' S → Q (.bl t) H') : tQx X.K C a cls d i f w k σ H Q := by
  obtain ⟨f', C', fI', T', hC, hd⟩ := er
  have eC : C' = C := by
    have h1 := T'.cm
    rw [hx, T.cm] at h1
    cases h1
    rfl
  subst eC
  unfold cmpFld at h
  split at h
  · rename_i dv d2 h1 h2
    split at h
    · rename_i t' h3
      cases h
      obtain ⟨v, hv, rv⟩ := hr _ h2
      refine ⟨_, hσ, rfl, hC, ?_⟩
      rcases hd with ⟨_, g2, _⟩ | ⟨y, dv', dd, u, g1, g2, g3, g4, g5⟩
      · rw [g2] at h1; cases h1
      · rw [g2] at h1
        rw [List.lookup_cons] at h1
        cases hq : f == y with
        | false => rw [hq] at h1; cases h1
        | true =>
          rw [hq] at h1
          cases h1
          refine ⟨dd, _, u, g3, g4, by rw [List.lookup_cons, hq], ?_⟩
          show ∃ v', σ[k]? = some (some v') ∧ ([V.str w, v'].length ≤ sizeLine ∧ ∀ p, H p = none → rCmp X.K .Eq u (.ref p) (upd H p (.tup [V.str w, v'])) Q)
          refine ⟨v, hv, by show 2 ≤ sizeLine; decide, fun p hp => ?_⟩
          obtain ⟨u1, st1, rt⟩ := st.freshT hp (RepL.cons (d := .str w) (v := .str w) rfl (RepL.one rv))
          exact cmD_cmp .Eq _ _ _ _ _ _ _ _ _ st1 (RepD.up u1 _ _ g5) rt h3 (q _ _ u1 st1)
    · cases h
  · cases h
end
end Ev
set_option autoImplicit false
set_option linter.all false
namespace Ev
open PySem
open L2
def xS (g : Ctx) (xf : List Nat) : Nat → Stmt → Bool
  | 0, _ => false
  | n + 1, s => match s with
    | .Raise _ _ _ => true
    | .Try _ _ _ _ _ => true
    | .Return (some e) _ => hasX g xf 9 e
    | .Expr e _ => hasX g xf 9 e
    | .Assign _ v _ => hasX g xf 9 v || (match v with
      | .Tuple (a :: _) _ _ => hasX g xf 9 a
      | _ => false)
    | .If _ a b _ => a.any (xS g xf n) || b.any (xS g xf n)
    | .For _ _ b _ _ => b.any (xS g xf n)
    | _ => false
def cX (g : Ctx) (xf : List Nat) (xc : List (Str × Option Str)) : Nat → Scope → Stmt → Option Sx
  | 0, _, _ => none
  | n + 1, sc, s => if xS g xf (n + 1) s = false then (cS g 40 sc s).map .pln else match s with
    | .Expr e _ => if isCall e = true then (cXe g xf 9 sc e).map .exp else none
    | .Return (some e) _ => (cXe g xf 9 sc e).map .ret
    | .Raise (some (.Call (.Name x _) as [] _)) none _ => if dunder x = false ∧ as.any isStar = false ∧ as.length ≤ 1 ∧ scK sc x = some .globalImplicit then (xc.lookup x).bind fun f => (mapO (cE g 60 sc) as).bind fun es => some (.rse x f es) else none
    | .If c a b _ => (cE g 60 sc c).bind fun x => (mapO (cX g xf xc n sc) a).bind fun y => (mapO (cX g xf xc n sc) b).bind fun z => some (.iff x y z)
    | .For tg iter b els _ => (match els with
      | [] => (cP g.ns (stK sc) 9 tg).bind fun p => (mapO (cE g 60 sc) (cI g sc (isTup tg) iter).2).bind fun src => (mapO (cX g xf xc n sc) b).bind fun y => some (.fr p (cI g sc (isTup tg) iter).1 src y)
      | _ => none)
    | .Assign tgs v _ => (match tgs with
      | [.Name x px] => if stK sc x = true ∧ isLC v = false then (idx g.ns x).bind fun i => (cXe g xf 9 sc v).bind fun c => some (.asg i c) else none
      | [.Tuple [.Name x px, .Name y py] _ _] => (match v with
        | .Tuple [a, b] _ _ => if parOk sc x y px py a b = true then (idx g.ns x).bind fun i => (idx g.ns y).bind fun j => (cXe g xf 9 sc a).bind fun c => (cE g 60 sc b).bind fun d => some (.parx i j c d) else none
        | _ => none)
      | _ => none)
    | .Try b hs els fin _ => (match hs, els, fin with
      | [.ExceptHandler (some (.Name x _)) (some y) [.Return (some (.List es _)) _] _], [], [] =>
        if dunder x = false ∧ scK sc x = some .globalImplicit ∧ dunder y = false ∧ scK sc y = some .local ∧ es.length ≤ 1000 then
          (xc.lookup x).bind fun f => (idx g.ns y).bind fun i => (mapO (cX g xf xc n sc) b).bind fun c => (mapO (cHx g sc f y) es).bind fun h => some (.tri c x i h)
        else none
      | [.ExceptHandler (some (.Name x _)) (some y) [.Return (some (.Compare (.Attribute (.Name y2 _) z _) [.Eq] [.Tuple [.Constant (.str w) _ _, .Name v _] _ _] _)) _] _], [], [] =>
        if dunder x = false ∧ scK sc x = some .globalImplicit ∧ dunder y = false ∧ scK sc y = some .local ∧ y2 = y ∧ dunder v = false ∧ scK sc v = some .local ∧ xc.lookup x = some (some z) then
          (idx g.ns y).bind fun i => (idx g.ns v).bind fun k => (mapO (cX g xf xc n sc) b).bind fun c => some (.trc c x i z w k)
        else none
      | _, _, _ => none)
    | _ => none
/-- what is wanted behind a statement that may raise -/
def PX (X : Cx) (W : WX) (Dn : Ends) (H : Hp) (m : List Addr) : RX → Prop
  | .ok f => Post X.K Dn H m f
  | .ex e r S => ∀ σ' H' m' cls d, Up H m H' m' → REnv X.K H' m' r σ' → RSt X.K H' m' S → ExR X.prog X.K X.mg H' m' e cls d → W cls d σ' H'
  | .no => False
theorem PX.up {X : Cx} {W : WX} {Dn : Ends} {H H1 : Hp} {m m1 : List Addr} {z : RX} (u : Up H m H1 m1) (p : PX X W Dn H m z) : PX X W Dn H1 m1 z := by
  cases z with
  | ok f => exact Post.up u p
  | ex e r S => exact fun σ' H' m' cls d u' => p σ' H' m' cls d (u.trans u')
  | no => exact p.elim
def tX (X : Cx) (W : WX) (e : Env → Sto → RX) : TS := fun Dn σ H => ∃ r S m, REnv X.K H m r σ ∧ RSt X.K H m S ∧ PX X W Dn H m (e r S)
theorem px_noE {X : Cx} {W : WX} {Dn : Ends} {H : Hp} {m : List Addr} {α : Type} {r : Env} {z : R α} {k : α → RX} (p : PX X W Dn H m (RX.of r (noE z) k)) : ∃ a, z = .ok a ∧ PX X W Dn H m (k a) := by
  cases z with
  | ok a => exact ⟨a, rfl, p⟩
  | err e S => exact p.elim
  | no => exact p.elim
theorem px_xe {X : Cx} {W : WX} {Dn : Ends} {H : Hp} {m : List Addr} {r : Env} {σ : L2.St} {z : R (D × Sto)} {k : D × Sto → RX} {Q : VK} (h1 : REnv X.K H m r σ) (p : PX X W Dn H m (RX.of r z k))
    (q : ∀ a, z = .ok a → PX X W Dn H m (k a) → ∀ v H' m', Up H m H' m' → RepD X.K H' m' a.1 v → RSt X.K H' m' a.2 → Q v H') : PR X W σ H m (RepD X.K) Q z := by
  cases z with
  | ok a => exact q a rfl p
  | err e S => exact fun H' m' cls d u => p σ H' m' cls d u (h1.up u)
  | no => exact p.elim
section
variable {X : Cx} {g : Ctx} {F : Nat → List D → Sto → R (D × Sto)} {l : Nat} {sc : Scope} {xf : List Nat} {xc : List (Str × Option Str)} {W : WX}
theorem xs_pss {n : Nat} (ih : ∀ s c, cX g xf xc n sc s = some c → PS X s (tX X W (evX F c))) : ∀ (ss : List Stmt) (cs : List Sx), mapO (cX g xf xc n sc) ss = some cs → PSs X ss (tX X W (evXs F cs))
  | [], cs, h => by
    cases h
    refine pss_nil.imp fun Dn σ H q => ?_
    obtain ⟨r, S, m, h1, h2, h3⟩ := q
    simp only [evXs] at h3
    exact h3 _ _ _ Up.refl h1 h2
  | s :: ss, cs, h => by
    obtain ⟨c, cs', e1, e2, rfl⟩ := mapO_cons h
    refine (pss_cons (ih s c e1) (xs_pss ih ss cs' e2)).imp fun Dn σ H q => ?_
    obtain ⟨r, S, m, h1, h2, h3⟩ := q
    simp only [evXs] at h3
    refine ⟨r, S, m, h1, h2, ?_⟩
    cases q : evX F c r S with
    | ok f =>
      rw [q] at h3
      cases f with
      | nx r' S' => exact fun σ' H' m' u k2 k3 => ⟨r', S', m', k2, k3, PX.up u h3⟩
      | ct r' S' => exact h3
      | bk r' S' => exact h3
      | rt d S' => exact h3
    | ex e r' S' => rw [q] at h3; exact h3
    | no => rw [q] at h3; exact h3
theorem forX_of {k : Ev.K} {src : List C} {p : Pt} {b : Env → Sto → RX} {Dn : Ends} {σ : L2.St} {H : Hp}
    (q : tX X W (fun r S => .of r (noE (evL F src r S)) fun z => .of r (noE (srcD k z.1 z.2)) fun it => frX it.2 p b it.1 r z.2) Dn σ H) : tFor (tI X.K k (evL F src)) (gP X.K p) (tX X W b) Dn σ H := by
  obtain ⟨r, S, m, h1, h2, h3⟩ := q
  obtain ⟨z, e1, h3⟩ := px_noE h3
  obtain ⟨it, e2, h3⟩ := px_noE h3
  refine ⟨r, S, m, z, it, h1, h2, e1, e2, fun J H1 m1 u1 st1 wk => ?_⟩
  refine ⟨fun i n σ' H' => ∃ r' S' m', n = it.1.length - i ∧ i ≤ it.1.length ∧ Up H1 m1 H' m' ∧ REnv X.K H' m' r' σ' ∧ RSt X.K H' m' S' ∧ PX X W Dn H m (frX it.2 p b (it.1.drop i) r' S'),
    ⟨it.1.length, r, z.2, m1, by simp, Nat.zero_le _, Up.refl, h1.up u1, st1, by rw [List.drop_zero]; exact h3⟩, ?_⟩
  rintro i n σ2 H2 ⟨r2, S2, m2, rfl, hi, u2, re2, st2, e3⟩
  by_cases hlt : i < it.1.length
  · rw [List.drop_eq_getElem_cons hlt] at e3
    simp only [frX] at e3
    split at e3
    · rename_i hg
      cases e4 : bindP p it.1[i] r2 with
      | none => rw [e4] at e3; exact e3.elim
      | some r3 =>
        rw [e4] at e3
        dsimp only at e3
        refine .inr ⟨wk.go H2 m2 S2 u2 st2 hg i hlt, fun σ' H' => ∃ n, n < it.1.length - i ∧ ∃ r' S' m', n = it.1.length - (i + 1) ∧ i + 1 ≤ it.1.length ∧ Up H1 m1 H' m' ∧ REnv X.K H' m' r' σ' ∧ RSt X.K H' m' S' ∧ PX X W Dn H m (frX it.2 p b (it.1.drop (i + 1)) r' S'),
          fun σ' H' ⟨n, hn, h⟩ => ⟨n, hn, h⟩, fun x H3 yl => ?_⟩
        obtain ⟨u3, st3, rd3⟩ := wk.yld H2 m2 S2 u2 st2 hg i x H3 _ (List.getElem?_eq_getElem hlt) yl
        have up3 := (u1.trans u2).trans u3
        refine ⟨_, m2, r2, r3, rd3, re2.up u3, e4, fun σ' k1 k2 k3 => ⟨r3, S2, m2, k1, st3, ?_⟩⟩
        have again : ∀ {r' S'}, PX X W Dn H m (frX it.2 p b (it.1.drop (i + 1)) r' S') → ∀ σ' H' m', Up H3 m2 H' m' → REnv X.K H' m' r' σ' → RSt X.K H' m' S' → ∃ n, n < it.1.length - i ∧ ∃ r' S' m', n = it.1.length - (i + 1) ∧ i + 1 ≤ it.1.length ∧ Up H1 m1 H' m' ∧ REnv X.K H' m' r' σ' ∧ RSt X.K H' m' S' ∧ PX X W Dn H m (frX it.2 p b (it.1.drop (i + 1)) r' S') :=
          fun {r' S'} e σ' H' m' u re st => ⟨it.1.length - (i + 1), by omega, r', S', m', rfl, hlt, (u2.trans u3).trans u, re, st, e⟩
        cases q : b r3 S2 with
        | ok f3 =>
          rw [q] at e3
          cases f3 with
          | nx r' S' => exact again e3
          | ct r' S' => exact again e3
          | bk r' S' => exact fun σ' H' m' u re st => e3 σ' H' m' (up3.trans u) re st
          | rt d S' => exact fun v H' m' u rd st => e3 v H' m' (up3.trans u) rd st
        | ex e r' S' =>
          rw [q] at e3
          exact fun σ' H' m' cls d u => e3 σ' H' m' cls d (up3.trans u)
        | no => rw [q] at e3; exact e3.elim
    · exact e3.elim
  · have hi' : i = it.1.length := by omega
    subst hi'
    rw [List.drop_length] at e3
    simp only [frX] at e3
    split at e3
    · rename_i hg
      have stp := wk.stop H2 m2 S2 u2 st2 hg
      exact .inl ⟨stp, e3 σ2 H2 m2 (u1.trans u2) re2 st2⟩
    · exact e3.elim
end
end Ev
set_option autoImplicit false
set_option linter.all false
namespace Ev
open PySem
open L2
theorem RSt.freshX {K : PySem.W.Frag} {H : Hp} {m : List Addr} {S : Sto} (h : RSt K H m S) {p : Addr} (o : HO) (hp : H p = none) : Up H m (upd H p o) m ∧ RSt K (upd H p o) m S := by
  have u : Up H m (upd H p o) m := by
    have := up_fresh (m := m) (o := o) hp []
    simpa using this
  refine ⟨u, ⟨h.len, h.nd, fun i c e => ?_⟩⟩
  obtain ⟨a, e1, q⟩ := h.at_ i c e
  exact ⟨a, e1, q.up u fun ws e => by rw [upd_ne (ne_of_none e hp)]; exact e⟩
section
variable {X : Cx} {g : Ctx} {F : Nat → List D → Sto → R (D × Sto)} {l : Nat} {sc : Scope} {xf : List Nat} {xc : List (Str × Option Str)} {W : WX}
theorem Gd.tr (G : Gd X g F l sc) (pn : List (Addr × Obj)) (xe : Value → Shared → Prop) : Gd (X.tr pn xe) g F l sc :=
  { nm := G.nm, nd := G.nd, sc := G.sc, calm := G.calm, room := G.room, gd := G.gd, cst := G.cst, blt := G.blt, gdc := G.gdc,
    fn := fun x i ps h => by
      obtain ⟨f, fd, A⟩ := G.fn x i ps h
      exact ⟨f, fd, ⟨A.mg, A.kp, A.ok, A.bd, A.kb⟩⟩ }
theorem GX.tr (G : GX X g F l xf xc) (pn : List (Addr × Obj)) (xe : Value → Shared → Prop) : GX (X.tr pn xe) g F l xf xc :=
  { hs := G.hs, hf := G.hf, cl := G.cl,
    fn := fun x i ps h hx => by
      obtain ⟨f, fd, A, P⟩ := G.fn x i ps h hx
      exact ⟨f, fd, ⟨A.mg, A.kp, A.ok, A.bd, A.kb⟩, P⟩ }
theorem ClsX.same {prog : Program} {K : PySem.W.Frag} {mg : Str → Option Value} {x : Str} {f f' : Option Str} {C C' fI fI' : Addr} (T : ClsX prog K mg x f C fI) (T' : ClsX prog K mg x f' C' fI') : C' = C := by
  have h1 := T'.cm
  rw [T.cm] at h1
  cases h1
  rfl
theorem raise_ok (G : Gd X g F l sc) (gx : GX X g F l xf xc) (tk : Takes X W) {x : Str} {f : Option Str} {as : List Expr} {es : List C} {xp cp pos : Pos} (hd : dunder x = false) (hs : as.any isStar = false) (hl : as.length ≤ 1) (hk : scK sc x = some .globalImplicit) (hx : xc.lookup x = some f)
    (e1 : mapO (cE g 60 sc) as = some es) : PS X (.Raise (some (.Call (.Name x xp) as [] cp)) none pos) (tX X W (evX F (.rse x f es))) := by
  have ihE := fun e c h => (snd (g := g) (F := F) (l := l) 60 sc e c h X G).1
  obtain ⟨d1, d2, d3⟩ := dun hd
  obtain ⟨C, fI, T⟩ := gx.cl x f hx
  have PA1 := pa_of (F := F) 60 ihE as es hs e1
  have fin : ∀ (e : Exn) (H1 : Hp) (m1 : List Addr) (d : Option Addr), e.cls = x → ((f = none ∧ e.fs = [] ∧ d = none) ∨ ∃ y dv dd v, f = some y ∧ e.fs = [(y, dv)] ∧ d = some dd ∧ H1 dd = some (.xd [(y, v)]) ∧ RepD X.K H1 m1 dv v) → ExR X.prog X.K X.mg H1 m1 e (.ref C) d := fun e H1 m1 d hc h => ⟨f, C, fI, by rw [hc]; exact T, rfl, h⟩
  cases as with
  | nil =>
    cases e1
    refine (ps_raise G.calm tk (pmk_sup0 T.txt T.fo G.room (G.kind hk) T.cm d1)).imp fun Dn σ H q => ?_
    obtain ⟨r, S, m, h1, h2, h3⟩ := q
    simp only [evX, evL] at h3
    cases f with
    | some y => exact h3.elim
    | none => exact ⟨rfl, h3 σ H m (.ref C) none Up.refl h1 h2 (fin ⟨x, []⟩ H m none rfl (.inl ⟨rfl, rfl, rfl⟩))⟩
  | cons a as =>
    cases as with
    | cons b as => simp at hl
    | nil =>
      obtain ⟨c, k1, rfl⟩ := one_arg' e1
      refine (ps_raise G.calm tk (pmk_sup1 T.txt T.fo G.room PA1 (G.kind hk) T.cm d1 (star_no (cE_star k1) _ _))).imp fun Dn σ H q => ?_
      obtain ⟨r, S, m, h1, h2, h3⟩ := q
      simp only [evX] at h3
      obtain ⟨p, k2, h3⟩ := px_noE h3
      obtain ⟨p', k3, rfl⟩ := evL_one k2
      cases f with
      | none => exact h3.elim
      | some y =>
        refine ⟨r, S, m, [p'.1], p'.2, h1, h2, k2, fun vs H1 m1 u1 rd1 st1 => ?_⟩
        simp only [RepL] at rd1
        obtain ⟨v, _, rfl, rd, rfl⟩ := rd1
        refine ⟨v, rfl, fun d hd => ?_⟩
        obtain ⟨u2, st2⟩ := st1.freshX (.xd [(y, v)]) hd
        exact h3 σ _ m1 (.ref C) (some d) (u1.trans u2) (h1.up (u1.trans u2)) st2 (fin ⟨x, [(y, p'.1)]⟩ _ m1 (some d) rfl (.inr ⟨y, p'.1, d, v, rfl, rfl, rfl, upd_same, RepD.up u2 _ _ rd⟩))
theorem hx_len {f : Option Str} {n : Str} {e : Exn} {es : List Expr} {hs : List Hx} {ds : List D} (h : mapO (cHx g sc f n) es = some hs) (k : mapO (evHx e) hs = some ds) : ds.length = es.length := (mapO_len k).symm.trans (mapO_len h).symm
theorem sndX : ∀ (n : Nat) (sc : Scope) (s : Stmt) (c : Sx), cX g xf xc n sc s = some c → ∀ (X : Cx) (W : WX), Gd X g F l sc → Gs X → GX X g F l xf xc → Takes X W → PS X s (tX X W (evX F c))
  | 0, _, _, _, h, _, _, _, _, _, _ => by cases h
  | n + 1, sc, s, c, h, X, W, G, T, gx, tk => by
    have ihE := fun e c h => (snd (g := g) (F := F) (l := l) 60 sc e c h X G).1
    have ihT := fun e c h => (snd (g := g) (F := F) (l := l) 60 sc e c h X G).2
    have ihX := fun e x h => sndXe (W := W) G gx tk 9 e x h
    have ihS := fun ss cs h => xs_pss (X := X) (W := W) (F := F) (g := g) (sc := sc) (xf := xf) (xc := xc) (n := n) (fun s c h => sndX n sc s c h X W G T gx tk) ss cs h
    have nodup : X.N.Nodup := by rw [G.nm]; exact G.nd
    simp only [cX] at h
    split at h
    · obtain ⟨c', e1, rfl⟩ := Option.map_eq_some_iff.mp h
      refine (sndS 40 sc s c' e1 X G T).imp fun Dn σ H q => ?_
      obtain ⟨r, S, m, h1, h2, h3⟩ := q
      simp only [evX] at h3
      obtain ⟨f, k1, h3⟩ := px_noE h3
      exact ⟨r, S, m, f, h1, h2, k1, h3⟩
    · split at h
      · rename_i e pos _
        split at h
        · rename_i hc
          obtain ⟨x, e1, rfl⟩ := Option.map_eq_some_iff.mp h
          refine (ps_expr (ihX _ _ e1) (cE_noSwap (by cases e <;> first | rfl | cases hc) _ _ _)).imp fun Dn σ H q => ?_
          obtain ⟨r, S, m, h1, h2, h3⟩ := q
          simp only [evX] at h3
          exact ⟨r, S, m, h1, h2, px_xe h1 h3 fun a k p v H' m' u rd st => p _ _ _ u (h1.up u) st⟩
        · cases h
      · rename_i e pos _
        obtain ⟨x, e1, rfl⟩ := Option.map_eq_some_iff.mp h
        refine (ps_ret (ihX _ _ e1)).imp fun Dn σ H q => ?_
        obtain ⟨r, S, m, h1, h2, h3⟩ := q
        simp only [evX] at h3
        exact ⟨r, S, m, h1, h2, px_xe h1 h3 fun a k p => p⟩
      · rename_i x xp as cp pos _
        split at h
        · rename_i hh
          obtain ⟨hd, hs, hl, hk⟩ := hh
          obtain ⟨f, e0, h⟩ := Option.bind_eq_some_iff.mp h
          obtain ⟨es, e1, h⟩ := Option.bind_eq_some_iff.mp h
          cases h
          exact raise_ok G gx tk hd hs hl hk e0 e1
        · cases h
      · rename_i cc a b pos _
        obtain ⟨x, e1, h⟩ := Option.bind_eq_some_iff.mp h
        obtain ⟨y, e2, h⟩ := Option.bind_eq_some_iff.mp h
        obtain ⟨z, e3, h⟩ := Option.bind_eq_some_iff.mp h
        cases h
        refine (ps_if (ihT _ _ e1) (ihS _ _ e2) (ihS _ _ e3)).imp fun Dn σ H q => ?_
        obtain ⟨r, S, m, h1, h2, h3⟩ := q
        simp only [evX] at h3
        obtain ⟨t, e4, h3⟩ := px_noE h3
        refine ⟨r, S, m, t.1, t.2, h1, h2, e4, fun H' m' u st => ?_⟩
        cases ht : t.1 with
        | true =>
          rw [ht, if_pos rfl] at h3
          rw [if_pos rfl]
          exact ⟨r, t.2, m', h1.up u, st, PX.up u h3⟩
        | false =>
          rw [ht, if_neg Bool.false_ne_true] at h3
          rw [if_neg Bool.false_ne_true]
          exact ⟨r, t.2, m', h1.up u, st, PX.up u h3⟩
      · rename_i tg iter b els pos _
        split at h
        · obtain ⟨p, e0, h⟩ := Option.bind_eq_some_iff.mp h
          obtain ⟨src, e1, h⟩ := Option.bind_eq_some_iff.mp h
          obtain ⟨y, e2, h⟩ := Option.bind_eq_some_iff.mp h
          cases h
          obtain ⟨P1, P2⟩ := pi_of G 60 ihE e1
          refine (ps_for T.po G.calm P1 (pg_of G.nm G.nd G.calm (fun y hy => stK_loc G T hy) 9 tg p e0) (ihS _ _ e2) (fun x => P2 x _)).imp fun Dn σ H q => ?_
          simp only [evX] at q
          exact forX_of q
        · cases h
      · rename_i tgs v pos _
        split at h
        · rename_i x px _
          split at h
          · rename_i hh
            obtain ⟨hst, hlc⟩ := hh
            obtain ⟨i, e0, h⟩ := Option.bind_eq_some_iff.mp h
            obtain ⟨cc, e1, h⟩ := Option.bind_eq_some_iff.mp h
            cases h
            obtain ⟨k1, k2⟩ := stK_loc G T hst
            have hi : X.N[i]? = some x := by rw [G.nm]; exact idx_get e0
            refine (ps_set nodup hi k1 (ihX _ _ e1) (cE_noSwap hlc _ _ _) k2).imp fun Dn σ H q => ?_
            obtain ⟨r, S, m, h1, h2, h3⟩ := q
            simp only [evX] at h3
            exact ⟨r, S, m, h1, h2, px_xe h1 h3 fun a k p v H' m' u rd st => p _ _ _ u ((h1.up u).set i rd) st⟩
          · cases h
        · rename_i x px y py kt pt _
          split at h
          · rename_i a b kv pv _
            split at h
            · rename_i hp
              obtain ⟨i, e0, h⟩ := Option.bind_eq_some_iff.mp h
              obtain ⟨j, e1, h⟩ := Option.bind_eq_some_iff.mp h
              obtain ⟨c1, e2, h⟩ := Option.bind_eq_some_iff.mp h
              obtain ⟨c2, e3, h⟩ := Option.bind_eq_some_iff.mp h
              cases h
              obtain ⟨l1, l2, hne, s1, s2, hw⟩ := par_ok (pt := pt) (pt2 := pv) (kt := kt) (k2 := kv) G T.kd hp
              have hi : X.N[i]? = some x := by rw [G.nm]; exact idx_get e0
              have hj : X.N[j]? = some y := by rw [G.nm]; exact idx_get e1
              have hij : i ≠ j := fun e => by
                subst e
                rw [hi] at hj; cases hj
                exact hne rfl
              have PA1 := pa_cons (ihX _ _ e2) (pa_cons (ihE _ _ e3) pa_nil (star_no s2 _ _)) (star_no s1 _ _)
              refine (ps_par G.calm nodup hi hj hij l1 l2 PA1 hw).imp fun Dn σ H q => ?_
              obtain ⟨r, S, m, h1, h2, h3⟩ := q
              simp only [evX] at h3
              refine ⟨r, S, m, h1, h2, px_xe h1 h3 fun p k p2 v H' m' u rd st => ?_⟩
              obtain ⟨z, k2, h4⟩ := px_noE p2
              refine ⟨r, p.2, m', z.1, z.2, h1.up u, st, k2, fun w H2 m2 u2 rd2 st2 => ?_⟩
              exact ⟨v, w, rfl, h4 _ _ _ (u.trans u2) ((((h1.up u).up u2).set i (RepD.up u2 _ _ rd)).set j rd2) st2⟩
            · cases h
          · cases h
        · cases h
      · rename_i b hs els fin pos _
        split at h
        · rename_i x xp y es lp rp hp _
          split at h
          · rename_i hh
            obtain ⟨hd, hk, hdy, hky, hle⟩ := hh
            obtain ⟨f, e0, h⟩ := Option.bind_eq_some_iff.mp h
            obtain ⟨i, e1, h⟩ := Option.bind_eq_some_iff.mp h
            obtain ⟨cb, e2, h⟩ := Option.bind_eq_some_iff.mp h
            obtain ⟨ch, e3, h⟩ := Option.bind_eq_some_iff.mp h
            cases h
            obtain ⟨d1, d2, d3⟩ := dun hd
            obtain ⟨C, fI, TC⟩ := gx.cl x f e0
            obtain ⟨CR, hCR, _⟩ := TC.root
            have hi : X.N[i]? = some y := by rw [G.nm]; exact idx_get e1
            have hln : X.env.kindOf y = some .local := G.kind hky
            have hvis : Vis X.env.scope y := G.vis (.inl hky)
            refine (ps_try_as (c := .ref C) (tb := fun W => tX X W (evXs F cb)) (ts := fun a cls d => tRet (tLst (tHs X.K C CR a cls d i ch))) (Wout := W) gx.hs gx.hf nodup hi hln ⟨G.kind hk, d1, .inl TC.cm⟩ tk
              (fun W' pn xe tk' po' => xs_pss (X := X.tr pn xe) (W := W') (F := F) (g := g) (sc := sc) (xf := xf) (xc := xc) (n := n) (fun s c h => sndX n sc s c h (X.tr pn xe) W' (G.tr pn xe) ⟨po', T.fnT, T.kd⟩ (gx.tr pn xe) tk') b cb e2)
              (fun a oe cls d pn hz hf => pss_one (ps_ret (pe_lst (pa_hs G TC hCR hi hvis hdy hz hf es ch e3))))).imp fun Dn σ H q => ?_
            obtain ⟨r, S, m, h1, h2, h3⟩ := q
            simp only [evX] at h3
            refine ⟨r, S, m, h1, h2, ?_⟩
            cases q : evXs F cb r S with
            | ok z => rw [q] at h3; exact h3
            | no => rw [q] at h3; exact h3
            | ex e r' S' =>
              rw [q] at h3
              dsimp only at h3
              split at h3
              · rename_i hh
                obtain ⟨hx, hlt⟩ := hh
                split at h3
                · rename_i ds hds
                  intro σ' H' m' cls d u re st er
                  have hcl : cls = .ref C := by
                    obtain ⟨f', C', fI', T', hC, _⟩ := er
                    rw [hx] at T'
                    rw [hC, TC.same T']
                  refine ⟨true, by rw [hcl]; exact TC.exm, fun _ a ha => ?_, fun z => by cases z⟩
                  refine hs_ok TC hCR hx er (List.getElem?_set_self (by rw [← re.len]; exact hlt)) ch ds hds _ fun vs rr => ⟨?_, fun p hp => ?_⟩
                  · rw [← rr.length, hx_len e3 hds]
                    exact Nat.le_trans hle (by decide)
                  · obtain ⟨u2, st2, rd2⟩ := st.fresh hp rr
                    exact h3 _ _ _ (u.trans u2) rd2 st2
                · exact h3.elim
              · exact h3.elim
          · cases h
        · rename_i x xp y y2 py z pz w c0 c1 v pv kk pt pc rp hp _
          split at h
          · rename_i hh
            obtain ⟨hd, hk, hdy, hky, rfl, hdv, hkv, e0⟩ := hh
            obtain ⟨i, e1, h⟩ := Option.bind_eq_some_iff.mp h
            obtain ⟨k, e3, h⟩ := Option.bind_eq_some_iff.mp h
            obtain ⟨cb, e2, h⟩ := Option.bind_eq_some_iff.mp h
            cases h
            obtain ⟨d1, d2, d3⟩ := dun hd
            obtain ⟨C, fI, TC⟩ := gx.cl x _ e0
            have hi : X.N[i]? = some y2 := by rw [G.nm]; exact idx_get e1
            have hik : X.N[k]? = some v := by rw [G.nm]; exact idx_get e3
            have hln : X.env.kindOf y2 = some .local := G.kind hky
            have hvis : Vis X.env.scope y2 := G.vis (.inl hky)
            have hvis2 : Vis X.env.scope v := G.vis (.inl hkv)
            refine (ps_try_as (c := .ref C) (tb := fun W => tX X W (evXs F cb)) (ts := fun a cls d => tRet (tQx X.K C a cls d i z w k)) (Wout := W) gx.hs gx.hf nodup hi hln ⟨G.kind hk, d1, .inl TC.cm⟩ tk
              (fun W' pn xe tk' po' => xs_pss (X := X.tr pn xe) (W := W') (F := F) (g := g) (sc := sc) (xf := xf) (xc := xc) (n := n) (fun s c h => sndX n sc s c h (X.tr pn xe) W' (G.tr pn xe) ⟨po', T.fnT, T.kd⟩ (gx.tr pn xe) tk') b cb e2)
              (fun a oe cls d pn hz hf => pss_one (ps_ret (pe_qx G TC hi hvis hdy hik hvis2 hdv hz hf)))).imp fun Dn σ H q => ?_
            obtain ⟨r, S, m, h1, h2, h3⟩ := q
            simp only [evX] at h3
            refine ⟨r, S, m, h1, h2, ?_⟩
            cases q : evXs F cb r S with
            | ok z => rw [q] at h3; exact h3
            | no => rw [q] at h3; exact h3
            | ex e r' S' =>
              rw [q] at h3
              dsimp only at h3
              split at h3
              · rename_i hh
                obtain ⟨hx, hlt, hki⟩ := hh
                split at h3
                · rename_i t ht
                  intro σ' H' m' cls d u re st er
                  have hcl : cls = .ref C := by
                    obtain ⟨f', C', fI', T', hC, _⟩ := er
                    rw [hx] at T'
                    rw [hC, TC.same T']
                  refine ⟨true, by rw [hcl]; exact TC.exm, fun _ a ha => ?_, fun z => by cases z⟩
                  refine qx_ok TC hx er (List.getElem?_set_self (by rw [← re.len]; exact hlt)) (fun dk hdk => ?_) st ht _ fun H2 m2 u2 st2 => h3 _ _ _ (u.trans u2) (mk_bl _) st2
                  obtain ⟨v0, g1, g2⟩ := re.at_ k dk hdk
                  exact ⟨v0, by rw [List.getElem?_set_ne (Ne.symm hki)]; exact g1, g2⟩
                · exact h3.elim
              · exact h3.elim
          · cases h
        · cases h
      · cases h
end
end Ev
set_option autoImplicit false
set_option linter.all false
namespace Ev
open PySem
open L2
open PySem.Spec
open PyProof.Rows
section
variable {K : PySem.W.Frag} {H : Hp} {m m' t : List Addr}
mutual
theorem rep_cut (e : m' = m ++ t) : ∀ (d : D) (v : V), RepD K H m' d v → d.und m.length = true → RepD K H m d v
  | .non, v, h, _ => by simpa only [RepD] using h
  | .bl _, v, h, _ => by simpa only [RepD] using h
  | .int _, v, h, _ => by simpa only [RepD] using h
  | .str _, v, h, _ => by simpa only [RepD] using h
  | .loc k, v, h, hk => by
    simp only [RepD] at h ⊢
    obtain ⟨a, h1, h2⟩ := h
    simp only [D.und, decide_eq_true_eq] at hk
    rw [e, List.getElem?_append_left hk] at h1
    exact ⟨a, h1, h2⟩
  | .tup xs, v, h, hk => by
    simp only [RepD] at h ⊢
    obtain ⟨a, vs, h1, h2, h3⟩ := h
    exact ⟨a, vs, h1, h2, repL_cut e xs vs h3 (by simpa only [D.und] using hk)⟩
  | .frz xs, v, h, hk => by
    simp only [RepD] at h ⊢
    obtain ⟨a, vs, h1, h2, h3⟩ := h
    exact ⟨a, vs, h1, h2, repL_cut e xs vs h3 (by simpa only [D.und] using hk)⟩
theorem repL_cut (e : m' = m ++ t) : ∀ (ds : List D) (vs : List V), RepL K H m' ds vs → D.undL m.length ds = true → RepL K H m ds vs
  | [], vs, h, _ => by simpa only [RepL] using h
  | d :: ds, vs, h, hk => by
    simp only [RepL] at h ⊢
    obtain ⟨v, r, h1, h2, h3⟩ := h
    simp only [D.undL, Bool.and_eq_true] at hk
    exact ⟨v, r, h1, rep_cut e d v h2 hk.1, repL_cut e ds r h3 hk.2⟩
end
theorem undK_of {m0 : List Addr} {H0 : Hp} : ∀ (kvs : List (Ky × D)) (ws : List (Key × V)), RepK K H0 m0 kvs ws → D.undL m0.length (kvs.map (·.2)) = true
  | [], _, _ => by simp [D.undL]
  | p :: kvs, ws, h => by
    simp only [RepK] at h
    obtain ⟨v, r, _, h2, h3⟩ := h
    simp only [List.map_cons, D.undL, Bool.and_eq_true]
    exact ⟨(und_of p.2 v h2).1, undK_of kvs r h3⟩
theorem repK_cut (e : m' = m ++ t) : ∀ (kvs : List (Ky × D)) (ws : List (Key × V)), RepK K H m' kvs ws → D.undL m.length (kvs.map (·.2)) = true → RepK K H m kvs ws
  | [], ws, h, _ => by simpa only [RepK] using h
  | p :: kvs, ws, h, hk => by
    simp only [RepK] at h ⊢
    obtain ⟨v, r, h1, h2, h3⟩ := h
    simp only [List.map_cons, D.undL, Bool.and_eq_true] at hk
    exact ⟨v, r, h1, rep_cut e _ v h2 hk.1, repK_cut e kvs r h3 hk.2⟩
theorem trim_ok {H0 : Hp} {S S1 : Sto} {d : D} {v : V} (st : RSt K H0 m S) (u : Up H0 m H m') (st1 : RSt K H m' S1) (rd : RepD K H m' d v) : ∃ m2, Up H0 m H m2 ∧ RepD K H m2 d v ∧ RSt K H m2 (trim S S1 d) := by
  unfold trim
  split
  · rename_i ht
    obtain ⟨t, e⟩ := u.pre
    rw [← st.len]
    have hlen : m.length ≤ S1.length := by rw [← st1.len, e]; simp
    refine ⟨m, ⟨u.tup, u.frl, u.frt, [], by simp⟩, rep_cut e d v rd (by rw [st.len]; exact ht.1), ⟨by rw [List.length_take]; omega, st.nd, fun i c hc => ?_⟩⟩
    have hi : i < m.length := by
      have := (List.getElem?_eq_some_iff.mp hc).1
      rw [List.length_take] at this; omega
    rw [List.getElem?_take_of_lt hi] at hc
    obtain ⟨a, h1, h2⟩ := st1.at_ i c hc
    rw [e, List.getElem?_append_left hi] at h1
    refine ⟨a, h1, ?_⟩
    have hu : c.und m.length = true := by
      rcases ht.2 i c (by rw [← st.len]; exact hi) hc with h3 | h3
      · obtain ⟨b, _, h4⟩ := st.at_ i c h3
        cases c with
        | lst xs =>
          obtain ⟨vs, _, h5⟩ := h4
          exact und_of.undL_of xs vs h5
        | dct kvs =>
          obtain ⟨ws, _, h5⟩ := h4
          exact undK_of kvs ws h5
      · rw [st.len]; exact h3
    cases c with
    | lst xs =>
      obtain ⟨vs, h4, h5⟩ := h2
      exact ⟨vs, h4, repL_cut e xs vs h5 hu⟩
    | dct kvs =>
      obtain ⟨ws, h4, h5⟩ := h2
      exact ⟨ws, h4, repK_cut e kvs ws h5 hu⟩
  · exact ⟨m', u, rd, st1⟩
end
section
variable {P : Program} {w : World} {K : PySem.W.Frag} {mg : Str → Option Value} {base : Heap} {gl : List (Str × Gn)} {kw : List (Nat × Nat × List Str)} {defs : Nat → Option DefE}
theorem frz_of {H : Hp} {a : Addr} {vs : List V} (o : Only H) (h : SqL K H a vs) : FrzL K H a vs := by
  rcases h with (h | h) | h
  · rcases o a with z | ⟨ob, xs, z⟩
    · rw [z] at h; cases h
    · rw [z] at h; cases h
  · exact .inl h
  · exact .inr (.inr h)
/-- what the head wants of the law's def -/
theorem law_G {mb : Str → Option Value} {k : Nat} {fa a : Addr} {fd : FuncData} {x : Str} {sp : Sp} {s1 : Shared} {vs : List Value} {ns : List Int} (KX : K.In s1.heap) (hns : s1.heap.Ns mainGlobals mg) (hb : s1.heap.Ns builtinsNs mb)
    (hbb : ∀ x : Str, x ≠ "__name__" → mb x = bootBuiltins x) (hlim : s1.heap.NoLimit) (hg : s1.gens = #[]) (ha : s1.heap.get? a = some { cls := .type "list", data := .seq vs.toArray }) (hi : IntsAre vs ns) (hl : ns.length ≤ sizeLine) (hr : Room k callerA)
    (F : ∀ base : Heap, FnG P w K mg base k fa fd [x] sp) (hbind : ∀ (s : Shared) (u : Value), BindsTo s fd ⟨[u], []⟩ [(x, u)])
    (hsp : ∀ H : Hp, Only H → SqL K H a (ns.map V.int) → sp [.ref a] H (fun v _ => v = .bl true) E0) :
    codeAny (model P w) callerA (.call (.ref fa) ⟨[.ref a], []⟩) (fun r s' => r = .ok (.ret (.bool true)) ∧ OldK s1.heap s'.heap ∧ s'.os = s1.os ∧ AllBare s'.gens) s1 := by
  have valsI := vals_ints hi
  have lenV := hi.length
  suffices core : ∀ H : Hp, Only H → SqL K H a (ns.map V.int) → HOk P w H s1.heap → (∀ b u, H b = some u → b = a ∧ K.lookup a = none) →
      codeAny (model P w) callerA (.call (.ref fa) ⟨[.ref a], []⟩) (fun r s' => r = .ok (.ret (.bool true)) ∧ OldK s1.heap s'.heap ∧ s'.os = s1.os ∧ AllBare s'.gens) s1 by
    cases hk : K.lookup a with
    | some o =>
      have e := KX a o hk
      rw [ha] at e
      cases e
      exact core (fun _ => none) (fun _ => .inl rfl) (.inr ⟨_, vs.toArray, _, hk, rfl, rfl, rfl, by rw [List.size_toArray, lenV]; exact hl, by simpa using valsI⟩) (fun b u z => by cases z) (fun b u z => by cases z)
    | none =>
      have at1 : (fun b => if b = a then some (HO.frz { cls := .type "list", data := .seq vs.toArray } (.lst (ns.map V.int))) else none : Hp) a = some (.frz { cls := .type "list", data := .seq vs.toArray } (.lst (ns.map V.int))) := if_pos rfl
      have other : ∀ b u, (fun b => if b = a then some (HO.frz { cls := .type "list", data := .seq vs.toArray } (.lst (ns.map V.int))) else none : Hp) b = some u → b = a ∧ u = .frz { cls := .type "list", data := .seq vs.toArray } (.lst (ns.map V.int)) := fun b u z => by
        by_cases hb : b = a
        · subst hb
          rw [at1] at z
          exact ⟨rfl, (Option.some.inj z).symm⟩
        · have z' : (none : Option HO) = some u := (if_neg hb).symm.trans z
          cases z'
      refine core _ (fun b => ?_) (.inl (.inr ⟨_, at1⟩)) (fun b u z => ?_) fun b u z => ⟨(other b u z).1, hk⟩
      · by_cases hb : b = a
        · exact .inr ⟨_, _, by subst hb; exact at1⟩
        · exact .inl (if_neg hb)
      · obtain ⟨rfl, rfl⟩ := other b u z
        exact ⟨ha, by rw [List.length_map]; exact hl, vs, _, valsI, ha⟩
  intro H hO hS hok hA
  have lies : ∀ {b : Addr} {o : Obj}, s1.heap.get? b = some o → H b = none → (hidT s1.heap H).get? b = some o := fun e n => hidT_get e n
  have dictFree : ∀ {b : Addr} {o : Obj} {es : Array DictEntry} {ep : Nat}, s1.heap.get? b = some o → o.data = .dict es ep → H b = none := fun {b o es ep} e hd => by
    cases q : H b with
    | none => rfl
    | some u =>
      obtain ⟨rfl, _⟩ := hA b u q
      rw [ha] at e; cases e
      have hd' : Data.seq vs.toArray _ = Data.dict es ep := hd
      cases hd'
  have nsAt : ∀ {b : Addr} {m : Str → Option Value}, s1.heap.Ns b m → (hidT s1.heap H).Ns b m := fun {b m} ⟨o, es, ep, e, hd, r⟩ => ⟨o, es, ep, lies e (dictFree e hd), hd, r⟩
  have KIn : K.In (hidT s1.heap H) := fun b o e => by
    refine lies (KX b o e) ?_
    cases q : H b with
    | none => rfl
    | some u =>
      obtain ⟨rfl, hk⟩ := hA b u q
      rw [hk] at e; cases e
  have M : Mod K mg (hidT s1.heap H) := ⟨KIn, nsAt hns, ⟨mb, nsAt hb, hbb⟩, let ⟨mc, h1, h2⟩ := hlim; ⟨mc, nsAt h1, h2⟩⟩
  have entry : Env0 P w K mg (hidT s1.heap H) callerA [] s1 H :=
    { frames := rfl, mod := M, bs := fun b o e => of_hidT e, bsz := Nat.le_of_eq (hidT_size _ _), funs := trivial, frf := fun b hb => absurd (show b ∈ ([] : List Addr) from hb) (by simp), hok := hok, bare := .of_eq hg }
  refine codeAny_mono ((F _).run callerA [] s1 H ⟨[.ref a], []⟩ [.ref a] [.ref a] _ hr rfl entry (hbind s1 (.ref a)) (.cons rfl .nil) (hsp H hO hS)) fun r s' h => ?_
  match r, h with
  | .error e, h => exact False.elim h
  | .ok .next, h => exact False.elim h
  | .ok .brk, h => exact False.elim h
  | .ok .cont, h => exact False.elim h
  | .ok (.ret u), ⟨v, H', os, bare, un, hok', rv, q⟩ =>
    have q' : v = .bl true := q
    subst q'
    have hu : u = Value.bool true := rv
    subst hu
    refine ⟨rfl, OldK.of_keep fun b o e => ?_, os, bare⟩
    cases z : H b with
    | none => exact un.keep b o e z (fun h => absurd (show b ∈ ([] : List Addr) from h) (by simp)) (by simp)
    | some u =>
      rcases hO b with y | ⟨ob, xs, y⟩
      · rw [z] at y; cases y
      · have y2 := un.frzs b ob _ y
        have e1 := (hok b _ y).1
        have e2 := (hok' b _ y2).1
        rw [e] at e1; cases e1
        exact e2
end
end Ev
set_option autoImplicit false
set_option linter.all false
namespace Ev
open PySem
open L2
open PySem.Spec
open PyProof.Rows
theorem look_all {β : Type} {P : Str → β → Prop} : ∀ {l : List (Str × β)}, (∀ p ∈ l, P p.1 p.2) → ∀ x v, l.lookup x = some v → P x v
  | [], _, _, _, h => by cases h
  | (y, b) :: l, h, x, v, e => by
    rw [List.lookup_cons] at e
    cases q : x == y with
    | true =>
      rw [q] at e
      have hx : x = y := by simpa using q
      subst hx
      cases e
      exact h (x, _) List.mem_cons_self
    | false =>
      rw [q] at e
      exact look_all (fun p hp => h p (List.mem_cons_of_mem _ hp)) x v e
theorem sqL_rep {K : PySem.W.Frag} {H : Hp} {a : Addr} {ns : List Int} (o : Only H) (h : SqL K H a (ns.map V.int)) : RepL K H [] [.frz (ns.map .int)] [.ref a] := by
  refine RepL.one ?_
  simp only [RepD]
  exact ⟨a, _, rfl, frz_of o h, RepL.ints ns⟩
end Ev
set_option autoImplicit false
set_option linter.all false
namespace Ev
open PySem
open L2
open PySem.Spec
open PyProof.Rows
section
variable {N ps : List Str} {scope : Scope}
/-- where a def keeps its arguments -/
theorem arg_kinds (S : FnScope N ps scope) (n : Nat) (us : List Value) (y : Str × Value) (among : y ∈ ps.zip us) :
    scope.names.lookup y.1 = some .local ∨ scope.names.lookup y.1 = some .cell ∧ ((cellsFrom n scope.names []).lookup y.1).isSome = true := by
  have isP : y.1 ∈ ps := by
    cases y
    exact (List.of_mem_zip among).left
  cases S.par y.1 isP with
  | inl plain => exact Or.inl plain
  | inr shared => exact Or.inr (And.intro shared (PySem.W.cellsFrom_some _ _ _ (Or.inl shared)))
/-- what a call answers by its body's end -/
def ansOf : Flow → Value
  | .ret v => v
  | _ => .none
/-- a body that has ended as it should has an answer -/
theorem answer_of {X : Cx} {P : Program} {w : World} {outer : List PySem.Env} {H : Hp} {s s' : Shared} {Q : VK} {fl : Flow} (eP : X.prog = P) (eW : X.w = w)
    (rest : ∀ (σ' : L2.St) (H' : Hp), Inv X [] σ' H' s' → s'.os = s.os ∧ AllBare s'.gens ∧ Un (frs outer) [] H H' s.heap s'.heap) (ends : SP X [] { nx := fun _ H' => Q .non H', rt := Q } fl s') :
    CE outer P w H s Q (ansOf fl) s' := by
  subst eP eW
  rcases fl with _ | _ | _ | u
  · obtain ⟨σ', H', J, q⟩ := ends
    obtain ⟨c1, c2, c3⟩ := rest σ' H' J
    exact ⟨.non, H', c1, c2, c3, J.hok, rfl, q⟩
  · exact (ends.elim fun _ t => t.elim fun _ u => u.2).elim
  · exact (ends.elim fun _ t => t.elim fun _ u => u.2).elim
  · obtain ⟨v, σ', H', J, same, q⟩ := ends
    obtain ⟨c1, c2, c3⟩ := rest σ' H' J
    exact ⟨v, H', c1, c2, c3, J.hok, same, q⟩
/-- a def of the law that may raise keeps its promise where its body does -/
theorem fn_P {P : Program} {w : World} {K : PySem.W.Frag} {mg : Str → Option Value} {base : Heap} {k : Nat} {f : Addr} {name qual : Str} {params : Arguments} {body : List Stmt} {dV kV doc pm cdv ct oc : Value} {an od : Option Addr} {osl : Array (Option Value)} {sp : Sp}
    (isF : K.lookup f = some ⟨oc, od, .func (PySem.W.fnOf name qual params body scope dV kV doc pm an cdv ct), osl⟩) (isCode : PySem.W.codeIn K cdv qual = true) (S : FnScope N ps scope) (many : ∀ vs H Q E, sp vs H Q E → vs.length = ps.length)
    (walk : ∀ (A : Around) (outer : List PySem.Env) (s : Shared) (H : Hp) (vs : List V) (Q : VK) (E : XK), Room k (A.deeper (envOfC qual scope s.heap.objs.size f cdv)) → A.guards = some [] → sp vs H Q E →
      ∃ t, PSs (cxOf (L2.CX P w) P w K mg base N qual scope f cdv A outer s H E) body t ∧ t { nx := fun _ H' => Q .non H', rt := Q } (L2.start N vs) H) :
    FnP P w K mg base (k + 1) f (PySem.W.fnOf name qual params body scope dV kV doc pm an cdv ct) ps sp where
  len := many
  run := by
    intro A outer s H args us vs Q E room quiet e0 bound same want
    have stays : ∀ (b : Addr) (o : Obj), base.get? b = some o → s.heap.get? b = some o := fun b o had => (e0.bs b o had).left
    have frag := e0.mod.kin.keeps stays
    apply codeAny_call_function room.depth (frag _ _ isF) rfl S.co S.gen rfl (PySem.W.codeRec_of frag isCode)
    apply bound
    apply wpAny_newFunctionEnv_cells S.kind (arg_kinds S _ us)
    rintro _ rfl s1 inside
    have X0 : Inv (cxOf (L2.CX P w) P w K mg base N qual scope f cdv A outer s H E) [] (L2.start N vs) H s1 := inv_start S room.hd e0 (many _ _ _ _ want) same inside
    obtain ⟨t, steps, goal⟩ := walk A outer s H vs Q E (room.deeper _) quiet want
    constructor
    · exact (e0.mod.nolimit.keeps stays).keeps inside.toInCall.keep
    apply codeAny_func
    refine wpAny_mono (steps.run [] s1 (L2.start N vs) H _ X0 goal) (fun fl s' ends => ?_) fun _ _ out => out
    have told : CE outer P w H s Q (ansOf fl) s' := answer_of (X := cxOf (L2.CX P w) P w K mg base N qual scope f cdv A outer s H E) rfl rfl (fun σ' H' J => ⟨J.os, J.bare, J.base⟩) ends
    cases fl <;> exact told
end
inductive BodyE where
  | pl (b : List St) | xs (b : List Sx)
structure DefY where
  x : Str
  st : Stmt
  ps : List Str
  ns : List Str
  body : BodyE
def DefY.fn (d : DefY) : FnE := match d.body with
  | .pl b => .pl ⟨d.ps.length, d.ns.length, b⟩
  | .xs b => .xs ⟨d.ps.length, d.ns.length, b⟩
def tabX (defs : Nat → Option DefY) (i : Nat) : Option FnE := (defs i).map DefY.fn
structure PFX (prog : Program) (W : Params) (K : PySem.W.Frag) (mg : Str → Option Value) (gl : List (Str × Gn)) (kw : List (Nat × Nat × List Str)) (xf : List Nat) (xc : List (Str × Option Str)) (defs : Nat → Option DefY) : Prop where
  fn : ∀ x i ps, gl.lookup x = some (.fn i ps) → ∃ d f fd, defs i = some d ∧ d.ps = ps ∧ mg x = some (.ref f) ∧ Fun K d.x d.x d.st f fd ∧ Binds K fd ps [] ∧
    (∀ np ks, (i, np, ks) ∈ kw → ∀ gp, permOf ps np ks = some gp → ∀ (s : Shared) (us ws : List Value), K.In s.heap → us.length = np → ws.length = ks.length →
      (pickL gp (us ++ ws)).length = ps.length → BindsTo s fd ⟨us, ks.zip ws⟩ (ps.zip (pickL gp (us ++ ws)))) ∧ (xf.contains i = true → ∃ b, d.body = .xs b)
  cst : ∀ x d, gl.lookup x = some (.cst d) → ∃ v u, mg x = some u ∧ RelV v u ∧ ∀ H m, RepD K H m d v
  blt : ∀ x, gl.lookup x = some .blt → mg x = none
  gdc : ∀ x kvs, gl.lookup x = some (.gdc kvs) → ∃ a, mg x = some (.ref a) ∧ GDct W K a kvs
  sc : ∀ i d, defs i = some d → FnScope d.ns d.ps (defScope d.st)
  cp : ∀ i d b, defs i = some d → d.body = .pl b → mapO (cS ⟨d.ns, gl, kw⟩ 40 (defScope d.st)) (defBody d.st) = some b
  cx : ∀ i d b, defs i = some d → d.body = .xs b → mapO (cX ⟨d.ns, gl, kw⟩ xf xc 40 (defScope d.st)) (defBody d.st) = some b
  cl : ∀ x f, xc.lookup x = some f → ∃ C fI, ClsX prog K mg x f C fI
section
variable {P : Program} {w : World} {K : PySem.W.Frag} {mg : Str → Option Value} {base : Heap} {gl : List (Str × Gn)} {kw : List (Nat × Nat × List Str)} {xf : List Nat} {xc : List (Str × Option Str)} {defs : Nat → Option DefY}
theorem FnP.toG {k : Nat} {f : Addr} {fd : FuncData} {ps : List Str} {F : Nat → List D → Sto → R (D × Sto)} {i : Nat} (p : FnP P w K mg base k f fd ps (spX P K mg F i)) : FnG P w K mg base k f fd ps (spF K F i) := by
  have up : ∀ vs H Q E, spF K F i vs H Q E → spX P K mg F i vs H Q E := fun vs H Q E h => by
    obtain ⟨S, m, ds, d, S', h1, h2, h3, h4⟩ := h
    exact ⟨S, m, ds, h1, h2, by rw [h3]; exact h4⟩
  refine ⟨fun vs H Q E h => p.len _ _ _ _ (up _ _ _ _ h), fun A outer s H args us vs Q hr hgd e0 hb r h => ?_⟩
  refine codeAny_mono (p.run A outer s H args us vs Q E0 hr hgd e0 hb r (up _ _ _ _ h)) fun r s' hq => ?_
  match r with
  | .error e =>
    obtain ⟨a, B, H', cls, d, _, _, _, _, _, _, _, z⟩ := hq
    exact z.elim
  | .ok (.ret u) => exact hq
  | .ok .next => exact hq
  | .ok .brk => exact hq
  | .ok .cont => exact hq
theorem all_X (pf : PFX P w.params K mg gl kw xf xc defs) : ∀ (l i : Nat) (d : DefY) (f : Addr) (fd : FuncData), defs i = some d → Fun K d.x d.x d.st f fd →
    FnG P w K mg base l f fd d.ps (spF K (callX (tabX defs) l) i) ∧ ((∃ b, d.body = .xs b) → FnP P w K mg base l f fd d.ps (spX P K mg (callX (tabX defs) l) i))
  | 0, i, d, f, fd, hd, hf => by
    refine ⟨⟨fun vs H Q E h => ?_, fun A outer s H args us vs Q _ _ _ _ _ h => ?_⟩, fun _ => ⟨fun vs H Q E h => ?_, fun A outer s H args us vs Q E _ _ _ _ _ h => ?_⟩⟩
    · obtain ⟨S, m, ds, dd, S', _, _, e, _⟩ := h; cases e
    · obtain ⟨S, m, ds, dd, S', _, _, e, _⟩ := h; cases e
    · obtain ⟨S, m, ds, _, _, e⟩ := h; exact e.elim
    · obtain ⟨S, m, ds, _, _, e⟩ := h; exact e.elim
  | l + 1, i, d, f, fd, hd, hf => by
    obtain ⟨oc, od, kV, doc, pm, an, cdv, ct, osl, rfl, lk, hcd⟩ := hf.ex
    have SC := pf.sc i d hd
    have fnAll : ∀ x j ps, gl.lookup x = some (.fn j ps) → ∃ f fd, mg x = some (.ref f) ∧ PySem.W.keepIn K (.ref f) = true ∧ FnG P w K mg base l f fd ps (spF K (callX (tabX defs) l) j) ∧ Binds K fd ps [] ∧
        (∀ np ks, (j, np, ks) ∈ kw → ∀ gp, permOf ps np ks = some gp → ∀ (s : Shared) (us ws : List Value), K.In s.heap → us.length = np → ws.length = ks.length →
          (pickL gp (us ++ ws)).length = ps.length → BindsTo s fd ⟨us, ks.zip ws⟩ (ps.zip (pickL gp (us ++ ws)))) ∧ (xf.contains j = true → FnP P w K mg base l f fd ps (spX P K mg (callX (tabX defs) l) j)) := by
      intro x j ps hx
      obtain ⟨d', f', fd', h1, h2, h3, h4, h5, h6, h7⟩ := pf.fn x j ps hx
      obtain ⟨a1, a2⟩ := all_X pf l j d' f' fd' h1 h4
      subst h2
      exact ⟨f', fd', h3, h4.kp, a1, h5, h6, fun hc => a2 (h7 hc)⟩
    cases hb : d.body with
    | pl b =>
      have hT : tabX defs i = some (.pl ⟨d.ps.length, d.ns.length, b⟩) := by unfold tabX; rw [hd]; show some d.fn = _; unfold DefY.fn; rw [hb]
      have step : ∀ ds S, callX (tabX defs) (l + 1) i ds S = runFn (callX (tabX defs) l) ⟨d.ps.length, d.ns.length, b⟩ ds S := fun ds S => by simp only [callX, hT]
      refine ⟨?_, fun ⟨_, h⟩ => by cases h⟩
      refine fn_G lk hcd SC (fun vs H Q E h => ?_) (fun A outer s H vs Q hr hgd h => ?_)
      · obtain ⟨S, m, ds, dd, S', r, _, e, _⟩ := h
        rw [step] at e
        obtain ⟨hl, _⟩ := when_ok e
        rw [← r.length]; exact hl
      · obtain ⟨S, m, ds, dd, S', r, st, e, hq⟩ := h
        rw [step] at e
        obtain ⟨hl, e⟩ := when_ok e
        obtain ⟨fl, e1, e⟩ := bi_eq_ok e
        have G : Gd (cxOf CX0 P w K mg base d.ns d.x (defScope d.st) f cdv A outer s H E0).nox ⟨d.ns, gl, kw⟩ (callX (tabX defs) l) l (defScope d.st) :=
          { nm := rfl, nd := SC.nd, sc := rfl, calm := rfl, room := hr, gd := hgd,
            fn := fun x j ps hx => by
              obtain ⟨f', fd', a1, a2, a3, a4, a5, _⟩ := fnAll x j ps hx
              exact ⟨f', fd', ⟨a1, a2, a3, a4, a5⟩⟩
            cst := pf.cst, blt := pf.blt, gdc := pf.gdc }
        have T : Gs (cxOf CX0 P w K mg base d.ns d.x (defScope d.st) f cdv A outer s H E0).nox := ⟨PassesOwn.never, fun _ => rfl, SC.kind⟩
        refine ⟨_, IHs_pss 40 (fun s' c' h' => sndS 40 _ s' c' h' _ G T) _ _ (pf.cp i d b hd hb), _, S, m, fl, start_env r _ (by show d.ns.length - d.ps.length = _; rw [show ds.length = d.ps.length from hl]), st, e1, ?_⟩
        cases fl with
        | rt dv S1 =>
          cases ok_inj e
          intro v H' m' u rd st1
          obtain ⟨m2, u2, rd2, st2⟩ := trim_ok st u st1 rd
          exact hq v H' m2 u2 rd2 st2
        | nx r' S1 =>
          cases ok_inj e
          intro σ' H' m' u re st1
          obtain ⟨m2, u2, rd2, st2⟩ := trim_ok st u st1 (mk_non (K := K) (H := H') (m := m'))
          exact hq .non H' m2 u2 rd2 st2
        | ct _ _ => cases e
        | bk _ _ => cases e
    | xs b =>
      have hT : tabX defs i = some (.xs ⟨d.ps.length, d.ns.length, b⟩) := by unfold tabX; rw [hd]; show some d.fn = _; unfold DefY.fn; rw [hb]
      have step : ∀ ds S, callX (tabX defs) (l + 1) i ds S = runX (callX (tabX defs) l) ⟨d.ps.length, d.ns.length, b⟩ ds S := fun ds S => by simp only [callX, hT]
      have PP : FnP P w K mg base (l + 1) f (PySem.W.fnOf d.x d.x (defArgs d.st) (defBody d.st) (defScope d.st) .none kV doc pm an cdv ct) d.ps (spX P K mg (callX (tabX defs) (l + 1)) i) := by
        have hlen : ∀ (ds : List D) (S : Sto) (α : Prop), (match callX (tabX defs) (l + 1) i ds S with | .ok p => True | .err e S' => True | .no => False) → ds.length = d.ps.length := fun ds S α h => by
          rw [step] at h
          unfold runX Ev.when at h
          by_cases hl : ds.length = d.ps.length
          · exact hl
          · rw [if_neg hl] at h; exact h.elim
        refine fn_P lk hcd SC (fun vs H Q E h => ?_) (fun A outer s H vs Q E hr hgd h => ?_)
        · obtain ⟨S, m, ds, r, _, e⟩ := h
          rw [← r.length]
          refine hlen ds S True ?_
          revert e
          cases callX (tabX defs) (l + 1) i ds S with
          | ok p => exact fun _ => trivial
          | err x y => exact fun _ => trivial
          | no => exact fun h => h
        · obtain ⟨S, m, ds, r, st, hq⟩ := h
          rw [step] at hq
          unfold runX Ev.when at hq
          by_cases hl : ds.length = d.ps.length
          · rw [if_pos hl] at hq
            have G : Gd (cxOf (L2.CX P w) P w K mg base d.ns d.x (defScope d.st) f cdv A outer s H E) ⟨d.ns, gl, kw⟩ (callX (tabX defs) l) l (defScope d.st) :=
              { nm := rfl, nd := SC.nd, sc := rfl, calm := rfl, room := hr, gd := hgd,
                fn := fun x j ps hx => by
                  obtain ⟨f', fd', a1, a2, a3, a4, a5, _⟩ := fnAll x j ps hx
                  exact ⟨f', fd', ⟨a1, a2, a3, a4, a5⟩⟩
                cst := pf.cst, blt := pf.blt, gdc := pf.gdc }
            have T : Gs (cxOf (L2.CX P w) P w K mg base d.ns d.x (defScope d.st) f cdv A outer s H E) := ⟨passes_of rfl, fun _ => rfl, SC.kind⟩
            have gx : GX (cxOf (L2.CX P w) P w K mg base d.ns d.x (defScope d.st) f cdv A outer s H E) ⟨d.ns, gl, kw⟩ (callX (tabX defs) l) l xf xc :=
              { fn := fun x j ps hx hc => by
                  obtain ⟨f', fd', a1, a2, a3, a4, a5, p⟩ := fnAll x j ps hx
                  exact ⟨f', fd', ⟨a1, a2, a3, a4, a5⟩, p hc⟩
                cl := pf.cl, hs := rfl, hf := rfl }
            have tk : Takes (cxOf (L2.CX P w) P w K mg base d.ns d.x (defScope d.st) f cdv A outer s H E) (fun cls d _ H => E cls d H) := takes_of rfl rfl rfl rfl
            refine ⟨_, xs_pss (fun s' c' h' => sndX 40 _ s' c' h' _ _ G T gx tk) _ _ (pf.cx i d b hd hb), _, S, m, start_env r _ (by show d.ns.length - d.ps.length = _; rw [show ds.length = d.ps.length from hl]), st, ?_⟩
            show PX _ _ _ _ _ (evXs (callX (tabX defs) l) b (ds.map some ++ List.replicate (d.ns.length - d.ps.length) none) S)
            revert hq
            cases evXs (callX (tabX defs) l) b (ds.map some ++ List.replicate (d.ns.length - d.ps.length) none) S with
            | ok fl =>
              cases fl with
              | rt dv S1 =>
                intro hq v H' m' u rd st1
                obtain ⟨m2, u2, rd2, st2⟩ := trim_ok st u st1 rd
                exact hq v H' m2 u2 rd2 st2
              | nx r' S1 =>
                intro hq σ' H' m' u re st1
                obtain ⟨m2, u2, rd2, st2⟩ := trim_ok st u st1 (mk_non (K := K) (H := H') (m := m'))
                exact hq .non H' m2 u2 rd2 st2
              | ct _ _ => exact fun h => h.elim
              | bk _ _ => exact fun h => h.elim
            | ex e r' S1 =>
              intro hq σ' H' m' cls dd u re st1 er
              obtain ⟨f', C, fI, T', hC, h⟩ := er
              rcases h with ⟨h1, h2, h3⟩ | ⟨y, dv, d2, v, h1, h2, h3, h4, h5⟩
              · have ed : exD e = .non := by unfold exD; rw [h2]
                obtain ⟨m2, u2, rd2, st2⟩ := trim_ok st u st1 (mk_non (K := K) (H := H') (m := m'))
                exact hq H' m2 cls dd u2 (by rw [ed]; exact st2) ⟨f', C, fI, T', hC, .inl ⟨h1, h2, h3⟩⟩
              · have ed : exD e = dv := by unfold exD; rw [h2]
                obtain ⟨m2, u2, rd2, st2⟩ := trim_ok st u st1 h5
                exact hq H' m2 cls dd u2 (by rw [ed]; exact st2) ⟨f', C, fI, T', hC, .inr ⟨y, dv, d2, v, h1, h2, h3, h4, rd2⟩⟩
            | no => exact fun h => h.elim
          · rw [if_neg hl] at hq
            exact hq.elim
      exact ⟨PP.toG, fun _ => PP⟩
end
/-- the goal that k_head leaves, from the facts of the program's defs and the evaluator's own run -/
theorem walk_X {l : PySem.W.OpenLaw} {q : Program} {loose : List Str} {XP : (Str → Option Value) → Heap → Prop} {YP : World → Heap → Prop} {d : DefRec} {K : Params → PySem.W.Frag} {x : Str} {gl : List (Str × Gn)} {kw : List (Nat × Nat × List Str)} {xf : List Nat} {xc : List (Str × Option Str)} {defs : Nat → Option DefY} {iL lev : Nat} {dL : DefY}
    (hn : l.most = some 63) (hdf : d.params.defaults = []) (hY : ∀ (w : World) (h : Heap), YP w h → (K w.params).In h) (hd : defs iL = some dL) (hps : dL.ps = [x]) (hlev : lev ≤ 100)
    (F : ∀ (w : World) (mg : Str → Option Value) (fa : Addr) (h : Heap), (K w.params).In h → h.Ns mainGlobals mg → mg d.name = some (.ref fa) →
      PFX l.prog w.params (K w.params) mg gl kw xf xc defs ∧ ∃ fd, Fun (K w.params) dL.x dL.x dL.st fa fd ∧ ∀ (s : Shared) (v : Value), BindsTo s fd ⟨[v], []⟩ [(x, v)])
    (run : ∀ ns : List Int, ns.length ≤ 63 → ∃ S', callX (tabX defs) lev iL [.frz (ns.map .int)] [] = .ok (.bl true, S')) :
    PySem.W.WalkO q loose XP YP l.row.toRowW d [] (fun f vs => PySem.call f vs) := by
  refine Att.attach_call hn hdf fun w s0 s1 mg mb fa o pm cd doc a vs ns G Y ho hdd hcd hmg hobj hints hlen hg => ?_
  have KX := hY w _ Y
  obtain ⟨pf, fd, hF, hb⟩ := F w mg fa _ KX G.T.g hmg
  have hr : Room lev callerA := by
    have r : Room 100 callerA := ⟨rfl, by decide, by decide⟩
    exact r.mono hlev
  refine law_G KX G.T.g G.T.b G.T.builtins G.T.nolimit hg hobj hints (Nat.le_trans hlen (by decide)) hr (fun base => ?_) hb (sp := spF (K w.params) (callX (tabX defs) lev) iL) (fun H hO hS => ?_)
  · have := (all_X (P := l.prog) (w := w) (base := base) pf lev iL dL fa fd hd hF).1
    rw [hps] at this
    exact this
  · obtain ⟨S', e⟩ := run ns hlen
    exact ⟨[], [], [.frz (ns.map .int)], .bl true, S', sqL_rep hO hS, ⟨rfl, List.nodup_nil, fun i c h => by simp at h⟩, e, fun v H' m' _ rd _ => rep_bl rd⟩
end Ev
set_option autoImplicit false
set_option linter.all false
namespace Ev
open PySem
open L2
theorem exm_one {K : PySem.W.Frag} {C : Addr} (h1 : PySem.W.subIn K (.ref C) (.type "BaseException") = some true) (hc : (PySem.W.clsIn K C).isSome = true) (h3 : PySem.W.typeIn K (.ref C) = some (.type "type")) (h4 : PySem.W.subIn K (.ref C) (.ref C) = some true) :
    PySem.W.exmOne K (.ref C) (.ref C) = some true := by
  have e1 : (PySem.W.subIn K (.ref C) (.type "BaseException") == some true) = true := by rw [h1] <;> rfl
  have e2 : ((PySem.W.clsIn K C).isSome && PySem.W.typeIn K (.ref C) == some (.type "type")) = true := by
    rw [hc, h3] <;> rfl
  show (if (PySem.W.subIn K (.ref C) (.type "BaseException") == some true) = true then (if ((PySem.W.clsIn K C).isSome && PySem.W.typeIn K (.ref C) == some (.type "type")) = true then PySem.W.subIn K (.ref C) (.ref C) else none) else none) = some true
  rw [if_pos e1, if_pos e2]
  exact h4
/-- one class, from what the written part says of it -/
theorem cls_mk {prog : Program} {K : PySem.W.Frag} {h : Heap} {mg : Str → Option Value} {x : Str} {f : Option Str} {C R fI cc cda N : Addr} {nm q : Str} {bs : List Value} {sn : List Str} {sub : List Value} {ab : Bool} {col : Option Bool} {dd : Option Addr} {m0 m1 m2 m3 m5 : Option Value}
    {oc doc pm ct : Value} {od an : Option Addr} {osl : Array (Option Value)} {p1 p2 q0 q1 q2 q3 q4 q5 q6 q7 q8 q9 : Pos} {j : Nat} {qual msg : Str} {cl : Value} {cld : Option Addr} {csl : Array (Option Value)} {ccl : Value} {cdd : Option Addr} {vs : Array Value} {ccs : Array (Option Value)} {file : Str} {tf : Tok}
    (X : K.In h) (G : h.Ns mainGlobals mg) (fo : Sup.FldOk f)
    (aC : PySem.W.nsIn K mainGlobals x = some (some (.ref C))) (aR : PySem.W.nsIn K mainGlobals "RoomError" = some (some (.ref R)))
    (xL : K.lookup C = some (excClassObj nm q C N bs [.ref R, .type "ValueError", .type "Exception", .type "BaseException", .type "object"] true sn sub ab col dd m0 m1 m2 m3 m5 "ValueError.__new__"))
    (sa : PySem.W.findIn K (.ref C) "__setattr__" = some (some (.builtin "object.__setattr__"))) (ga : PySem.W.findIn K (.ref C) "__getattribute__" = some (some (.builtin "BaseException.__getattribute__"))) (gg : PySem.W.findIn K (.ref C) "__getattr__" = some none)
    (nb : ∀ y, f = some y → PySem.W.findIn K (.ref C) y = some none)
    (a1 : PySem.W.findIn K (.ref C) "__init__" = some (some (.ref fI))) (t1 : PySem.W.typeIn K (.ref fI) = some (.type "function")) (kC : PySem.W.keepIn K (.ref C) = true) (eC : PySem.W.subIn K (.ref C) (.type "BaseException") = some true) (tC : PySem.W.typeIn K (.ref C) = some (.type "type"))
    (hC : PySem.W.hasDictIn K C = true) (vC : PySem.W.subIn K (.ref C) (.type "ValueError") = some true) (su : PySem.W.ks_superIn K C C "__init__" = some (some (.builtin "ValueError.__init__"))) (ms : PySem.W.mroIn K C (.ref C) = some true)
    (nS : PySem.W.nsIn K mainGlobals "super" = some none) (tp : PySem.W.nsIn K cStatics "thirdparty.any" = some none) (top : (prog.main.scope.names.lookup ("super" : Str)).isSome = false)
    (l1 : K.lookup fI = some ⟨oc, od, .func (PySem.W.ksFn "__init__" qual (Sup.iA f p1 p2) (Sup.iB msg f j q0 q1 q2 q3 q4 q5 q6 q7 q8 q9) (Sup.iS f) .none .none doc pm an (.ref cda) ct cc), osl⟩) (c1 : PySem.W.codeIn K (.ref cda) qual = true)
    (l2 : K.lookup cc = some ⟨cl, cld, .cell (some (.ref C)), csl⟩) (l3 : K.lookup cda = some ⟨ccl, cdd, .fields vs, ccs⟩) (v2 : vs[2]? = some (.str file tf)) (fl : ((prog.main.file : Str) == file) = true) (ps : (q2.endLine == q4.line) = true)
    (sC : PySem.W.subIn K (.ref C) (.ref C) = some true) (k0 : PySem.W.isClsIn K C = true) (k1 : PySem.W.findIn K (.ref C) "__class__" = some (some (.builtin "object.__class__")))
    (k2 : PySem.W.specialIn K (.builtin "object.__class__") "__get__" = some (some (.builtin "getset_descriptor.__get__"))) (k3 : PySem.W.takesIn K (.builtin "object.__class__") = some true) (k4 : PySem.W.mroIn K C (.type "object") = some true)
    (ko : PySem.W.kitOne K (.ref C) (.ref R) = some true) : ∃ C fI, ClsX prog K mg x f C fI := by
  refine ⟨C, fI, PySem.W.mg_of X G aC, ?_, fo, exm_one eC k0 tC sC, k0, k1, k2, k3, k4, R, PySem.W.mg_of X G aR, ko⟩
  have hcls : ∃ nm q N bs bm sn sub ab col dd k0 k1 k2 k3 k5, K.lookup C = some (excClassObj nm q C N bs bm true sn sub ab col dd k0 k1 k2 k3 k5 "ValueError.__new__") ∧ PySem.HandSPX.refsVE bm = true := ⟨nm, q, N, bs, _, sn, sub, ab, col, dd, m0, m1, m2, m3, m5, xL, by first | rfl | decide⟩
  exact ⟨hcls, sa, ga, gg, nb, a1, t1, kC, eC, tC, hC, vC, su, ms, nS, tp, top,
    ⟨oc, od, doc, pm, an, ct, osl, p1, p2, q0, q1, q2, q3, q4, q5, q6, q7, q8, q9, j, qual, msg, cc, cda, cl, cld, csl, ccl, cdd, vs, ccs, file, tf, l1, c1, l2, l3, v2, fl, ps⟩⟩
end Ev
set_option autoImplicit false
set_option linter.all false
namespace Ev
open PySem
/-- the result is there and P holds of it -/
def Rs {α : Type} (m : R α) (P : α → Prop) : Prop := ∃ a, m = .ok a ∧ P a
theorem Rs.mono {α : Type} {m : R α} {P Q : α → Prop} (h : Rs m P) (w : ∀ a, P a → Q a) : Rs m Q := let ⟨a, e, p⟩ := h; ⟨a, e, w a p⟩
@[simp] theorem Rs_ok {α : Type} (a : α) (P : α → Prop) : Rs (.ok a) P ↔ P a := ⟨fun ⟨b, e, p⟩ => by cases ok_inj e; exact p, fun p => ⟨a, rfl, p⟩⟩
@[simp] theorem Rs_no {α : Type} (P : α → Prop) : Rs (.no : R α) P ↔ False := ⟨fun ⟨b, e, p⟩ => (by cases e), False.elim⟩
@[simp] theorem Rs_bi {α β : Type} (m : R α) (f : α → R β) (P : β → Prop) : Rs (m.bi f) P ↔ Rs m fun a => Rs (f a) P :=
  ⟨fun ⟨b, e, p⟩ => let ⟨a, e1, e2⟩ := bi_eq_ok e; ⟨a, e1, b, e2, p⟩, fun ⟨a, e1, b, e2, p⟩ => ⟨b, by rw [e1]; exact e2, p⟩⟩
@[simp] theorem Rs_opt {α : Type} (o : Option α) (P : α → Prop) : Rs (opt o) P ↔ ∃ a, o = some a ∧ P a :=
  ⟨fun ⟨a, e, p⟩ => ⟨a, opt_eq_ok e, p⟩, fun ⟨a, e, p⟩ => ⟨a, by rw [e]; rfl, p⟩⟩
@[simp] theorem Rs_when {α : Type} (c : Prop) [Decidable c] (r : R α) (P : α → Prop) : Rs (when c r) P ↔ c ∧ Rs r P :=
  ⟨fun ⟨a, e, p⟩ => let ⟨hc, e⟩ := when_ok e; ⟨hc, a, e, p⟩, fun ⟨hc, a, e, p⟩ => ⟨a, by rw [when_pos hc]; exact e, p⟩⟩
theorem Rs_eq {α : Type} {m : R α} {a : α} {P : α → Prop} (e : m = .ok a) (p : P a) : Rs m P := ⟨a, e, p⟩
section
variable (F : Nat → List D → Sto → R (D × Sto)) (r : Env) (S : Sto)
@[simp] theorem ev_var (i : Nat) : ev F (.var i) r S = match r[i]? with | some (some d) => .ok (d, S) | _ => .no := (rfl)
@[simp] theorem ev_cst (d : D) : ev F (.cst d) r S = .ok (d, S) := (rfl)
@[simp] theorem ev_una (o : UnaryOp) (a : C) : ev F (.una o a) r S = (ev F a r S).bi fun p => (unaD o p.1).bi fun d => .ok (d, p.2) := (rfl)
@[simp] theorem ev_bin (o : Operator) (a b : C) : ev F (.bin o a b) r S = (ev F a r S).bi fun p => (ev F b r p.2).bi fun q => binD o p.1 q.1 q.2 := (rfl)
@[simp] theorem ev_cmp (o : CmpOp) (a b : C) : ev F (.cmp o a b) r S = (ev F a r S).bi fun p => (ev F b r p.2).bi fun q => (cmpD o p.1 q.1 q.2).bi fun t => .ok (.bl t, q.2) := (rfl)
@[simp] theorem ev_cmp2 (o o2 : CmpOp) (a b c : C) : ev F (.cmp2 o o2 a b c) r S = (ev F a r S).bi fun p => (ev F b r p.2).bi fun q => (cmpD o p.1 q.1 q.2).bi fun t =>
      if t = true then (ev F c r q.2).bi fun z => (cmpD o2 q.1 z.1 z.2).bi fun u => .ok (.bl u, z.2) else .ok (.bl false, q.2) := (rfl)
@[simp] theorem ev_and (a b : C) : ev F (.and a b) r S = (ev F a r S).bi fun p => (tru p.1 p.2).bi fun t => if t = true then ev F b r p.2 else .ok p := (rfl)
@[simp] theorem ev_or (a b : C) : ev F (.or a b) r S = (ev F a r S).bi fun p => (tru p.1 p.2).bi fun t => if t = true then .ok p else ev F b r p.2 := (rfl)
@[simp] theorem ev_not (a : C) : ev F (.not a) r S = (ev F a r S).bi fun p => (tru p.1 p.2).bi fun t => .ok (.bl (!t), p.2) := (rfl)
@[simp] theorem ev_ife (c a b : C) : ev F (.ife c a b) r S = (evT F c r S).bi fun p => if p.1 = true then ev F a r p.2 else ev F b r p.2 := (rfl)
@[simp] theorem ev_tup (es : List C) : ev F (.tup es) r S = (evL F es r S).bi fun p => .ok (.tup p.1, p.2) := (rfl)
@[simp] theorem ev_lst (es : List C) : ev F (.lst es) r S = (evL F es r S).bi fun p => .ok (.loc p.2.length, p.2 ++ [.lst p.1]) := (rfl)
@[simp] theorem ev_sub (a i : C) : ev F (.sub a i) r S = (ev F a r S).bi fun p => (ev F i r p.2).bi fun q => (subX p.1 q.1 q.2).bi fun d => .ok (d, q.2) := (rfl)
@[simp] theorem ev_slc (a lo hi : C) (hl hh : Bool) : ev F (.slc a hl lo hh hi) r S = (ev F a r S).bi fun p => (partD hl (ev F lo) r p.2).bi fun q => (partD hh (ev F hi) r q.2).bi fun z => slcD p.1 q.1 z.1 z.2 := (rfl)
@[simp] theorem ev_call (f : Nat) (es : List C) : ev F (.call f es) r S = (evL F es r S).bi fun p => F f p.1 p.2 := (rfl)
@[simp] theorem ev_calk (f : Nat) (es ks : List C) (g : List Nat) : ev F (.calk f es ks g) r S = (evL F es r S).bi fun p => (evL F ks r p.2).bi fun q => (opt (perm g (p.1 ++ q.1))).bi fun ds => F f ds q.2 := (rfl)
@[simp] theorem ev_blt (b : B) (es : List C) : ev F (.blt b es) r S = (evL F es r S).bi fun p => bltD b p.1 p.2 := (rfl)
@[simp] theorem ev_lrng (es : List C) : ev F (.lrng es) r S = (evL F es r S).bi fun p => match p.1 with
    | [.int j] => when (rgOk 0 j) (.ok (.loc p.2.length, p.2 ++ [.lst (rg 0 j)]))
    | [.int i, .int j] => when (rgOk i j) (.ok (.loc p.2.length, p.2 ++ [.lst (rg i j)]))
    | [.int i, .int j, .int c] => when (c = -1 ∧ rgOk j i) (.ok (.loc p.2.length, p.2 ++ [.lst (rgD i j)]))
    | _ => .no := (rfl)
@[simp] theorem ev_dmt (m : DM) (o : C) (es : List C) : ev F (.dmt m o es) r S = (ev F o r S).bi fun p => (opt (dctO p.2 p.1)).bi fun _ => (evL F es r p.2).bi fun q => dmtD m p.1 q.1 q.2 := (rfl)
@[simp] theorem ev_dic (es : List C) : ev F (.dic es) r S = (evL F es r (S ++ [.dct []])).bi fun p => match p.2[S.length]? with
    | some (.dct []) => (opt (twoUp p.1)).bi fun kvs => .ok (.loc S.length, p.2.set S.length (.dct (kvMerge [] kvs)))
    | _ => .no := (rfl)
@[simp] theorem ev_mth (m : M) (o : C) (es : List C) : ev F (.mth m o es) r S = (ev F o r S).bi fun p => (opt (isLst p.2 p.1)).bi fun _ => (evL F es r p.2).bi fun q => mthD m p.1 q.1 q.2 := (rfl)
@[simp] theorem ev_isi (t : Ty) (a : C) : ev F (.isi t a) r S = (ev F a r S).bi fun p => (isiD t p.1 p.2).bi fun b => .ok (.bl b, p.2) := (rfl)
@[simp] theorem ev_rev (a : C) : ev F (.rev a) r S = (ev F a r S).bi fun p => revD p.1 p.2 := (rfl)
@[simp] theorem ev_srs (a : C) : ev F (.srs a) r S = (ev F a r S).bi fun p => srsD p.1 p.2 := (rfl)
@[simp] theorem ev_gget (kvs : List (Str × Int)) (a b : C) : ev F (.gget kvs a b) r S = (ev F a r S).bi fun p => (ev F b r p.2).bi fun q => ggetD kvs p.1 q.1 q.2 := (rfl)
@[simp] theorem ev_lset (a : C) : ev F (.lset a) r S = (ev F a r S).bi fun p => lsetD p.1 p.2 := (rfl)
@[simp] theorem ev_srv (a : C) : ev F (.srv a) r S = (ev F a r S).bi fun p => srvD p.1 p.2 := (rfl)
@[simp] theorem ev_lit (a : C) : ev F (.lit a) r S = (ev F a r S).bi fun p => litD p.1 p.2 := (rfl)
@[simp] theorem ev_trng (es : List C) : ev F (.trng es) r S = (evL F es r S).bi fun p => match p.1 with
    | [.int j] => when (rgOk 0 j) (.ok (.tup (rg 0 j), p.2))
    | [.int i, .int j] => when (rgOk i j) (.ok (.tup (rg i j), p.2))
    | _ => .no := (rfl)
@[simp] theorem evT_isi (t : Ty) (a : C) : evT F (.isi t a) r S = (ev F (.isi t a) r S).bi fun p => (tru p.1 p.2).bi fun t => .ok (t, p.2) := (rfl)
noncomputable def lcStep (x : C) (own : List Nat) (p : Pt) (cond : C) (d : D) (S1 : Sto) : R (Option D × Sto) := (opt (bindP p d (wipeE r own))).bi fun r1 => (evT F cond r1 S1).bi fun t =>
        if t.1 = true then (ev F x r1 t.2).bi fun q => .ok (some q.1, q.2) else .ok (none, t.2)
@[simp] theorem ev_lc (x : C) (own : List Nat) (p : Pt) (k : Ev.K) (src : List C) (cond : C) : ev F (.lc x own p k src cond) r S = (evL F src r S).bi fun z => (srcD k z.1 z.2).bi fun it =>
      (lcGo it.2 z.2.length (lcStep F r x own p cond) it.1 (z.2 ++ [.lst []])).bi fun S2 => .ok (.loc z.2.length, S2) := (rfl)
@[simp] theorem evL_nil : evL F [] r S = .ok ([], S) := (rfl)
@[simp] theorem evL_cons (e : C) (es : List C) : evL F (e :: es) r S = (ev F e r S).bi fun p => (evL F es r p.2).bi fun q => .ok (p.1 :: q.1, q.2) := (rfl)
@[simp] theorem evT_and (a b : C) : evT F (.and a b) r S = (evT F a r S).bi fun p => if p.1 = true then evT F b r p.2 else .ok (false, p.2) := (rfl)
@[simp] theorem evT_or (a b : C) : evT F (.or a b) r S = (evT F a r S).bi fun p => if p.1 = true then .ok (true, p.2) else evT F b r p.2 := (rfl)
@[simp] theorem evT_not (a : C) : evT F (.not a) r S = (evT F a r S).bi fun p => .ok (!p.1, p.2) := (rfl)
@[simp] theorem evT_ife (c a b : C) : evT F (.ife c a b) r S = (evT F c r S).bi fun p => if p.1 = true then evT F a r p.2 else evT F b r p.2 := (rfl)
@[simp] theorem evT_cmp (o : CmpOp) (a b : C) : evT F (.cmp o a b) r S = (ev F a r S).bi fun p => (ev F b r p.2).bi fun q => (cmpD o p.1 q.1 q.2).bi fun t => .ok (t, q.2) := by
  show ((ev F (.cmp o a b) r S).bi fun p => (tru p.1 p.2).bi fun t => .ok (t, p.2)) = _
  rw [ev_cmp]
  cases ev F a r S with
  | ok p =>
    simp only [bi_ok]
    cases ev F b r p.2 with
    | ok q =>
      simp only [bi_ok]
      cases cmpD o p.1 q.1 q.2 with
      | ok t => rfl
      | _ => rfl
    | _ => rfl
  | _ => rfl
@[simp] theorem evT_var (i : Nat) : evT F (.var i) r S = (ev F (.var i) r S).bi fun p => (tru p.1 p.2).bi fun t => .ok (t, p.2) := (rfl)
@[simp] theorem evT_cst (d : D) : evT F (.cst d) r S = (tru d S).bi fun t => .ok (t, S) := (rfl)
@[simp] theorem evT_call (f : Nat) (es : List C) : evT F (.call f es) r S = (ev F (.call f es) r S).bi fun p => (tru p.1 p.2).bi fun t => .ok (t, p.2) := (rfl)
@[simp] theorem evT_calk (f : Nat) (es ks : List C) (g : List Nat) : evT F (.calk f es ks g) r S = (ev F (.calk f es ks g) r S).bi fun p => (tru p.1 p.2).bi fun t => .ok (t, p.2) := (rfl)
@[simp] theorem evT_sub (a i : C) : evT F (.sub a i) r S = (ev F (.sub a i) r S).bi fun p => (tru p.1 p.2).bi fun t => .ok (t, p.2) := (rfl)
@[simp] theorem evT_blt (b : B) (es : List C) : evT F (.blt b es) r S = (ev F (.blt b es) r S).bi fun p => (tru p.1 p.2).bi fun t => .ok (t, p.2) := (rfl)
@[simp] theorem evT_cmp2 (o o2 : CmpOp) (a b c : C) : evT F (.cmp2 o o2 a b c) r S = (ev F (.cmp2 o o2 a b c) r S).bi fun p => (tru p.1 p.2).bi fun t => .ok (t, p.2) := (rfl)
@[simp] theorem evSs_nil : evSs F [] r S = .ok (.nx r S) := by simp only [evSs]
@[simp] theorem evSs_cons (s : St) (ss : List St) : evSs F (s :: ss) r S = (evS F s r S).bi fun f => match f with
    | .nx r' S' => evSs F ss r' S'
    | f => .ok f := by simp only [evSs] <;> rfl
@[simp] theorem evS_asg (p : Pt) (e : C) : evS F (.asg p e) r S = (ev F e r S).bi fun z => (opt (bindP p z.1 r)).bi fun r' => .ok (.nx r' z.2) := by simp only [evS]
@[simp] theorem evS_par (i j : Nat) (a b : C) : evS F (.par i j a b) r S = (ev F a r S).bi fun p => (ev F b r p.2).bi fun q => .ok (.nx ((r.set i (some p.1)).set j (some q.1)) q.2) := by simp only [evS]
@[simp] theorem evS_par3 (i j l : Nat) (a b c : C) : evS F (.par3 i j l a b c) r S = (ev F a r S).bi fun p => (ev F b r p.2).bi fun q => (ev F c r q.2).bi fun z => .ok (.nx (((r.set i (some p.1)).set j (some q.1)).set l (some z.1)) z.2) := by simp only [evS]
@[simp] theorem evS_brk : evS F .brk r S = .ok (.bk r S) := by simp only [evS]
@[simp] theorem evS_sset (o i e : C) : evS F (.sset o i e) r S = (ev F e r S).bi fun v => (ev F o r v.2).bi fun p => (ev F i r p.2).bi fun q => (setX p.1 q.1 v.1 q.2).bi fun S' => .ok (.nx r S') := (rfl)
@[simp] theorem evS_asb (o i : C) (w : Nat) (e : C) : evS F (.asb o i w e) r S = (ev F e r S).bi fun z => match z.1 with
    | .tup [a, b] => (ev F o r z.2).bi fun p => (ev F i r p.2).bi fun q => (setX p.1 q.1 a q.2).bi fun S' => .ok (.nx (r.set w (some b)) S')
    | _ => .no := by first | (simp only [evS]; done) | (simp only [evS]; rfl)
@[simp] theorem evS_abs (o i : C) (w : Nat) (e : C) : evS F (.abs o i w e) r S = (ev F e r S).bi fun z => match z.1 with
    | .tup [a, b] => (ev F o (r.set w (some a)) z.2).bi fun p => (ev F i (r.set w (some a)) p.2).bi fun q => (setX p.1 q.1 b q.2).bi fun S' => .ok (.nx (r.set w (some a)) S')
    | _ => .no := by first | (simp only [evS]; done) | (simp only [evS]; rfl)
@[simp] theorem evS_exp (e : C) : evS F (.exp e) r S = (ev F e r S).bi fun p => .ok (.nx r p.2) := by simp only [evS]
@[simp] theorem evS_ret (e : C) : evS F (.ret e) r S = (ev F e r S).bi fun p => .ok (.rt p.1 p.2) := by simp only [evS]
@[simp] theorem evS_iff (c : C) (a b : List St) : evS F (.iff c a b) r S = (evT F c r S).bi fun t => if t.1 = true then evSs F a r t.2 else evSs F b r t.2 := by simp only [evS]
@[simp] theorem evS_whl (c : C) (b : List St) : evS F (.whl c b) r S = whileR (evT F c) (evSs F b) r S := by simp only [evS]
@[simp] theorem evS_fr (p : Pt) (k : Ev.K) (src : List C) (b : List St) : evS F (.fr p k src b) r S = (evL F src r S).bi fun z => (srcD k z.1 z.2).bi fun it => frGo it.2 p (evSs F b) it.1 r z.2 := by simp only [evS]
@[simp] theorem evS_pass : evS F .pass r S = .ok (.nx r S) := by simp only [evS]
@[simp] theorem evS_cnt : evS F .cnt r S = .ok (.ct r S) := by simp only [evS]
end
@[simp] theorem bindP_nm (i : Nat) (d : D) (r : Env) : bindP (.nm i) d r = some (r.set i (some d)) := by simp only [bindP]
@[simp] theorem bindP_tp (ps : List Pt) (ds : List D) (r : Env) : bindP (.tp ps) (.tup ds) r = bindPs ps ds r := by simp only [bindP]
@[simp] theorem bindPs_nil (r : Env) : bindPs [] [] r = some r := by simp only [bindPs]
@[simp] theorem bindPs_cc (p : Pt) (ps : List Pt) (d : D) (ds : List D) (r : Env) : bindPs (p :: ps) (d :: ds) r = (bindP p d r).bind fun r' => bindPs ps ds r' := by
  simp only [bindPs]
  cases bindP p d r <;> rfl
@[simp] theorem wipeE_nil (r : Env) : wipeE r [] = r := (rfl)
@[simp] theorem wipeE_cc (r : Env) (v : Nat) (vs : List Nat) : wipeE r (v :: vs) = (wipeE r vs).set v none := (rfl)
@[simp] theorem partD_f (v : Env → Sto → R (D × Sto)) (r : Env) (S : Sto) : partD false v r S = .ok (none, S) := (rfl)
@[simp] theorem partD_t (v : Env → Sto → R (D × Sto)) (r : Env) (S : Sto) : partD true v r S = (v r S).bi fun p => match p.1 with
    | .int i => .ok (some i, p.2)
    | _ => .no := (rfl)
open Classical in
/-- a for -/
theorem frGo_by {g : G} {p : Pt} {b : Env → Sto → R Fl} {xs : List D} {r : Env} {S : Sto} {P : Fl → Prop} (I : Nat → Env → Sto → Prop) (h0 : I 0 r S) (hg : ∀ i r S, i ≤ xs.length → I i r S → gok g S)
    (hs : ∀ i d r S, xs[i]? = some d → I i r S → ∃ r1, bindP p d r = some r1 ∧ Rs (b r1 S) fun f => match f with
      | .nx r' S' => I (i + 1) r' S'
      | .ct r' S' => I (i + 1) r' S'
      | .bk r' S' => P (.nx r' S')
      | .rt d S' => P (.rt d S')) (hd : ∀ r S, I xs.length r S → P (.nx r S)) : Rs (frGo g p b xs r S) P := by
  have main : ∀ (n i : Nat) (r : Env) (S : Sto), n = xs.length - i → i ≤ xs.length → I i r S → Rs (frGo g p b (xs.drop i) r S) P := by
    intro n
    induction n with
    | zero =>
      intro i r S hn hi h
      have e : i = xs.length := by omega
      subst e
      rw [List.drop_length]
      simp only [frGo]
      rw [if_pos (hg _ _ _ hi h)]
      exact (Rs_ok _ _).mpr (hd _ _ h)
    | succ n ih =>
      intro i r S hn hi h
      have hlt : i < xs.length := by omega
      rw [List.drop_eq_getElem_cons hlt]
      simp only [frGo]
      rw [if_pos (hg _ _ _ hi h)]
      obtain ⟨r1, e1, f, e2, q⟩ := hs i _ r S (List.getElem?_eq_getElem hlt) h
      rw [e1, opt_some, bi_ok, e2, bi_ok]
      cases f with
      | nx r' S' => exact ih (i + 1) r' S' (by omega) hlt q
      | ct r' S' => exact ih (i + 1) r' S' (by omega) hlt q
      | bk r' S' => exact (Rs_ok _ _).mpr q
      | rt d S' => exact (Rs_ok _ _).mpr q
  have := main xs.length 0 r S (by simp) (Nat.zero_le _) h0
  rwa [List.drop_zero] at this
open Classical in
/-- a list comprehension; the new list lies at n -/
theorem lcGo_by {g : G} {n : Nat} {step : D → Sto → R (Option D × Sto)} {xs : List D} {S : Sto} {P : Sto → Prop} (I : Nat → Sto → Prop) (h0 : I 0 S) (hg : ∀ i S, i ≤ xs.length → I i S → gok g S)
    (hs : ∀ i d S, xs[i]? = some d → I i S → Rs (step d S) fun q => match q.1 with
      | none => I (i + 1) q.2
      | some x => ∃ acc, isLst q.2 (.loc n) = some acc ∧ acc.length < 16777216 ∧ I (i + 1) (q.2.set n (.lst (acc ++ [x])))) (hd : ∀ S, I xs.length S → P S) : Rs (lcGo g n step xs S) P := by
  have main : ∀ (k i : Nat) (S : Sto), k = xs.length - i → i ≤ xs.length → I i S → Rs (lcGo g n step (xs.drop i) S) P := by
    intro k
    induction k with
    | zero =>
      intro i S hn hi h
      have e : i = xs.length := by omega
      subst e
      rw [List.drop_length]
      simp only [lcGo]
      rw [if_pos (hg _ _ hi h)]
      exact (Rs_ok _ _).mpr (hd _ h)
    | succ k ih =>
      intro i S hn hi h
      have hlt : i < xs.length := by omega
      rw [List.drop_eq_getElem_cons hlt]
      simp only [lcGo]
      rw [if_pos (hg _ _ hi h)]
      obtain ⟨q, e1, hq⟩ := hs i _ S (List.getElem?_eq_getElem hlt) h
      rw [e1, bi_ok]
      cases e : q.1 with
      | none =>
        rw [e] at hq
        exact ih (i + 1) q.2 (by omega) hlt hq
      | some x =>
        rw [e] at hq
        obtain ⟨acc, e2, e3, e4⟩ := hq
        simp only
        rw [e2, opt_some, bi_ok, when_pos e3]
        exact ih (i + 1) _ (by omega) hlt e4
  have := main xs.length 0 S (by simp) (Nat.zero_le _) h0
  rwa [List.drop_zero] at this
theorem set_last {S : Sto} {c c' : Cell} : (S ++ [c]).set S.length c' = S ++ [c'] := by
  rw [List.set_append_right _ _ (Nat.le_refl _), Nat.sub_self]; rfl
theorem at_last {S : Sto} {c : Cell} : (S ++ [c])[S.length]? = some c := by
  rw [List.getElem?_append_right (Nat.le_refl _), Nat.sub_self]; rfl
theorem isLst_last {S : Sto} {xs : List D} : isLst (S ++ [.lst xs]) (.loc S.length) = some xs := by
  unfold isLst; simp only [at_last]
theorem isLst_at {S : Sto} {k : Nat} {xs : List D} (h : S[k]? = some (.lst xs)) : isLst S (.loc k) = some xs := by
  unfold isLst; simp only [h]
theorem at_app {S : Sto} {k : Nat} {c : Cell} (h : S[k]? = some c) (T : Sto) : (S ++ T)[k]? = some c := by
  rw [List.getElem?_append_left (List.getElem?_eq_some_iff.mp h).1]; exact h
/-- a comprehension whose steps leave the store as it is -/
theorem gok_app {g : G} {S : Sto} (hg : gok g S) (T : Sto) : gok g (S ++ T) := by
  cases g with
  | no => trivial
  | one p => exact at_app hg T
  | two p q => exact ⟨at_app hg.1 T, at_app hg.2 T⟩
  | thr p q o => exact ⟨at_app hg.1 T, at_app hg.2.1 T, at_app hg.2.2 T⟩
theorem lc_pure {g : G} {step : D → Sto → R (Option D × Sto)} {xs : List D} {S : Sto} (f : D → Option D) (hg : gok g S) (hl : xs.length ≤ 16777216)
    (hs : ∀ d ∈ xs, ∀ acc, step d (S ++ [.lst acc]) = .ok (f d, S ++ [.lst acc])) : lcGo g S.length step xs (S ++ [.lst []]) = .ok (S ++ [.lst (xs.filterMap f)]) := by
  have hg' : ∀ acc, gok g (S ++ [.lst acc]) := fun acc => gok_app hg _
  suffices h : Rs (lcGo g S.length step xs (S ++ [.lst []])) fun S2 => S2 = S ++ [.lst (xs.filterMap f)] by
    obtain ⟨S2, e, rfl⟩ := h
    exact e
  refine lcGo_by (fun i S1 => S1 = S ++ [.lst ((xs.take i).filterMap f)]) (by simp) (fun i S1 _ e => by rw [e]; exact hg' _) (fun i d S1 hi e => ?_) (fun S1 e => by rw [e, List.take_length])
  subst e
  have hd : d ∈ xs := List.mem_of_getElem? hi
  refine Rs_eq (hs d hd _) ?_
  have hlt := (List.getElem?_eq_some_iff.mp hi).1
  have tk : xs.take (i + 1) = xs.take i ++ [d] := by rw [List.take_succ, hi]; rfl
  cases e : f d with
  | none => simp only; rw [tk, List.filterMap_append]; simp [e]
  | some x =>
    refine ⟨_, isLst_last, ?_, ?_⟩
    · have h1 : ((xs.take i).filterMap f).length ≤ (xs.take i).length := List.length_filterMap_le _ _
      rw [List.length_take] at h1
      omega
    · rw [set_last, tk, List.filterMap_append]; simp [e]
theorem runFn_by {F : Nat → List D → Sto → R (D × Sto)} {f : Fn} {ds : List D} {S : Sto} {P : D × Sto → Prop} (hl : ds.length = f.np)
    (h : Rs (evSs F f.body (ds.map some ++ List.replicate (f.nn - f.np) none) S) fun r => match r with
      | .rt d S1 => P (d, trim S S1 d)
      | .nx _ S1 => P (.non, trim S S1 .non)
      | _ => False) : Rs (runFn F f ds S) P := by
  unfold runFn
  rw [when_pos hl]
  obtain ⟨r, e, p⟩ := h
  rw [e, bi_ok]
  cases r with
  | rt d S1 => exact (Rs_ok _ _).mpr p
  | nx r S1 => exact (Rs_ok _ _).mpr p
  | ct _ _ => exact p.elim
  | bk _ _ => exact p.elim
theorem trim_app {S T : Sto} {d : D} (h : d.und S.length = true) : trim S (S ++ T) d = S := by
  unfold trim
  rw [if_pos]
  · rw [List.take_left' rfl]
  · refine ⟨h, fun i c hi hc => .inl ?_⟩
    rw [List.getElem?_append_left hi] at hc
    exact hc
theorem trim_self {S : Sto} {d : D} : trim S S d = S := by
  unfold trim
  split
  · rw [List.take_length]
  · rfl
@[simp] theorem items_tup (S : Sto) (xs : List D) : items S (.tup xs) = some xs := (rfl)
@[simp] theorem items_frz (S : Sto) (xs : List D) : items S (.frz xs) = some xs := (rfl)
theorem items_loc {S : Sto} {k : Nat} {xs : List D} (h : S[k]? = some (.lst xs)) : items S (.loc k) = some xs := by unfold Ev.items; simp only [h]
theorem itW_mono {c : Env → Sto → R (Bool × Sto)} {b : Env → Sto → R Fl} {f : Fl} : ∀ (n : Nat) {r : Env} {S : Sto}, itW c b n r S = .ok f → ∀ k, itW c b (n + k) r S = .ok f
  | 0, r, S, h, k => by simp [itW] at h
  | n + 1, r, S, h, k => by
    have e : n + 1 + k = (n + k) + 1 := by omega
    rw [e]
    simp only [itW] at h ⊢
    obtain ⟨t, e1, e2⟩ := bi_eq_ok h
    rw [e1, bi_ok]
    by_cases ht : t.1 = true
    · rw [if_pos ht] at e2 ⊢
      obtain ⟨g, e3, e4⟩ := bi_eq_ok e2
      rw [e3, bi_ok]
      cases g with
      | nx r' S' => exact itW_mono n e4 k
      | ct r' S' => exact itW_mono n e4 k
      | bk r' S' => exact e4
      | rt d S' => exact e4
    · rw [if_neg ht] at e2 ⊢
      exact e2
theorem whileR_eq {c : Env → Sto → R (Bool × Sto)} {b : Env → Sto → R Fl} {f : Fl} {n : Nat} {r : Env} {S : Sto} (h : itW c b n r S = .ok f) : whileR c b r S = .ok f := by
  have hh : ∃ n f, itW c b n r S = .ok f := ⟨n, f, h⟩
  unfold whileR
  rw [dif_pos hh]
  have h2 := hh.choose_spec.choose_spec
  have a1 := itW_mono _ h hh.choose
  have a2 := itW_mono _ h2 n
  rw [Nat.add_comm] at a2
  rw [a1] at a2
  exact a2.symm
theorem whileR_by {c : Env → Sto → R (Bool × Sto)} {b : Env → Sto → R Fl} {P : Fl → Prop} (I : Nat → Env → Sto → Prop)
    (hs : ∀ n r S, I n r S → Rs (c r S) fun t => if t.1 = true then Rs (b r t.2) fun f => match f with
      | .nx r' S' => ∃ m, m < n ∧ I m r' S'
      | .ct r' S' => ∃ m, m < n ∧ I m r' S'
      | .bk r' S' => P (.nx r' S')
      | .rt d S' => P (.rt d S')
      else P (.nx r t.2)) {n : Nat} {r : Env} {S : Sto} (h0 : I n r S) : Rs (whileR c b r S) P := by
  have main : ∀ (n : Nat) (r : Env) (S : Sto), I n r S → ∃ k f, itW c b k r S = .ok f ∧ P f := by
    intro n
    induction n using Nat.strongRecOn with
    | ind n ih =>
      intro r S h
      obtain ⟨t, e1, q⟩ := hs n r S h
      by_cases ht : t.1 = true
      · rw [if_pos ht] at q
        obtain ⟨f, e2, q⟩ := q
        cases f with
        | nx r' S' =>
          obtain ⟨m, hm, q⟩ := q
          obtain ⟨k, f, e3, p⟩ := ih m hm r' S' q
          exact ⟨k + 1, f, by simp only [itW]; rw [e1, bi_ok, if_pos ht, e2, bi_ok]; exact e3, p⟩
        | ct r' S' =>
          obtain ⟨m, hm, q⟩ := q
          obtain ⟨k, f, e3, p⟩ := ih m hm r' S' q
          exact ⟨k + 1, f, by simp only [itW]; rw [e1, bi_ok, if_pos ht, e2, bi_ok]; exact e3, p⟩
        | bk r' S' => exact ⟨1, _, by simp only [itW]; rw [e1, bi_ok, if_pos ht, e2, bi_ok], q⟩
        | rt d S' => exact ⟨1, _, by simp only [itW]; rw [e1, bi_ok, if_pos ht, e2, bi_ok], q⟩
      · rw [if_neg ht] at q
        exact ⟨1, _, by simp only [itW]; rw [e1, bi_ok, if_neg ht], q⟩
  obtain ⟨k, f, e, p⟩ := main n r S h0
  exact ⟨f, whileR_eq e, p⟩
def lstAt : Option Cell → Option (List D)
  | some (.lst xs) => some xs
  | _ => none
@[simp] theorem lstAt_some (xs : List D) : lstAt (some (.lst xs)) = some xs := (rfl)
@[simp] theorem isLst_locE (S : Sto) (k : Nat) : isLst S (.loc k) = lstAt S[k]? := by
  unfold isLst lstAt; rfl
@[simp] theorem items_locE (S : Sto) (k : Nat) : items S (.loc k) = lstAt S[k]? := by
  unfold Ev.items lstAt; rfl
def dctAt : Option Cell → Option (List (Ky × D))
  | some (.dct kvs) => some kvs
  | _ => none
@[simp] theorem dctAt_lst (xs : List D) : dctAt (some (.lst xs)) = none := (rfl)
@[simp] theorem dctAt_some (kvs : List (Ky × D)) : dctAt (some (.dct kvs)) = some kvs := (rfl)
@[simp] theorem lstAt_dct (kvs : List (Ky × D)) : lstAt (some (.dct kvs)) = none := (rfl)
theorem dctAt_of {c : Option Cell} {xs : List D} (h : lstAt c = some xs) : dctAt c = none := by
  unfold lstAt at h
  split at h
  · rfl
  · cases h
@[simp] theorem dctO_locE (S : Sto) (k : Nat) : dctO S (.loc k) = dctAt S[k]? := by
  unfold dctO dctAt; rfl
@[simp] theorem dctO_tup (S : Sto) (xs : List D) : dctO S (.tup xs) = none := (rfl)
@[simp] theorem dctO_frz (S : Sto) (xs : List D) : dctO S (.frz xs) = none := (rfl)
@[simp] theorem dctO_str (S : Sto) (x : Str) : dctO S (.str x) = none := (rfl)
@[simp] theorem keyO_int (i : Int) : keyO (.int i) = some (.inl i) := (rfl)
@[simp] theorem keyO_str (y : Str) : keyO (.str y) = some (.inr y) := (rfl)
@[simp] theorem subX_tup (xs : List D) (i : D) (S : Sto) : subX (.tup xs) i S = subD (.tup xs) i S := (rfl)
@[simp] theorem subX_frz (xs : List D) (i : D) (S : Sto) : subX (.frz xs) i S = subD (.frz xs) i S := (rfl)
@[simp] theorem subX_str (x : Str) (i : D) (S : Sto) : subX (.str x) i S = subD (.str x) i S := (rfl)
@[simp] theorem subX_loc (k : Nat) (i : D) (S : Sto) : subX (.loc k) i S = match dctAt S[k]? with
    | some kvs => (opt (keyO i)).bi fun k => opt (kvGet kvs k)
    | none => subD (.loc k) i S := by
  unfold subX; rw [dctO_locE]
  all_goals (cases dctAt S[k]? <;> rfl)
@[simp] theorem setX_locI (k : Nat) (n : Int) (v : D) (S : Sto) : setX (.loc k) (.int n) v S = match dctAt S[k]? with
    | some kvs => when (kvs.length < 16777216) (.ok (S.set k (.dct (kvPut kvs (.inl n) v))))
    | none => (opt (lstAt S[k]?)).bi fun xs => (opt (L2.ixN xs.length n)).bi fun m => .ok (S.set k (.lst (xs.set m v))) := by
  unfold setX; rw [dctO_locE]
  cases dctAt S[k]? with
  | some kvs => rfl
  | none =>
    show ((opt (isLst S (.loc k))).bi fun xs => (opt (L2.ixN xs.length n)).bi fun m => R.ok (S.set k (.lst (xs.set m v)))) = _
    rw [isLst_locE]
@[simp] theorem setX_locS (k : Nat) (y : Str) (v : D) (S : Sto) : setX (.loc k) (.str y) v S = (opt (dctAt S[k]?)).bi fun kvs => when (kvs.length < 16777216) (.ok (S.set k (.dct (kvPut kvs (.inr y) v)))) := by
  unfold setX; rw [dctO_locE]
  all_goals (cases dctAt S[k]? <;> rfl)
@[simp] theorem dmt_get1 (k : Nat) (i : D) (S : Sto) : dmtD .get (.loc k) [i] S = (opt (dctAt S[k]?)).bi fun kvs => (opt (keyO i)).bi fun y => .ok ((kvGet kvs y).getD .non, S) := by
  show (opt (dctO S (.loc k))).bi _ = _
  rw [dctO_locE]
@[simp] theorem dmt_get2 (k : Nat) (i d : D) (S : Sto) : dmtD .get (.loc k) [i, d] S = (opt (dctAt S[k]?)).bi fun kvs => (opt (keyO i)).bi fun y => .ok ((kvGet kvs y).getD d, S) := by
  show (opt (dctO S (.loc k))).bi _ = _
  rw [dctO_locE]
@[simp] theorem dmt_upd (k j : Nat) (S : Sto) : dmtD .update (.loc k) [.loc j] S = (opt (dctAt S[k]?)).bi fun kvs => when (k ≠ j) ((opt (dctAt S[j]?)).bi fun more => when (kvs.length + more.length ≤ 16777216) (.ok (.non, S.set k (.dct (kvMerge kvs more))))) := by
  show ((opt (dctO S (.loc k))).bi fun kvs => when (k ≠ j) ((opt (dctO S (.loc j))).bi _)) = _
  rw [dctO_locE, dctO_locE]
@[simp] theorem tail_at0 (S T : Sto) : (S ++ T)[S.length]? = T[0]? := by
  rw [List.getElem?_append_right (Nat.le_refl _), Nat.sub_self]
@[simp] theorem tail_at (S T : Sto) (j : Nat) : (S ++ T)[S.length + j]? = T[j]? := by
  rw [List.getElem?_append_right (by omega), Nat.add_sub_cancel_left]
@[simp] theorem tail_set0 (S T : Sto) (c : Cell) : (S ++ T).set S.length c = S ++ T.set 0 c := by
  rw [List.set_append_right _ _ (Nat.le_refl _), Nat.sub_self]
@[simp] theorem tail_set (S T : Sto) (j : Nat) (c : Cell) : (S ++ T).set (S.length + j) c = S ++ T.set j c := by
  rw [List.set_append_right _ _ (by omega), Nat.add_sub_cancel_left]
@[simp] theorem nth_cast {α : Type} (xs : List α) (j : Nat) : nth xs (j : Int) = xs[j]? := by
  unfold nth L2.atI L2.ixN
  rw [if_pos (by omega)]
  by_cases h : j < xs.length
  · rw [if_pos (by omega)]; simp
  · rw [if_neg (by omega), List.getElem?_eq_none (by omega)]; rfl
@[simp] theorem nth0 {α : Type} (xs : List α) : nth xs 0 = xs[0]? := nth_cast xs 0
@[simp] theorem nth1 {α : Type} (xs : List α) : nth xs 1 = xs[1]? := nth_cast xs 1
@[simp] theorem nth2 {α : Type} (xs : List α) : nth xs 2 = xs[2]? := nth_cast xs 2
@[simp] theorem subD_tup (xs : List D) (j : Int) (S : Sto) : subD (.tup xs) (.int j) S = opt (nth xs j) := by
  unfold subD; simp
@[simp] theorem subD_frz (xs : List D) (j : Int) (S : Sto) : subD (.frz xs) (.int j) S = opt (nth xs j) := by
  unfold subD; simp
@[simp] theorem subD_loc (S : Sto) (k : Nat) (j : Int) : subD (.loc k) (.int j) S = (opt (lstAt S[k]?)).bi fun xs => opt (nth xs j) := by
  unfold subD; simp
@[simp] theorem bi_opt {α β : Type} (a : Option α) (f : α → R β) (b : β) : (opt a).bi f = .ok b ↔ ∃ x, a = some x ∧ f x = .ok b := by
  cases a <;> simp [opt, R.bi]
theorem runFn_eq {F : Nat → List D → Sto → R (D × Sto)} {f : Fn} {ds : List D} {S S1 : Sto} {d : D} (hl : ds.length = f.np)
    (h : evSs F f.body (ds.map some ++ List.replicate (f.nn - f.np) none) S = .ok (.rt d S1)) : runFn F f ds S = .ok (d, trim S S1 d) := by
  unfold runFn
  rw [when_pos hl, h, bi_ok]
@[simp] theorem tru_non (S : Sto) : tru .non S = .ok false := (rfl)
@[simp] theorem tru_bl (b : Bool) (S : Sto) : tru (.bl b) S = .ok b := (rfl)
@[simp] theorem tru_int (i : Int) (S : Sto) : tru (.int i) S = .ok (i != 0) := (rfl)
@[simp] theorem tru_tup (xs : List D) (S : Sto) : tru (.tup xs) S = .ok (!xs.isEmpty) := (rfl)
@[simp] theorem tru_loc (k : Nat) (S : Sto) : tru (.loc k) S = match dctAt S[k]? with
    | some kvs => .ok (!kvs.isEmpty)
    | none => (opt (lstAt S[k]?)).bi fun xs => .ok (!xs.isEmpty) := by
  show (match dctO S (.loc k) with
    | some kvs => R.ok (!kvs.isEmpty)
    | none => (opt (items S (.loc k))).bi _) = _
  rw [items_locE, dctO_locE]
@[simp] theorem dict_loc (k : Nat) (S : Sto) : bltD .dict [.loc k] S = match dctAt S[k]? with
    | some kvs => .ok (.loc S.length, S ++ [.dct kvs])
    | none => (opt (lstAt S[k]?)).bi fun xs => (opt (mapO pairO xs)).bi fun kvs => .ok (.loc S.length, S ++ [.dct (kvMerge [] kvs)]) := by
  show (match dctO S (.loc k) with
    | some kvs => R.ok (D.loc S.length, S ++ [Cell.dct kvs])
    | none => (opt (isLst S (.loc k))).bi _) = _
  rw [isLst_locE, dctO_locE]
@[simp] theorem len_tup (xs : List D) (S : Sto) : bltD .len [.tup xs] S = .ok (.int xs.length, S) := (rfl)
@[simp] theorem len_frz (xs : List D) (S : Sto) : bltD .len [.frz xs] S = .ok (.int xs.length, S) := (rfl)
@[simp] theorem len_loc (k : Nat) (S : Sto) : bltD .len [.loc k] S = (opt (lstAt S[k]?)).bi fun xs => .ok (.int xs.length, S) := by
  show (opt (items S (.loc k))).bi _ = _
  rw [items_locE]
@[simp] theorem abs_int (i : Int) (S : Sto) : bltD .abs [.int i] S = .ok (.int (if i < 0 then -i else i), S) := (rfl)
@[simp] theorem int_int (i : Int) (S : Sto) : bltD .int [.int i] S = .ok (.int i, S) := (rfl)
@[simp] theorem int_bl (b : Bool) (S : Sto) : bltD .int [.bl b] S = .ok (.int (if b then 1 else 0), S) := (rfl)
@[simp] theorem bool_int (i : Int) (S : Sto) : bltD .bool [.int i] S = .ok (.bl (i != 0), S) := (rfl)
@[simp] theorem bool_bl (b : Bool) (S : Sto) : bltD .bool [.bl b] S = .ok (.bl b, S) := (rfl)
@[simp] theorem tuple_tup (xs : List D) (S : Sto) : bltD .tuple [.tup xs] S = .ok (.tup xs, S) := (rfl)
@[simp] theorem tuple_loc (k : Nat) (S : Sto) : bltD .tuple [.loc k] S = (opt (lstAt S[k]?)).bi fun xs => .ok (.tup xs, S) := by
  show (opt (items S (.loc k))).bi _ = _
  rw [items_locE]
@[simp] theorem list_tup (xs : List D) (S : Sto) : bltD .list [.tup xs] S = .ok (.loc S.length, S ++ [.lst xs]) := (rfl)
@[simp] theorem list_loc (k : Nat) (S : Sto) : bltD .list [.loc k] S = match dctAt S[k]? with
    | some kvs => .ok (.loc S.length, S ++ [Cell.lst (kvs.map fun kv => kyD kv.1)])
    | none => (opt (lstAt S[k]?)).bi fun xs => .ok (.loc S.length, S ++ [Cell.lst xs]) := by
  rw [← dctO_locE, ← items_locE]; rfl
@[simp] theorem repr_any (d : D) (S : Sto) : bltD .repr [d] S = (reprD d S).bi fun x => .ok (.str x, S) := (rfl)
theorem intsO_map : ∀ ns : List Int, intsO (ns.map D.int) = some ns
  | [] => rfl
  | n :: ns => by
    have h := intsO_map ns
    unfold intsO at h ⊢
    simp only [List.map_cons, mapO, h]
@[simp] theorem sum_loc (k : Nat) (S : Sto) : bltD .sum [.loc k] S = (opt (lstAt S[k]?)).bi fun xs => (opt (sumO xs)).bi fun n => .ok (.int n, S) := by
  show (opt (isLst S (.loc k))).bi _ = _
  rw [isLst_locE]
theorem sumO_ints (ns : List Int) : sumO (ns.map D.int) = some ns.sum := by
  unfold sumO
  rw [intsO_map]
@[simp] theorem sorted_loc (k : Nat) (S : Sto) : bltD .sorted [.loc k] S = (opt (lstAt S[k]?)).bi fun xs => match intsO xs with
    | some ns => .ok (.loc S.length, S ++ [.lst ((isort ns).map .int)])
    | none => (opt (srtO S xs)).bi fun ys => .ok (.loc S.length, S ++ [.lst ys]) := by
  show (opt (items S (.loc k))).bi _ = _
  rw [items_locE]
  rfl
@[simp] theorem sorted_tup (xs : List D) (S : Sto) : bltD .sorted [.tup xs] S = (opt (intsO xs)).bi fun ns => .ok (.loc S.length, S ++ [.lst ((isort ns).map .int)]) := by
  show (sorD (.tup xs) xs S) = _
  unfold sorD
  cases intsO xs <;> rfl
@[simp] theorem any_loc (k : Nat) (S : Sto) : bltD .any [.loc k] S = (opt (lstAt S[k]?)).bi fun xs => (opt (blsO xs)).bi fun bs => .ok (.bl (bs.any id), S) := by
  show (opt (isLst S (.loc k))).bi _ = _
  rw [isLst_locE]
@[simp] theorem all_loc (k : Nat) (S : Sto) : bltD .all [.loc k] S = (opt (lstAt S[k]?)).bi fun xs => (opt (blsO xs)).bi fun bs => .ok (.bl (bs.all id), S) := by
  show (opt (isLst S (.loc k))).bi _ = _
  rw [isLst_locE]
@[simp] theorem max_int (i j : Int) (S : Sto) : bltD .max [.int i, .int j] S = .ok (.int (if j > i then j else i), S) := (rfl)
@[simp] theorem min_int (i j : Int) (S : Sto) : bltD .min [.int i, .int j] S = .ok (.int (if j < i then j else i), S) := (rfl)
@[simp] theorem max_loc (k : Nat) (S : Sto) : bltD .max [.loc k] S = (opt (lstAt S[k]?)).bi fun xs => (opt (intsO xs)).bi fun ns => (opt (most (fun a b => decide (b ≤ a)) ns)).bi fun m => .ok (.int m, S) := by
  show (opt (isLst S (.loc k))).bi _ = _
  rw [isLst_locE]
@[simp] theorem max_tupL (xs : List D) (S : Sto) : bltD .max [.tup xs] S = (opt (intsO xs)).bi fun ns => (opt (most (fun a b => decide (b ≤ a)) ns)).bi fun m => .ok (.int m, S) := (rfl)
@[simp] theorem min_loc (k : Nat) (S : Sto) : bltD .min [.loc k] S = (opt (lstAt S[k]?)).bi fun xs => (opt (intsO xs)).bi fun ns => (opt (most (fun a b => decide (a ≤ b)) ns)).bi fun m => .ok (.int m, S) := by
  show (opt (isLst S (.loc k))).bi _ = _
  rw [isLst_locE]
@[simp] theorem isi_non (t : Ty) (S : Sto) : isiD t .non S = .ok false := (rfl)
@[simp] theorem isi_bl (t : Ty) (b : Bool) (S : Sto) : isiD t (.bl b) S = .ok (decide (t = .bool ∨ t = .int)) := (rfl)
@[simp] theorem isi_int (t : Ty) (b : Int) (S : Sto) : isiD t (.int b) S = .ok (decide (t = .int)) := (rfl)
@[simp] theorem isi_str (t : Ty) (b : Str) (S : Sto) : isiD t (.str b) S = .ok (decide (t = .str)) := (rfl)
@[simp] theorem isi_tup (t : Ty) (b : List D) (S : Sto) : isiD t (.tup b) S = .ok (decide (t = .tuple)) := (rfl)
@[simp] theorem isi_frz (t : Ty) (b : List D) (S : Sto) : isiD t (.frz b) S = .ok (decide (t = .list)) := (rfl)
@[simp] theorem isi_loc (t : Ty) (k : Nat) (S : Sto) : isiD t (.loc k) S = match dctAt S[k]? with
    | some _ => .ok false
    | none => (opt (lstAt S[k]?)).bi fun _ => .ok (decide (t = .list)) := by
  show (match dctO S (.loc k) with
    | some _ => R.ok false
    | none => (opt (isLst S (.loc k))).bi fun _ => R.ok (decide (t = Ty.list))) = _
  rw [isLst_locE, dctO_locE]
@[simp] theorem str_int (i : Int) (S : Sto) : bltD .str [.int i] S = when (i.natAbs.log2 < 1920) (.ok (.str (toString i), S)) := (rfl)
@[simp] theorem rev_tup (xs : List D) (S : Sto) : revD (.tup xs) S = .ok (.tup xs.reverse, S) := (rfl)
@[simp] theorem rev_loc (k : Nat) (S : Sto) : revD (.loc k) S = (opt (lstAt S[k]?)).bi fun xs => .ok (.loc S.length, S ++ [.lst xs.reverse]) := by
  show (opt (isLst S (.loc k))).bi _ = _
  rw [isLst_locE]
@[simp] theorem slc_tup (xs : List D) (lo hi : Option Int) (S : Sto) : slcD (.tup xs) lo hi S = .ok (.tup (cut xs lo hi), S) := (rfl)
@[simp] theorem slc_frz (xs : List D) (lo hi : Option Int) (S : Sto) : slcD (.frz xs) lo hi S = .ok (.loc S.length, S ++ [.lst (cut xs lo hi)]) := (rfl)
@[simp] theorem slc_loc (k : Nat) (lo hi : Option Int) (S : Sto) : slcD (.loc k) lo hi S = (opt (lstAt S[k]?)).bi fun xs => .ok (.loc S.length, S ++ [.lst (cut xs lo hi)]) := by
  simp only [slcD, lstAt]
  cases S[k]? with
  | none => rfl
  | some c => cases c <;> rfl
@[simp] theorem mth_app (k : Nat) (d : D) (S : Sto) : mthD .append (.loc k) [d] S = (opt (lstAt S[k]?)).bi fun xs => when (xs.length < 16777216) (.ok (.non, S.set k (.lst (xs ++ [d])))) := by
  show (opt (isLst S (.loc k))).bi _ = _
  rw [isLst_locE]
@[simp] theorem mth_pop (k : Nat) (i : Int) (S : Sto) : mthD .pop (.loc k) [.int i] S = (opt (lstAt S[k]?)).bi fun xs => when (0 ≤ i ∧ i < 2 ^ 62) ((opt (xs[i.toNat]?)).bi fun y => .ok (y, S.set k (.lst (xs.eraseIdx i.toNat)))) := by
  show (opt (isLst S (.loc k))).bi _ = _
  rw [isLst_locE]
@[simp] theorem mth_pop0 (k : Nat) (S : Sto) : mthD .pop (.loc k) [] S = (opt (lstAt S[k]?)).bi fun xs => (opt (xs[xs.length - 1]?)).bi fun y => .ok (y, S.set k (.lst xs.dropLast)) := by
  show (opt (isLst S (.loc k))).bi _ = _
  rw [isLst_locE]
@[simp] theorem mth_ins (k : Nat) (i : Int) (d : D) (S : Sto) : mthD .insert (.loc k) [.int i, d] S = (opt (lstAt S[k]?)).bi fun xs => when (xs.length < 16777216 ∧ 0 ≤ i ∧ i < 2 ^ 62) (.ok (.non, S.set k (.lst (xs.take i.toNat ++ [d] ++ xs.drop i.toNat)))) := by
  show (opt (isLst S (.loc k))).bi _ = _
  rw [isLst_locE]
@[simp] theorem bin_add (i j : Int) (S : Sto) : binD .Add (.int i) (.int j) S = .ok (.int (i + j), S) := (rfl)
@[simp] theorem bin_sub (i j : Int) (S : Sto) : binD .Sub (.int i) (.int j) S = .ok (.int (i - j), S) := (rfl)
@[simp] theorem bin_mul (i j : Int) (S : Sto) : binD .Mult (.int i) (.int j) S = when (small i ∨ small j) (.ok (.int (i * j), S)) := (rfl)
@[simp] theorem bin_div (i j : Int) (S : Sto) : binD .FloorDiv (.int i) (.int j) S = when (0 < j ∧ j < 2 ^ 64) (.ok (.int (i / j), S)) := (rfl)
@[simp] theorem bin_mod (i j : Int) (S : Sto) : binD .Mod (.int i) (.int j) S = when (0 < j) (.ok (.int (i % j), S)) := (rfl)
@[simp] theorem bin_pow (i j : Int) (S : Sto) : binD .Pow (.int i) (.int j) S = when (0 ≤ j ∧ j ≤ 1000000 ∧ i.natAbs < 2 ^ 64) (.ok (.int (i ^ j.toNat), S)) := (rfl)
@[simp] theorem mth_extT (k : Nat) (ys : List D) (S : Sto) : mthD .extend (.loc k) [.tup ys] S = (opt (lstAt S[k]?)).bi fun xs => when (xs.length + ys.length ≤ 16777216) (.ok (.non, S.set k (.lst (xs ++ ys)))) := by
  show ((opt (isLst S (.loc k))).bi fun xs => _) = _
  rw [isLst_locE]
@[simp] theorem mth_index (k : Nat) (i : Int) (S : Sto) : mthD .index (.loc k) [.int i] S = (opt (lstAt S[k]?)).bi fun xs => (opt (ixO xs i)).bi fun j => .ok (.int (j : Int), S) := by
  show (opt (isLst S (.loc k))).bi _ = _
  rw [isLst_locE]
@[simp] theorem mth_ext (k j : Nat) (S : Sto) : mthD .extend (.loc k) [.loc j] S = (opt (lstAt S[k]?)).bi fun xs => (opt (lstAt S[j]?)).bi fun ys => when (xs.length + ys.length ≤ 16777216) (.ok (.non, S.set k (.lst (xs ++ ys)))) := by
  show ((opt (isLst S (.loc k))).bi fun xs => (opt (isLst S (.loc j))).bi _) = _
  rw [isLst_locE, isLst_locE]
@[simp] theorem bin_addL (k j : Nat) (S : Sto) : binD .Add (.loc k) (.loc j) S = (opt (lstAt S[k]?)).bi fun xs => (opt (lstAt S[j]?)).bi fun ys => when (xs.length + ys.length ≤ 16777216) (.ok (.loc S.length, S ++ [.lst (xs ++ ys)])) := by
  show ((opt (isLst S (.loc k))).bi fun xs => (opt (isLst S (.loc j))).bi _) = _
  rw [isLst_locE, isLst_locE]
@[simp] theorem bin_addT (xs ys : List D) (S : Sto) : binD .Add (.tup xs) (.tup ys) S = when (xs.length + ys.length ≤ 16777216) (.ok (.tup (xs ++ ys), S)) := (rfl)
@[simp] theorem cmp_lt (i j : Int) (S : Sto) : cmpD .Lt (.int i) (.int j) S = .ok (decide (i < j)) := (rfl)
@[simp] theorem cmp_le (i j : Int) (S : Sto) : cmpD .LtE (.int i) (.int j) S = .ok (decide (i ≤ j)) := (rfl)
@[simp] theorem cmp_gt (i j : Int) (S : Sto) : cmpD .Gt (.int i) (.int j) S = .ok (decide (j < i)) := (rfl)
@[simp] theorem cmp_ge (i j : Int) (S : Sto) : cmpD .GtE (.int i) (.int j) S = .ok (decide (j ≤ i)) := (rfl)
@[simp] theorem cmp_eq (a b : D) (S : Sto) : cmpD .Eq a b S = eqD a b S := (rfl)
@[simp] theorem cmp_ne (a b : D) (S : Sto) : cmpD .NotEq a b S = (eqD a b S).bi fun t => .ok (!t) := (rfl)
@[simp] theorem cmp_in (a b : D) (S : Sto) : cmpD .In a b S = inD a b S := (rfl)
@[simp] theorem cmp_nin (a b : D) (S : Sto) : cmpD .NotIn a b S = (inD a b S).bi fun t => .ok (!t) := (rfl)
@[simp] theorem eq_int (i j : Int) (S : Sto) : eqD (.int i) (.int j) S = .ok (i == j) := (rfl)
@[simp] theorem eq_bl (i j : Bool) (S : Sto) : eqD (.bl i) (.bl j) S = .ok (i == j) := (rfl)
@[simp] theorem eq_str (i j : Str) (S : Sto) : eqD (.str i) (.str j) S = .ok (i == j) := (rfl)
@[simp] theorem when_true {α : Type} (r : R α) : when True r = r := when_pos trivial
def encI (k : Nat) : D := .int (k : Int)
@[simp] theorem encI_at (k : Nat) : encI k = .int (k : Int) := (rfl)
theorem rg_nat (n : Nat) : rg 0 (n : Int) = (List.range n).map encI := by
  unfold rg
  simp [Function.comp_def]
theorem intsO_nat (ns : List Nat) : intsO (ns.map encI) = some (ns.map fun n : Nat => (n : Int)) := by
  have h := intsO_map (ns.map fun n : Nat => (n : Int))
  rw [List.map_map] at h
  exact h
theorem srcD_rng (n : Nat) (h : n ≤ 16777216) (S : Sto) : srcD .rng1 [.int (n : Int)] S = .ok ((List.range n).map encI, .no) := by
  show when (rgOk 0 (n : Int)) (R.ok (rg 0 (n : Int), G.no)) = _
  rw [when_pos, rg_nat]
  unfold rgOk
  refine ⟨by omega, by omega, by omega, by omega, ?_⟩
  omega
@[simp] theorem srcD_loc (S : Sto) (k : Nat) : srcD .seq [.loc k] S = (opt (lstAt S[k]?)).bi fun xs => .ok (xs, .one (k, xs)) := by
  show (opt (isLst S (.loc k))).bi _ = _
  rw [isLst_locE]
@[simp] theorem srcD_tup (S : Sto) (xs : List D) : srcD .seq [.tup xs] S = .ok (xs, .no) := (rfl)
@[simp] theorem srcD_frz (S : Sto) (xs : List D) : srcD .seq [.frz xs] S = .ok (xs, .no) := (rfl)
@[simp] theorem srcD_enumT (S : Sto) (xs : List D) : srcD .enum [.tup xs] S = .ok (pairs xs, .no) := (rfl)
@[simp] theorem srcD_enum (S : Sto) (k : Nat) : srcD .enum [.loc k] S = (opt (lstAt S[k]?)).bi fun xs => .ok (pairs xs, .one (k, xs)) := by
  show (opt (isLst S (.loc k))).bi _ = _
  rw [isLst_locE]
theorem srcD_zip3 {S : Sto} {k l m : Nat} {xs ys zs : List D} (h1 : S[k]? = some (.lst xs)) (h2 : S[l]? = some (.lst ys)) (h3 : S[m]? = some (.lst zs)) : srcD .zip [.loc k, .loc l, .loc m] S = .ok (zip3T xs ys zs, .thr (k, xs) (l, ys) (m, zs)) := by
  simp only [srcD, isLst_at h1, isLst_at h2, isLst_at h3, opt_some, bi_ok]
@[simp] theorem cmp_ltP (i j k l : Int) (S : Sto) : cmpD .Lt (.tup [.int i, .int k]) (.tup [.int j, .int l]) S = .ok (decide (i < j ∨ (i = j ∧ k < l))) := (rfl)
/-- a comprehension over numbers, with steps that leave the store as it is -/
theorem lc_range {n : Nat} {step : D → Sto → R (Option D × Sto)} {S : Sto} (f : Nat → Option D) (hl : n ≤ 16777216)
    (hs : ∀ i, i < n → ∀ acc, step (.int (i : Nat)) (S ++ [.lst acc]) = .ok (f i, S ++ [.lst acc])) :
    lcGo .no S.length step ((List.range n).map encI) (S ++ [.lst []]) = .ok (S ++ [.lst ((List.range n).filterMap f)]) := by
  have h := lc_pure (g := .no) (step := step) (xs := (List.range n).map encI) (S := S) (fun d => match d with
    | .int i => f i.toNat
    | _ => none) trivial (by simpa using hl) (fun d hd acc => by
      obtain ⟨i, hi, rfl⟩ := List.mem_map.mp hd
      simpa using hs i (List.mem_range.mp hi) acc)
  rw [h, List.filterMap_map]
  rfl
/-- a comprehension over data of a kind -/
theorem lc_map {α : Type} {g : G} {step : D → Sto → R (Option D × Sto)} {S : Sto} {xs : List α} {en : α → D} (f : α → Option D) (hg : gok g S) (hl : xs.length ≤ 16777216)
    (hs : ∀ x ∈ xs, ∀ acc, step (en x) (S ++ [.lst acc]) = .ok (f x, S ++ [.lst acc])) :
    lcGo g S.length step (xs.map en) (S ++ [.lst []]) = .ok (S ++ [.lst (xs.filterMap f)]) := by
  classical
  have hg' : ∀ acc, gok g (S ++ [.lst acc]) := fun acc => gok_app hg _
  have main : ∀ (xs : List α) (acc : List D), (∀ x ∈ xs, ∀ acc, step (en x) (S ++ [.lst acc]) = .ok (f x, S ++ [.lst acc])) → acc.length + xs.length ≤ 16777216 →
      lcGo g S.length step (xs.map en) (S ++ [.lst acc]) = .ok (S ++ [.lst (acc ++ xs.filterMap f)]) := by
    intro xs
    induction xs with
    | nil => intro acc _ _; simp only [List.map_nil, lcGo]; rw [if_pos (hg' _)]; simp
    | cons x xs ih =>
      intro acc h hl
      simp only [List.map_cons, lcGo]
      rw [if_pos (hg' _), h x (List.mem_cons_self ..), bi_ok]
      simp only [List.length_cons] at hl
      cases e : f x with
      | none =>
        simp only
        rw [ih acc (fun y hy => h y (List.mem_cons_of_mem _ hy)) (by omega), List.filterMap_cons, e]
      | some y =>
        simp only
        rw [isLst_last, opt_some, bi_ok, when_pos (by omega), set_last, ih (acc ++ [y]) (fun z hz => h z (List.mem_cons_of_mem _ hz)) (by simp; omega), List.filterMap_cons, e]
        simp
  simpa using main xs [] hs (by simpa using hl)
end Ev
set_option autoImplicit false
set_option linter.all false
namespace Ev
open PySem
mutual
def py : D → PyData
  | .non => .none
  | .bl b => .bool b
  | .int i => .int i
  | .str s => .str s
  | .tup xs => .tuple (pyL xs)
  | .frz xs => .list (pyL xs)
  | .loc _ => .none
def pyL : List D → List PyData
  | [] => []
  | x :: xs => py x :: pyL xs
end
/-- no places, not deeper than n -/
def Cl : Nat → D → Prop
  | 0, _ => False
  | n + 1, d => match d with
    | .tup xs => ∀ x, x ∈ xs → Cl n x
    | .str s => PyData.strOk s = true
    | .loc _ => False
    | .frz _ => False
    | _ => True
theorem mapO_py {n : Nat} {S : Sto} (h : ∀ d, Cl n d → toPy n S d = some (py d)) : ∀ xs : List D, (∀ x, x ∈ xs → Cl n x) → mapO (toPy n S) xs = some (pyL xs)
  | [], _ => rfl
  | x :: xs, hx => by
    simp only [mapO, h x (hx x (List.mem_cons_self ..)), mapO_py h xs fun y hy => hx y (List.mem_cons_of_mem _ hy), pyL]
theorem toPy_cl {S : Sto} : ∀ (n : Nat) (d : D), Cl n d → toPy n S d = some (py d)
  | 0, _, h => h.elim
  | n + 1, .non, _ => rfl
  | n + 1, .bl b, _ => rfl
  | n + 1, .int i, _ => rfl
  | n + 1, .str s, h => if_pos h
  | n + 1, .tup xs, h => by
    show (mapO (toPy n S) xs).map PyData.tuple = _
    rw [mapO_py (toPy_cl n) xs h]
    rfl
  | n + 1, .frz xs, h => h.elim
  | n + 1, .loc k, h => h.elim
theorem Cl.up : ∀ {n : Nat} {d : D}, Cl n d → Cl (n + 1) d
  | 0, _, h => h.elim
  | n + 1, .non, _ => trivial
  | n + 1, .bl b, _ => trivial
  | n + 1, .int i, _ => trivial
  | n + 1, .str s, h => h
  | n + 1, .tup xs, h => fun x hx => Cl.up (h x hx)
  | n + 1, .frz xs, h => h.elim
  | n + 1, .loc k, h => h.elim
theorem Cl.mono {n m : Nat} {d : D} (h : Cl n d) (hm : n ≤ m) : Cl m d := by
  induction hm with
  | refl => exact h
  | step _ ih => exact ih.up
theorem toPy_le {S : Sto} {n m : Nat} {d : D} (h : Cl n d) (hm : n ≤ m) : toPy m S d = some (py d) := toPy_cl m d (h.mono hm)
theorem Cl.und : ∀ {n : Nat} {d : D}, Cl n d → ∀ k, d.und k = true
  | 0, _, h, _ => h.elim
  | n + 1, .non, _, _ => rfl
  | n + 1, .bl b, _, _ => rfl
  | n + 1, .int i, _, _ => rfl
  | n + 1, .str s, h, _ => rfl
  | n + 1, .tup xs, h, k => by
    show D.undL k xs = true
    have main : ∀ xs : List D, (∀ x, x ∈ xs → Cl n x) → D.undL k xs = true := by
      intro xs
      induction xs with
      | nil => intro _; rfl
      | cons x xs ih =>
        intro h
        simp only [D.undL, Bool.and_eq_true]
        exact ⟨Cl.und (h x (List.mem_cons_self ..)) k, ih fun y hy => h y (List.mem_cons_of_mem _ hy)⟩
    exact main xs h
  | n + 1, .frz xs, h, _ => h.elim
  | n + 1, .loc k, h, _ => h.elim
theorem undL_all {k : Nat} : ∀ {xs : List D}, (∀ x, x ∈ xs → x.und k = true) → D.undL k xs = true
  | [], _ => rfl
  | x :: xs, h => by
    simp only [D.undL, Bool.and_eq_true]
    exact ⟨h x (List.mem_cons_self ..), undL_all fun y hy => h y (List.mem_cons_of_mem _ hy)⟩
/-- no places, depth, a bound of the text's length -/
structure Fit (n b : Nat) (d : D) : Prop where
  cl : Cl n d
  sh : (py d).showable = true
  le : rl (py d) ≤ b
theorem Fit.mono {n b m c : Nat} {d : D} (h : Fit n b d) (h1 : n ≤ m) (h2 : b ≤ c) : Fit m c d := ⟨h.cl.mono h1, h.sh, Nat.le_trans h.le h2⟩
theorem Fit.bl {n : Nat} (b : Bool) : Fit (n + 1) 5 (.bl b) := ⟨trivial, rfl, Nat.le_refl _⟩
theorem Fit.non {n : Nat} : Fit (n + 1) 4 .non := ⟨trivial, rfl, Nat.le_refl _⟩
theorem Fit.int {n : Nat} {i : Int} (h : i.natAbs < 2 ^ 64) : Fit (n + 1) 67 (.int i) := by
  have hl : i.natAbs.log2 < 64 := by
    by_cases h0 : i.natAbs = 0
    · rw [h0]; decide
    · exact (Nat.log2_lt h0).mpr h
  refine ⟨trivial, ?_, ?_⟩
  · simp only [py, PyData.showable, decide_eq_true_eq]; omega
  · simp only [py, rl]; omega
theorem Fit.nat {n k : Nat} (h : k < 2 ^ 64) : Fit (n + 1) 67 (encI k) := Fit.int (by simpa [encI] using h)
theorem showAll_of : ∀ {xs : List D}, (∀ x, x ∈ xs → (py x).showable = true) → PyData.showableAll (pyL xs) = true
  | [], _ => rfl
  | x :: xs, h => by
    simp only [pyL, PyData.showableAll, Bool.and_eq_true]
    exact ⟨h x (List.mem_cons_self ..), showAll_of fun y hy => h y (List.mem_cons_of_mem _ hy)⟩
theorem rlL_le {b : Nat} : ∀ {xs : List D}, (∀ x, x ∈ xs → rl (py x) ≤ b) → rlL (pyL xs) ≤ xs.length * (b + 2)
  | [], _ => by simp [pyL, rlL]
  | x :: xs, h => by
    have h1 := h x (List.mem_cons_self ..)
    have h2 := rlL_le (b := b) (xs := xs) fun y hy => h y (List.mem_cons_of_mem _ hy)
    simp only [pyL, rlL, List.length_cons, Nat.succ_mul]
    omega
theorem Fit.tup {n b l : Nat} {xs : List D} (h : ∀ x, x ∈ xs → Fit n b x) (hl : xs.length ≤ l) : Fit (n + 1) (l * (b + 2) + 3) (.tup xs) := by
  refine ⟨fun x hx => (h x hx).cl, ?_, ?_⟩
  · simp only [py, PyData.showable]
    exact showAll_of fun x hx => (h x hx).sh
  · simp only [py, rl]
    have h1 := rlL_le fun x hx => (h x hx).le
    have h2 : xs.length * (b + 2) ≤ l * (b + 2) := Nat.mul_le_mul_right _ hl
    omega
theorem reprD_some {d : D} {S : Sto} {p : PyData} (h : toPy 60 S d = some p) : reprD d S = when (p.showable = true ∧ rl p ≤ 16777216) (.ok p.shown) := by
  unfold reprD
  rw [h]
theorem toPy_loc {n : Nat} {S : Sto} {k : Nat} {xs : List D} (hk : S[k]? = some (.lst xs)) (h : ∀ x, x ∈ xs → Cl n x) : toPy (n + 1) S (.loc k) = some (.list (pyL xs)) := by
  simp only [toPy, hk]
  rw [mapO_py (toPy_cl n) xs h]
  rfl
theorem repr_loc {n b : Nat} {S : Sto} {k : Nat} {xs : List D} (hk : S[k]? = some (.lst xs)) (h : ∀ x, x ∈ xs → Fit n b x) (hn : n ≤ 59) (hb : xs.length * (b + 2) + 3 ≤ 16777216) : reprD (.loc k) S = .ok (PyData.list (pyL xs)).shown := by
  rw [reprD_some (toPy_loc (n := 59) hk fun x hx => (h x hx).cl.mono hn), when_pos]
  refine ⟨?_, ?_⟩
  · simp only [PyData.showable]
    exact showAll_of fun x hx => (h x hx).sh
  · simp only [rl]
    have h1 := rlL_le fun x hx => (h x hx).le
    omega
mutual
theorem eqv_self : ∀ d : D, PyData.eqv (py d) (py d) = true
  | .non => rfl
  | .bl b => by simp [py, PyData.eqv]
  | .int i => by simp [py, PyData.eqv]
  | .str x => by simp [py, PyData.eqv]
  | .tup xs => by rw [py, PyData.eqv]; exact eqvL_self xs
  | .frz xs => by rw [py, PyData.eqv]; exact eqvL_self xs
  | .loc _ => rfl
theorem eqvL_self : ∀ xs : List D, PyData.eqvAll (pyL xs) (pyL xs) = true
  | [] => rfl
  | x :: xs => by rw [pyL, PyData.eqvAll, eqv_self x, eqvL_self xs]; rfl
end
theorem lenU_cl {n : Nat} {a b : D} {S : Sto} (ha : Cl n a) : lenU S a b = false := by
  cases n with
  | zero => exact ha.elim
  | succ n => cases a <;> first | rfl | exact ha.elim
theorem eq_cl {n : Nat} {a b : D} {S : Sto} (ha : Cl n a) (hb : Cl n b) (hn : n ≤ 60) : eqD a b S = .ok (PyData.eqv (py a) (py b)) := by
  unfold eqD
  split
  · rename_i h
    cases a <;> cases b <;> first | rfl | (cases h)
  · rw [if_neg (by rw [lenU_cl ha]; exact Bool.false_ne_true), toPy_le ha hn, toPy_le hb hn, opt_some, opt_some, bi_ok, bi_ok]
theorem eqv_ints : ∀ e e' : List Nat, PyData.eqvAll (pyL (e.map encI)) (pyL (e'.map encI)) = decide (e = e')
  | [], [] => rfl
  | [], _ :: _ => rfl
  | _ :: _, [] => rfl
  | x :: e, y :: e' => by
    simp only [List.map_cons, pyL, PyData.eqvAll, eqv_ints e e', encI, py, PyData.eqv]
    by_cases h : x = y
    · subst h; simp
    · have : ¬ (x : Int) = (y : Int) := fun q => h (by exact_mod_cast q)
      simp [h, this]
def encE (e : List Nat) : D := .tup (e.map encI)
theorem cl_E {n : Nat} (e : List Nat) : Cl (n + 2) (encE e) := fun x hx => by
  obtain ⟨y, _, rfl⟩ := List.mem_map.mp hx
  trivial
theorem eq_E (e e' : List Nat) (S : Sto) : eqD (encE e) (encE e') S = .ok (decide (e = e')) := by
  rw [eq_cl (n := 2) (cl_E e) (cl_E e') (by omega)]
  simp only [encE, py, PyData.eqv]
  rw [eqv_ints]
@[simp] theorem eq_E0 (e : List Nat) (S : Sto) : eqD (encE e) (.tup []) S = .ok (decide (e = [])) := eq_E e [] S
theorem lenU_lst {S : Sto} {b c : Nat} {xs ys : List D} (hb : S[b]? = some (.lst xs)) (hc : S[c]? = some (.lst ys)) : lenU S (.loc b) (.loc c) = (xs.length != ys.length) := by
  simp only [lenU, isLst, hb, hc]
/-- a list of anything against an empty one -/
theorem eq_nilU {S : Sto} {b c : Nat} {xs : List D} (hb : S[b]? = some (.lst xs)) (hc : S[c]? = some (.lst [])) : eqD (.loc b) (.loc c) S = .ok xs.isEmpty := by
  unfold eqD
  rw [if_neg (by simp [scalD]), lenU_lst hb hc]
  cases xs with
  | nil =>
    rw [if_neg (by simp), toPy_loc (n := 59) hb fun x hx => (nomatch hx), toPy_loc (n := 59) hc fun x hx => (nomatch hx), opt_some, bi_ok, bi_ok]
    rfl
  | cons x xs => rw [if_pos (by simp)]; rfl
theorem eq_nil {n : Nat} {S : Sto} {b c : Nat} {xs : List D} (hb : S[b]? = some (.lst xs)) (hc : S[c]? = some (.lst [])) (h : ∀ x, x ∈ xs → Cl n x) (hn : n ≤ 59) : eqD (.loc b) (.loc c) S = .ok xs.isEmpty := eq_nilU hb hc
theorem filterMap_dec {α : Type} (q : α → Bool) (en : α → D) (xs : List α) : (xs.filterMap fun x => if q x = true then some (en x) else none) = (xs.filter q).map en := by
  induction xs with
  | nil => rfl
  | cons x xs ih =>
    by_cases h : q x = true
    · simp [h, ih]
    · simp [h, ih]
/-- a comprehension whose steps may leave lists behind -/
theorem lc_grow {α : Type} {g : G} {step : D → Sto → R (Option D × Sto)} {S : Sto} {xs : List α} {en : α → D} (f : α → Option D) (hg : gok g S) (hl : xs.length ≤ 16777216)
    (hs : ∀ x ∈ xs, ∀ acc T, ∃ T', step (en x) (S ++ .lst acc :: T) = .ok (f x, S ++ .lst acc :: T')) :
    ∃ T, lcGo g S.length step (xs.map en) (S ++ [.lst []]) = .ok (S ++ .lst (xs.filterMap f) :: T) := by
  classical
  have hg' : ∀ acc T, gok g (S ++ .lst acc :: T) := fun acc T => gok_app hg _
  have main : ∀ (xs : List α) (acc : List D) (T : Sto), (∀ x ∈ xs, ∀ acc T, ∃ T', step (en x) (S ++ .lst acc :: T) = .ok (f x, S ++ .lst acc :: T')) → acc.length + xs.length ≤ 16777216 →
      ∃ T', lcGo g S.length step (xs.map en) (S ++ .lst acc :: T) = .ok (S ++ .lst (acc ++ xs.filterMap f) :: T') := by
    intro xs
    induction xs with
    | nil => intro acc T _ _; refine ⟨T, ?_⟩; simp only [List.map_nil, lcGo]; rw [if_pos (hg' _ _)]; simp
    | cons x xs ih =>
      intro acc T h hl
      obtain ⟨T1, e1⟩ := h x (List.mem_cons_self ..) acc T
      simp only [List.length_cons] at hl
      cases e : f x with
      | none =>
        obtain ⟨T2, e2⟩ := ih acc T1 (fun y hy => h y (List.mem_cons_of_mem _ hy)) (by omega)
        refine ⟨T2, ?_⟩
        simp only [List.map_cons, lcGo]
        rw [if_pos (hg' _ _), e1, bi_ok, e]
        simp only
        rw [e2, List.filterMap_cons, e]
      | some y =>
        obtain ⟨T2, e2⟩ := ih (acc ++ [y]) T1 (fun z hz => h z (List.mem_cons_of_mem _ hz)) (by simp; omega)
        refine ⟨T2, ?_⟩
        simp only [List.map_cons, lcGo]
        rw [if_pos (hg' _ _), e1, bi_ok, e]
        simp only
        rw [isLst_locE, tail_at0]
        simp only [List.getElem?_cons_zero, lstAt_some, opt_some, bi_ok, tail_set0, List.set_cons_zero]
        rw [when_pos (by omega), e2, List.filterMap_cons, e]
        simp
  simpa using main xs [] [] hs (by simpa using hl)
end Ev
set_option autoImplicit false
set_option linter.all false
namespace Ev
open PySem
section
variable {F : Nat → List D → Sto → R (D × Sto)} {r : Env} {S : Sto}
@[simp] theorem evXe_pln (c : C) : evXe F (.pln c) r S = noE (ev F c r S) := by simp only [evXe]
@[simp] theorem evXe_call (f : Nat) (es : List C) : evXe F (.call f es) r S = (noE (evL F es r S)).bi fun p => F f p.1 p.2 := by simp only [evXe]
@[simp] theorem evXe_calk (f : Nat) (es ks : List C) (g : List Nat) : evXe F (.calk f es ks g) r S = (noE (evL F es r S)).bi fun p => (noE (evL F ks r p.2)).bi fun q => (opt (perm g (p.1 ++ q.1))).bi fun ds => F f ds q.2 := by simp only [evXe]
@[simp] theorem evXe_ife (c : C) (a b : Xe) : evXe F (.ife c a b) r S = (noE (evT F c r S)).bi fun p => if p.1 = true then evXe F a r p.2 else evXe F b r p.2 := by simp only [evXe]
@[simp] theorem evXe_lst (es : List C) (x : Xe) : evXe F (.lst es x) r S = (evLX F (evXe F x) es r S).bi fun p => .ok (.loc p.2.length, p.2 ++ [.lst p.1]) := by simp only [evXe]
@[simp] theorem evXe_cmp (o : CmpOp) (x : Xe) (c : C) : evXe F (.cmp o x c) r S = (evXe F x r S).bi fun p => (noE (ev F c r p.2)).bi fun q => (noE (cmpD o p.1 q.1 q.2)).bi fun t => .ok (.bl t, q.2) := by simp only [evXe]
@[simp] theorem evXe_andl (x : Xe) (c : C) : evXe F (.andl x c) r S = (evXe F x r S).bi fun p => (noE (tru p.1 p.2)).bi fun t => if t = true then noE (ev F c r p.2) else .ok p := by simp only [evXe]
@[simp] theorem evLX_nil (x : Env → Sto → R (D × Sto)) : evLX F x [] r S = (x r S).bi fun p => .ok ([p.1], p.2) := (rfl)
@[simp] theorem evLX_cons (x : Env → Sto → R (D × Sto)) (c : C) (cs : List C) : evLX F x (c :: cs) r S = (noE (ev F c r S)).bi fun p => (evLX F x cs r p.2).bi fun q => .ok (p.1 :: q.1, q.2) := (rfl)
@[simp] theorem evX_pln (s : St) : evX F (.pln s) r S = .of r (noE (evS F s r S)) .ok := by simp only [evX]
@[simp] theorem evX_rse (x : Str) (f : Option Str) (es : List C) : evX F (.rse x f es) r S = .of r (noE (evL F es r S)) fun p => match excO x f p.1 with
    | some e => .ex e r p.2
    | none => .no := by simp only [evX] <;> rfl
@[simp] theorem evX_asg (i : Nat) (x : Xe) : evX F (.asg i x) r S = .of r (evXe F x r S) fun z => .ok (.nx (r.set i (some z.1)) z.2) := by simp only [evX]
@[simp] theorem evX_ret (x : Xe) : evX F (.ret x) r S = .of r (evXe F x r S) fun z => .ok (.rt z.1 z.2) := by simp only [evX]
@[simp] theorem evX_parx (i j : Nat) (x : Xe) (c : C) : evX F (.parx i j x c) r S = .of r (evXe F x r S) fun z => .of r (noE (ev F c r z.2)) fun q => .ok (.nx ((r.set i (some z.1)).set j (some q.1)) q.2) := by simp only [evX]
@[simp] theorem evX_exp (x : Xe) : evX F (.exp x) r S = .of r (evXe F x r S) fun z => .ok (.nx r z.2) := by simp only [evX]
@[simp] theorem evX_iff (c : C) (a b : List Sx) : evX F (.iff c a b) r S = .of r (noE (evT F c r S)) fun t => if t.1 = true then evXs F a r t.2 else evXs F b r t.2 := by simp only [evX]
@[simp] theorem evX_fr (p : Pt) (k : Ev.K) (src : List C) (b : List Sx) : evX F (.fr p k src b) r S = .of r (noE (evL F src r S)) fun z => .of r (noE (srcD k z.1 z.2)) fun it => frX it.2 p (evXs F b) it.1 r z.2 := by simp only [evX]
@[simp] theorem evX_tri (b : List Sx) (x : Str) (i : Nat) (h : List Hx) : evX F (.tri b x i h) r S = match evXs F b r S with
    | .ex e r' S' => if e.cls = x ∧ i < r'.length then (match mapO (evHx e) h with
      | some ds => .ok (.rt (.loc S'.length) (S' ++ [.lst ds]))
      | none => .no) else .no
    | z => z := by simp only [evX] <;> rfl
@[simp] theorem evXs_nil : evXs F [] r S = .ok (.nx r S) := by simp only [evXs]
@[simp] theorem evX_trc (b : List Sx) (x : Str) (i : Nat) (f w : Str) (k : Nat) : evX F (.trc b x i f w k) r S = match evXs F b r S with
    | .ex e r' S' => if e.cls = x ∧ i < r'.length ∧ k ≠ i then (match cmpFld e r' S' f w k with
      | some t => .ok (.rt (.bl t) S')
      | none => .no) else .no
    | z => z := by simp only [evX] <;> rfl
@[simp] theorem evXs_cons (s : Sx) (ss : List Sx) : evXs F (s :: ss) r S = match evX F s r S with
    | .ok (.nx r' S') => evXs F ss r' S'
    | z => z := by simp only [evXs] <;> rfl
@[simp] theorem frX_nil0 (p : Pt) (b : Env → Sto → RX) : frX .no p b [] r S = .ok (.nx r S) := by
  simp [frX, gok]
theorem frX_cons0 (p : Pt) (b : Env → Sto → RX) (d : D) (ds : List D) : frX .no p b (d :: ds) r S = match bindP p d r with
      | none => .no
      | some r1 => match b r1 S with
        | .ok (.nx r' S') => frX .no p b ds r' S'
        | .ok (.ct r' S') => frX .no p b ds r' S'
        | .ok (.bk r' S') => .ok (.nx r' S')
        | .ok (.rt d S') => .ok (.rt d S')
        | .ex e r' S' => .ex e r' S'
        | .no => .no := by
  first
    | (simp [frX, gok]; done)
    | (simp [frX, gok]; rfl)
theorem runX_ret {f : FnX} {ds : List D} {S1 : Sto} {d : D} (hl : ds.length = f.np) (h : evXs F f.body (ds.map some ++ List.replicate (f.nn - f.np) none) S = .ok (.rt d S1)) : runX F f ds S = .ok (d, trim S S1 d) := by
  unfold runX
  rw [when_pos hl, h]
theorem runX_err {f : FnX} {ds : List D} {S1 : Sto} {e : Exn} {r' : Env} (hl : ds.length = f.np) (h : evXs F f.body (ds.map some ++ List.replicate (f.nn - f.np) none) S = .ex e r' S1) : runX F f ds S = .err e (trim S S1 (exD e)) := by
  unfold runX
  rw [when_pos hl, h]
end
end Ev
set_option autoImplicit false
set_option linter.all false
namespace Ev
open PySem
structure Net where
  h : Nat
  lanes : List (Nat × Nat × Nat)
  tab : List (List (List Nat))
def encL (l : Nat × Nat × Nat) : D := .tup [encI l.1, encI l.2.1, encI l.2.2]
def encR (row : List (List Nat)) : D := .tup (row.map encE)
def encN (N : Net) : D := .tup [encI N.h, .tup (N.lanes.map encL), .tup (N.tab.map encR)]
def Net.row (N : Net) (u : Nat) : List (List Nat) := N.tab.getD u []
def Net.ent (N : Net) (u d : Nat) : List Nat := (N.row u).getD d []
def Net.lane (N : Net) (k : Nat) : Nat × Nat × Nat := N.lanes.getD k (0, 0, 0)
abbrev Net.st (N : Net) (k : Nat) : Nat := (N.lane k).1
abbrev Net.en (N : Net) (k : Nat) : Nat := (N.lane k).2.1
abbrev Net.rm (N : Net) (k : Nat) : Nat := (N.lane k).2.2
structure Net.WF (N : Net) : Prop where
  h1 : 1 ≤ N.h
  h6 : N.h ≤ 6
  l16 : N.lanes.length ≤ 16
  ln : ∀ k, k < N.lanes.length → N.st k < N.h ∧ N.en k < N.h ∧ N.st k ≠ N.en k ∧ 1 ≤ N.rm k ∧ N.rm k ≤ 4
  tl : N.tab.length = N.h
  rl : ∀ u, u < N.h → (N.row u).length = N.h
  as : ∀ u d, (N.ent u d).Pairwise (· < ·)
  es : ∀ u d k, k ∈ N.ent u d → k < N.lanes.length ∧ N.st k = u
  dg : ∀ u, N.ent u u = []
theorem lane_at {N : Net} {k : Nat} (h : k < N.lanes.length) : N.lanes[k]? = some (N.lane k) := by
  unfold Net.lane; rw [List.getD_eq_getElem?_getD, List.getElem?_eq_getElem h]; rfl
theorem row_at {N : Net} (w : N.WF) {u : Nat} (h : u < N.h) : N.tab[u]? = some (N.row u) := by
  unfold Net.row; rw [List.getD_eq_getElem?_getD, List.getElem?_eq_getElem (by rw [w.tl]; exact h)]; rfl
theorem ent_at {N : Net} (w : N.WF) {u d : Nat} (h : u < N.h) (h' : d < N.h) : (N.row u)[d]? = some (N.ent u d) := by
  unfold Net.ent; rw [List.getD_eq_getElem?_getD, List.getElem?_eq_getElem (by rw [w.rl u h]; exact h')]; rfl
theorem flat_ints (e : List Nat) : (e.map encI).all flatD = true := by
  simp [List.all_map, Function.comp_def, encI, flatD]
theorem eqF_int (x y : Nat) : eqF (encI x) (.int (y : Int)) = decide (x = y) := by
  by_cases h : x = y
  · subst h; simp [encI, eqF]
  · have : ¬ (x : Int) = (y : Int) := fun q => h (by exact_mod_cast q)
    simp [encI, eqF, h, this]
theorem any_ints (e : List Nat) (x : Nat) : ((e.map encI).any fun y => eqF y (.int (x : Int))) = decide (x ∈ e) := by
  rw [Bool.eq_iff_iff, List.any_eq_true, decide_eq_true_iff]
  constructor
  · rintro ⟨d, hd, h⟩
    obtain ⟨y, hy, rfl⟩ := List.mem_map.mp hd
    rw [eqF_int, decide_eq_true_iff] at h
    exact h ▸ hy
  · intro h
    exact ⟨encI x, List.mem_map.mpr ⟨x, h, rfl⟩, by rw [eqF_int, decide_eq_true_iff]⟩
theorem in_ints (e : List Nat) (x : Nat) (S : Sto) : inD (.int (x : Int)) (encE e) S = .ok (decide (x ∈ e)) := by
  unfold inD encE
  simp only [dctO_tup, items_tup, opt_some, bi_ok]
  rw [if_pos ⟨rfl, flat_ints e⟩, any_ints]
@[simp] theorem subX_encN (N : Net) (i : D) (S : Sto) : subX (encN N) i S = subD (encN N) i S := (rfl)
@[simp] theorem subX_encL (l : Nat × Nat × Nat) (i : D) (S : Sto) : subX (encL l) i S = subD (encL l) i S := (rfl)
@[simp] theorem subX_encE (e : List Nat) (i : D) (S : Sto) : subX (encE e) i S = subD (encE e) i S := (rfl)
@[simp] theorem subX_encR (e : List (List Nat)) (i : D) (S : Sto) : subX (encR e) i S = subD (encR e) i S := (rfl)
@[simp] theorem subN_h (N : Net) (S : Sto) : subD (encN N) (.int 0) S = .ok (.int N.h) := by simp [encN]
@[simp] theorem subN_l (N : Net) (S : Sto) : subD (encN N) (.int 1) S = .ok (.tup (N.lanes.map encL)) := by simp [encN]
@[simp] theorem subN_t (N : Net) (S : Sto) : subD (encN N) (.int 2) S = .ok (.tup (N.tab.map encR)) := by simp [encN]
@[simp] theorem subL_0 (l : Nat × Nat × Nat) (S : Sto) : subD (encL l) (.int 0) S = .ok (.int l.1) := by simp [encL]
@[simp] theorem subL_1 (l : Nat × Nat × Nat) (S : Sto) : subD (encL l) (.int 1) S = .ok (.int l.2.1) := by simp [encL]
@[simp] theorem subL_2 (l : Nat × Nat × Nat) (S : Sto) : subD (encL l) (.int 2) S = .ok (.int l.2.2) := by simp [encL]
@[simp] theorem subR_d (row : List (List Nat)) (d : Nat) (S : Sto) : subD (encR row) (.int d) S = opt (row[d]?.map encE) := by simp [encR]
@[simp] theorem bindL (ps : List Pt) (l : Nat × Nat × Nat) (r : Env) : bindP (.tp ps) (encL l) r = bindPs ps [.int l.1, .int l.2.1, .int l.2.2] r := by simp [encL]
@[simp] theorem lenE (e : List Nat) (S : Sto) : bltD .len [encE e] S = .ok (.int e.length, S) := by simp [encE]
@[simp] theorem lenR (e : List (List Nat)) (S : Sto) : bltD .len [encR e] S = .ok (.int e.length, S) := by simp [encR]
@[simp] theorem srcE (e : List Nat) (S : Sto) : srcD .seq [encE e] S = .ok (e.map encI, .no) := by simp [encE]
@[simp] theorem srcR (e : List (List Nat)) (S : Sto) : srcD .seq [encR e] S = .ok (e.map encE, .no) := by simp [encR]
@[simp] theorem tupE (e : List Nat) (S : Sto) : bltD .tuple [encE e] S = .ok (encE e, S) := by simp [encE]
@[simp] theorem perm_def (g : List Nat) (ds : List D) : perm g ds = mapO (fun i => ds[i]?) g := rfl
theorem und_ints (n : Nat) : ∀ e : List Nat, D.undL n (e.map encI) = true
  | [] => rfl
  | x :: e => by simp only [List.map_cons, D.undL, encI, D.und, Bool.true_and]; exact und_ints n e
theorem und_E (n : Nat) (e : List Nat) : (encE e).und n = true := by simp only [encE, D.und]; exact und_ints n e
theorem und_L (n : Nat) (l : Nat × Nat × Nat) : (encL l).und n = true := by simp [encL, D.und, D.undL, encI]
theorem undL_map {α : Type} (n : Nat) (f : α → D) (h : ∀ a, (f a).und n = true) : ∀ l : List α, D.undL n (l.map f) = true
  | [] => rfl
  | x :: l => by simp only [List.map_cons, D.undL, h x, Bool.true_and]; exact undL_map n f h l
theorem und_R (n : Nat) (row : List (List Nat)) : (encR row).und n = true := by simp only [encR, D.und]; exact undL_map n _ (und_E n) row
theorem und_N (n : Nat) (N : Net) : (encN N).und n = true := by
  simp only [encN, D.und, D.undL, encI, Bool.true_and, Bool.and_true, Bool.and_eq_true]
  exact ⟨undL_map n _ (und_L n) _, undL_map n _ (und_R n) _⟩
def p_serves : List St := [(.ret (.cmp .In (.var 1) (.sub (.sub (.sub (.var 0) (.cst (.int 2))) (.sub (.sub (.sub (.var 0) (.cst (.int 1))) (.var 1)) (.cst (.int 0)))) (.var 2))))]
def p_ahead : List St := [(.ret (.sub (.sub (.sub (.var 0) (.cst (.int 2))) (.sub (.sub (.sub (.var 0) (.cst (.int 1))) (.var 1)) (.cst (.int 1)))) (.var 2)))]
section
variable {F : Nat → List D → Sto → R (D × Sto)} {N : Net} {k d : Nat}
theorem serves_ok (w : N.WF) (hk : k < N.lanes.length) (hd : d < N.h) (S : Sto) : runFn F ⟨3, 3, p_serves⟩ [encN N, .int k, .int d] S = .ok (.bl (decide (k ∈ N.ent (N.st k) d)), S) := by
  have b := w.ln k hk
  rw [runFn_eq (S1 := S) rfl, trim_self]
  simp [p_serves, encN, encL, encR, encI, cmpD, lane_at hk, row_at w b.1, ent_at w b.1 hd, in_ints]
theorem ahead_ok (w : N.WF) (hk : k < N.lanes.length) (hd : d < N.h) (S : Sto) : runFn F ⟨3, 3, p_ahead⟩ [encN N, .int k, .int d] S = .ok (encE (N.ent (N.en k) d), S) := by
  have b := w.ln k hk
  rw [runFn_eq (S1 := S) rfl, trim_self]
  simp [p_ahead, encN, encL, encR, encI, lane_at hk, row_at w b.2.1, ent_at w b.2.1 hd]
def Net.aim (N : Net) (k : Nat) : List Nat := (List.range N.h).filter fun d => decide (k ∈ N.ent (N.st k) d)
end
end Ev
set_option autoImplicit false
set_option linter.all false
namespace Ev
open PySem
/-- a deck lies at a, its cells at b -/
def DeckAt (S : Sto) (a b : Nat) : Prop := a ≠ b ∧ ∃ (ns : List Int) (m c : Int), ns.length ≤ 63 ∧ S[a]? = some (.lst [.loc b, .int m, .int c]) ∧ S[b]? = some (.lst (ns.map .int))
/-- the store has grown, and nothing old has changed but the deck -/
structure Stp (a b : Nat) (S S' : Sto) : Prop where
  len : S.length ≤ S'.length
  fr : ∀ i, i < S.length → i ≠ a → i ≠ b → S'[i]? = S[i]?
  dk : DeckAt S' a b
theorem lt_of_at {S : Sto} {k : Nat} {c : Cell} (h : S[k]? = some c) : k < S.length := (List.getElem?_eq_some_iff.mp h).1
theorem DeckAt.la {S : Sto} {a b : Nat} (h : DeckAt S a b) : a < S.length := let ⟨_, _, _, _, _, h, _⟩ := h; lt_of_at h
theorem DeckAt.lb {S : Sto} {a b : Nat} (h : DeckAt S a b) : b < S.length := let ⟨_, _, _, _, _, _, h⟩ := h; lt_of_at h
theorem Stp.self {S : Sto} {a b : Nat} (h : DeckAt S a b) : Stp a b S S := ⟨Nat.le_refl _, fun _ _ _ _ => rfl, h⟩
theorem Stp.trans {S S1 S2 : Sto} {a b : Nat} (h : Stp a b S S1) (k : Stp a b S1 S2) : Stp a b S S2 :=
  ⟨Nat.le_trans h.len k.len, fun i hi h1 h2 => (k.fr i (Nat.lt_of_lt_of_le hi h.len) h1 h2).trans (h.fr i hi h1 h2), k.dk⟩
theorem DeckAt.app {S : Sto} {a b : Nat} (h : DeckAt S a b) (T : Sto) : DeckAt (S ++ T) a b := by
  obtain ⟨hab, ns, m, c, hl, ha, hb⟩ := h
  exact ⟨hab, ns, m, c, hl, at_app ha _, at_app hb _⟩
theorem Stp.app {S S1 : Sto} {a b : Nat} (h : Stp a b S S1) (T : Sto) : Stp a b S (S1 ++ T) := by
  refine ⟨?_, fun i hi h1 h2 => ?_, h.dk.app T⟩
  · have := h.len; rw [List.length_append]; omega
  · rw [List.getElem?_append_left (Nat.lt_of_lt_of_le hi h.len)]; exact h.fr i hi h1 h2
/-- a new list is changed -/
theorem Stp.set {S S1 : Sto} {a b n : Nat} {c : Cell} (h : Stp a b S S1) (hn : S.length ≤ n) (hS : DeckAt S a b) : Stp a b S (S1.set n c) := by
  have la := hS.la
  have lb := hS.lb
  refine ⟨by rw [List.length_set]; exact h.len, fun i hi h1 h2 => ?_, ?_⟩
  · rw [List.getElem?_set_ne (by omega)]; exact h.fr i hi h1 h2
  · obtain ⟨hab, ns, m, c, hl, ha, hb⟩ := h.dk
    exact ⟨hab, ns, m, c, hl, by rw [List.getElem?_set_ne (by omega)]; exact ha, by rw [List.getElem?_set_ne (by omega)]; exact hb⟩
theorem und_ints' (n : Nat) (ns : List Int) : D.undL n (ns.map D.int) = true := undL_all fun x hx => by
  obtain ⟨y, _, rfl⟩ := List.mem_map.mp hx
  rfl
/-- what is thrown away behind a call -/
theorem Stp.trim {S S1 : Sto} {a b : Nat} {d : D} (h : Stp a b S S1) (hS : DeckAt S a b) (hd : d.und S.length = true) : Stp a b S (trim S S1 d) ∧ (Ev.trim S S1 d).length = S.length := by
  have la := hS.la
  have lb := hS.lb
  have ok : trimOk S S1 d := by
    refine ⟨hd, fun i c hi hc => ?_⟩
    obtain ⟨hab, ns, m, c', hl, ha, hb⟩ := h.dk
    by_cases h1 : i = a
    · subst h1
      rw [ha] at hc
      cases hc
      exact .inr (by simp [Cell.und, D.undL, D.und, lb])
    · by_cases h2 : i = b
      · subst h2
        rw [hb] at hc
        cases hc
        exact .inr (und_ints' _ _)
      · rw [h.fr i hi h1 h2] at hc
        exact .inl hc
  have e : Ev.trim S S1 d = S1.take S.length := by unfold Ev.trim; rw [if_pos ok]
  have hlen := h.len
  rw [e]
  refine ⟨⟨by rw [List.length_take]; omega, fun i hi h1 h2 => ?_, ?_⟩, by rw [List.length_take]; omega⟩
  · rw [List.getElem?_take_of_lt hi]; exact h.fr i hi h1 h2
  · obtain ⟨hab, ns, m, c', hl, ha, hb⟩ := h.dk
    exact ⟨hab, ns, m, c', hl, by rw [List.getElem?_take_of_lt la]; exact ha, by rw [List.getElem?_take_of_lt lb]; exact hb⟩
/-- a call that is not trimmed, or is -/
theorem Stp.trim' {S S1 : Sto} {a b : Nat} {d : D} (h : Stp a b S S1) (hS : DeckAt S a b) : Stp a b S (Ev.trim S S1 d) := by
  by_cases ok : d.und S.length = true
  · exact (h.trim hS ok).1
  · unfold Ev.trim
    rw [if_neg fun q => ok q.1]
    exact h
@[simp] theorem frGo_nil0 (p : Pt) (b : Env → Sto → R Fl) (r : Env) (S : Sto) : frGo .no p b [] r S = .ok (.nx r S) := by
  simp only [frGo]; exact if_pos trivial
@[simp] theorem frGo_cons0 (p : Pt) (b : Env → Sto → R Fl) (d : D) (ds : List D) (r : Env) (S : Sto) : frGo .no p b (d :: ds) r S = (opt (bindP p d r)).bi fun r1 => (b r1 S).bi fun f => match f with
      | .nx r' S' => frGo .no p b ds r' S'
      | .ct r' S' => frGo .no p b ds r' S'
      | .bk r' S' => .ok (.nx r' S')
      | .rt d S' => .ok (.rt d S') := by
  rw [frGo]; exact if_pos trivial
@[simp] theorem srcD_rng2 (S : Sto) : srcD .rng1 [.int 2] S = .ok ([.int 0, .int 1], .no) := srcD_rng 2 (by omega) S
theorem small_mod (x k : Int) (h0 : 0 < k) (h : k < 2 ^ 40) : small (x % k) := by
  have h1 := Int.emod_nonneg x (show k ≠ 0 by omega)
  have h2 := Int.emod_lt_of_pos x h0
  unfold small
  omega
def p_draw : List St := [(.iff (.and (.cmp .NotEq (.sub (.var 0) (.cst (.int 0))) (.lst [])) (.cmp .Gt (.var 1) (.cst (.int 1)))) [(.asg (.nm 2) (.mth .pop (.sub (.var 0) (.cst (.int 0))) [(.cst (.int 0))])), (.iff (.cmp .GtE (.var 2) (.var 1)) [(.exp (.mth .insert (.sub (.var 0) (.cst (.int 0))) [(.cst (.int 0)), (.bin .FloorDiv (.var 2) (.var 1))]))] []), (.ret (.bin .Mod (.blt .int [(.var 2)]) (.var 1)))] []), (.sset (.var 0) (.cst (.int 2)) (.bin .Add (.sub (.var 0) (.cst (.int 2))) (.cst (.int 1)))), (.asg (.nm 3) (.bin .Mod (.blt .int [(.bin .Add (.sub (.var 0) (.cst (.int 1))) (.bin .Mult (.cst (.int 2654435761)) (.sub (.var 0) (.cst (.int 2)))))]) (.cst (.int 4294967291)))), (.fr (.nm 4) .rng1 [(.cst (.int 2))] [(.asg (.nm 3) (.bin .Mod (.blt .int [(.bin .Add (.bin .Add (.bin .Add (.bin .Mult (.var 3) (.var 3)) (.bin .Mult (.cst (.int 48271)) (.sub (.var 0) (.cst (.int 2))))) (.cst (.int 29))) (.var 4))]) (.cst (.int 4294967279))))]), (.ret (.bin .Mod (.blt .int [(.bin .FloorDiv (.var 3) (.cst (.int 512)))]) (.var 1)))]
def DrawC (f : List D → Sto → R (D × Sto)) : Prop := ∀ (a b : Nat) (S : Sto) (many : Nat), DeckAt S a b → 1 ≤ many → many < 2 ^ 40 →
  Rs (f [.loc a, .int many] S) fun p => ∃ v : Nat, v < many ∧ p.1 = encI v ∧ Stp a b S p.2 ∧ p.2.length = S.length
section
variable {F : Nat → List D → Sto → R (D × Sto)}
theorem mod_nat (x : Int) (many : Nat) (h : 1 ≤ many) : ∃ v : Nat, v < many ∧ x % (many : Int) = v := by
  have h1 := Int.emod_nonneg x (show (many : Int) ≠ 0 by omega)
  have h2 := Int.emod_lt_of_pos x (show (0 : Int) < many by omega)
  exact ⟨(x % (many : Int)).toNat, by omega, by omega⟩
theorem draw_two (a b : Nat) (T : Sto) (many : Nat) (m c : Int) (h1 : 1 ≤ many) (ha : T[a]? = some (.lst [.loc b, .int m, .int c])) :
    Rs (evSs F (p_draw.drop 1) [some (.loc a), some (.int many), none, none, none] T) fun f => ∃ v : Nat, v < many ∧ ∃ c' : Int, f = .rt (encI v) (T.set a (.lst [.loc b, .int m, .int c'])) := by
  have la := lt_of_at ha
  have s1 : small 2654435761 := by unfold small; omega
  have s2 : small 48271 := by unfold small; omega
  have s3 := fun x => small_mod x 4294967291 (by omega) (by omega)
  have s4 := fun x => small_mod x 4294967279 (by omega) (by omega)
  have q := fun c => List.getElem?_set_self (l := T) (a := c) la
  simp [p_draw, ha, L2.ixN, q, s1, s2, s3, s4]
  refine ⟨by omega, ?_⟩
  obtain ⟨v, hv, e⟩ := mod_nat _ many h1
  exact ⟨v, hv, e, c + 1, rfl⟩
theorem draw_ok : DrawC (runFn F ⟨2, 5, p_draw⟩) := by
  intro a b S many h h1 h2
  have hS := h
  obtain ⟨hab, ns, m, c, hl, ha, hb⟩ := h
  have la := hS.la
  have lb := hS.lb
  refine runFn_by rfl ?_
  have e0 : S.length = (S ++ [Cell.lst []]).length - 1 := by simp
  have st1 := (Stp.self hS).app [Cell.lst []]
  have hTa := at_app ha [Cell.lst []]
  have hTb := at_app hb [Cell.lst []]
  have e1 : eqD (.loc b) (.loc S.length) (S ++ [.lst []]) = .ok ns.isEmpty := by
    rw [eq_nil (n := 1) hTb at_last (fun x hx => by obtain ⟨y, _, rfl⟩ := List.mem_map.mp hx; trivial) (by omega)]
    cases ns <;> rfl
  have two : Rs (evSs F (p_draw.drop 1) [some (.loc a), some (.int many), none, none, none] (S ++ [.lst []])) fun r => match r with
      | .rt d S1 => ∃ v : Nat, v < many ∧ d = encI v ∧ Stp a b S (Ev.trim S S1 d) ∧ (Ev.trim S S1 d).length = S.length
      | .nx _ S1 => False
      | _ => False := by
    refine (draw_two a b _ many m c h1 hTa).mono fun f hf => ?_
    obtain ⟨v, hv, c', rfl⟩ := hf
    refine ⟨v, hv, rfl, ?_⟩
    refine Stp.trim ⟨by simp, fun i hi p q => ?_, hab, ns, m, c', hl, ?_, ?_⟩ hS rfl
    · rw [List.getElem?_set_ne (by omega), List.getElem?_append_left hi]
    · exact List.getElem?_set_self (lt_of_at hTa)
    · rw [List.getElem?_set_ne (by omega)]; exact hTb
  have skip : (ns = [] ∨ many ≤ 1) → Rs (evSs F p_draw [some (.loc a), some (.int many), none, none, none] S) fun r => match r with
      | .rt d S1 => ∃ v : Nat, v < many ∧ d = encI v ∧ Stp a b S (Ev.trim S S1 d) ∧ (Ev.trim S S1 d).length = S.length
      | .nx _ S1 => False
      | _ => False := by
    intro hc
    rw [show p_draw = p_draw.head (by simp [p_draw]) :: p_draw.drop 1 from rfl]
    rw [evSs_cons]
    have e2 : evS F (p_draw.head (by simp [p_draw])) [some (.loc a), some (.int many), none, none, none] S = .ok (.nx [some (.loc a), some (.int many), none, none, none] (S ++ [.lst []])) := by
      cases ns with
      | nil => simp [p_draw, ha, e1]
      | cons n ns =>
        have hm : many = 1 := by
          rcases hc with hc | hc
          · cases hc
          · omega
        subst hm
        simp [p_draw, ha, e1]
    rw [e2, bi_ok]
    exact two
  by_cases hc : ns = [] ∨ many ≤ 1
  · refine (skip hc).mono fun f hf => ?_
    cases f with
    | rt d S1 => exact hf
    | nx r S1 => exact hf.elim
    | ct r S1 => exact hf.elim
    | bk r S1 => exact hf.elim
  · obtain ⟨n, ns, rfl⟩ : ∃ n ns', ns = n :: ns' := by
      cases ns with
      | nil => exact (hc (.inl rfl)).elim
      | cons n ns => exact ⟨n, ns, rfl⟩
    have hm : 1 < many := by
      have : ¬ many ≤ 1 := fun q => hc (.inr q)
      omega
    have q0 := fun c => List.getElem?_set_self (l := S ++ [Cell.lst []]) (i := b) (a := c) (lt_of_at hTb)
    have q1 := fun c => List.getElem?_set_ne (l := S ++ [Cell.lst []]) (i := b) (j := a) (a := c) (by omega)
    obtain ⟨v, hv, ev⟩ := mod_nat n many h1
    have hm' : (1 : Int) < many := by omega
    have h3 : (many : Int) < 18446744073709551616 := by omega
    have h4 : (0 : Int) < many := by omega
    have q2 := fun c d => List.set_set (l := S ++ [Cell.lst []]) (i := b) (a := c) (b := d)
    have fin : ∀ ns' : List Int, ns'.length ≤ 63 → Stp a b S (Ev.trim S ((S ++ [Cell.lst []]).set b (.lst (ns'.map .int))) (encI v)) ∧ (Ev.trim S ((S ++ [Cell.lst []]).set b (.lst (ns'.map .int))) (encI v)).length = S.length := fun ns' hn =>
      Stp.trim ⟨by simp, fun i hi p q => by rw [List.getElem?_set_ne (by omega), List.getElem?_append_left hi], hab, ns', m, c, hn, by rw [q1]; exact hTa, q0 _⟩ hS rfl
    simp only [List.length_cons] at hl
    by_cases hn : (many : Int) ≤ n
    · have := fin ((n / many) :: ns) (by simpa using hl)
      simp [p_draw, ha, hTa, hTb, e1, hm', q0, q1, q2, hn, h3, h4, ev]
      exact ⟨by omega, by omega, by omega, v, hv, rfl, by simpa using this⟩
    · have := fin ns (by omega)
      simp [p_draw, ha, hTa, hTb, e1, hm', q0, q1, hn, h4, ev]
      exact ⟨by omega, v, hv, rfl, by simpa using this⟩
def p_pick (dr : Nat) : List St := [(.ret (.sub (.var 1) (.call dr [(.var 0), (.blt .len [(.var 1)])])))]
/-- what is picked from stays while the deck is drawn from -/
def Keeps (S : Sto) (a b : Nat) (d : D) (xs : List D) : Prop := ∀ S', Stp a b S S' → items S' d = some xs
theorem Keeps.tup {S : Sto} {a b : Nat} (xs : List D) : Keeps S a b (.tup xs) xs := fun _ _ => rfl
theorem Keeps.loc {S : Sto} {a b n : Nat} {xs : List D} (h : S[n]? = some (.lst xs)) (h1 : n ≠ a) (h2 : n ≠ b) : Keeps S a b (.loc n) xs := fun S' hs => items_loc ((hs.fr n (lt_of_at h) h1 h2).trans h)
theorem len_any {S : Sto} {d : D} {xs : List D} (h : items S d = some xs) : bltD .len [d] S = .ok (.int xs.length, S) := by
  cases d with
  | str x => cases h
  | tup ys => cases h; rfl
  | frz ys => cases h; rfl
  | loc k => simp [items_locE] at h; simp [h]
  | non => cases h
  | bl b => cases h
  | int i => cases h
theorem sub_any {S : Sto} {d : D} {xs : List D} (h : items S d = some xs) (j : Int) : subX d (.int j) S = opt (nth xs j) := by
  cases d with
  | str x => cases h
  | tup ys => cases h; simp
  | frz ys => cases h; simp
  | loc k => simp [items_locE] at h; simp [dctAt_of h, h]
  | non => cases h
  | bl b => cases h
  | int i => cases h
theorem list_any {S : Sto} {d : D} {xs : List D} (h : items S d = some xs) : bltD .list [d] S = .ok (.loc S.length, S ++ [.lst xs]) := by
  cases d with
  | str x => cases h
  | tup ys => cases h; rfl
  | frz ys => cases h; rfl
  | loc k =>
    have h' : S[k]? = some (.lst xs) := by
      rw [items_locE] at h
      cases hk : S[k]? with
      | none => rw [hk] at h; cases h
      | some c =>
        cases c with
        | lst ys => rw [hk] at h; cases h; rfl
        | dct _ => rw [hk] at h; cases h
    simp [h']
  | non => cases h
  | bl b => cases h
  | int i => cases h
def PickC (f : List D → Sto → R (D × Sto)) : Prop := ∀ (a b : Nat) (S : Sto) (d : D) (xs : List D), DeckAt S a b → Keeps S a b d xs → xs ≠ [] → xs.length < 2 ^ 40 → (∀ x, x ∈ xs → x.und S.length = true) →
  Rs (f [.loc a, d] S) fun p => p.1 ∈ xs ∧ Stp a b S p.2 ∧ p.2.length = S.length
theorem pick_ok {dr : Nat} (hd : DrawC (F dr)) : PickC (runFn F ⟨2, 2, p_pick dr⟩) := by
  intro a b S d xs hS hk hx hl hu
  refine runFn_by rfl ?_
  have h0 := hk S (Stp.self hS)
  have pos : 1 ≤ xs.length := by
    cases xs with
    | nil => exact (hx rfl).elim
    | cons x xs => simp
  simp [p_pick, len_any h0]
  refine (hd a b S xs.length hS pos hl).mono fun p hp => ?_
  obtain ⟨d', S1⟩ := p
  obtain ⟨v, hv, rfl, hs, hl⟩ := hp
  have hv' : xs[v]? = some xs[v] := List.getElem?_eq_getElem hv
  simp [sub_any (hk S1 hs), hv']
  exact ⟨(hs.trim hS (hu _ (List.getElem_mem _))).1, (hs.trim hS (hu _ (List.getElem_mem _))).2⟩
def p_mixed (dr : Nat) : List St := [(.par 2 3 (.blt .list [(.var 1)]) (.lst [])), (.whl (.cmp .NotEq (.var 2) (.lst [])) [(.exp (.mth .append (.var 3) [(.mth .pop (.var 2) [(.call dr [(.var 0), (.blt .len [(.var 2)])])])]))]), (.ret (.var 3))]
theorem erase_perm {α : Type} : ∀ (l m : List α) (v : Nat) (h : v < l.length), (l.eraseIdx v ++ (m ++ [l[v]])).Perm (l ++ m)
  | [], _, _, h => absurd h (Nat.not_lt_zero _)
  | x :: l, m, 0, _ => by
    show (l ++ (m ++ [x])).Perm (x :: (l ++ m))
    rw [← List.append_assoc]
    exact List.perm_append_comm
  | x :: l, m, v + 1, h => by
    have h' : v < l.length := by simpa using h
    show (x :: (l.eraseIdx v ++ (m ++ [l[v]]))).Perm (x :: (l ++ m))
    exact List.Perm.cons x (erase_perm l m v (by simpa using h))
def MixC (f : List D → Sto → R (D × Sto)) : Prop := ∀ (a b : Nat) (S : Sto) (d : D) (xs : List D), DeckAt S a b → items S d = some xs → xs.length < 16777216 → (∀ x, x ∈ xs → Cl 50 x) →
  Rs (f [.loc a, d] S) fun p => ∃ n ys, p.1 = .loc n ∧ S.length ≤ n ∧ p.2[n]? = some (.lst ys) ∧ ys.Perm xs ∧ Stp a b S p.2
theorem mixed_ok {dr : Nat} (hd : DrawC (F dr)) : MixC (runFn F ⟨2, 4, p_mixed dr⟩) := by
  intro a b S d xs hS hk hl hc
  have la := hS.la
  have lb := hS.lb
  refine runFn_by rfl ?_
  simp [p_mixed, list_any hk]
  refine Rs.mono (whileR_by (fun n r S1 => ∃ left found, left.length = n ∧ r = [some (.loc a), some d, some (.loc S.length), some (.loc (S.length + 1))] ∧ S1[S.length]? = some (.lst left) ∧ S1[S.length + 1]? = some (.lst found) ∧ (left ++ found).Perm xs ∧ Stp a b S S1)
    (P := fun f => ∃ S1 found, f = .nx [some (.loc a), some d, some (.loc S.length), some (.loc (S.length + 1))] S1 ∧ S1[S.length + 1]? = some (.lst found) ∧ found.Perm xs ∧ Stp a b S S1) ?_ (n := xs.length) ⟨xs, [], rfl, rfl, by simp, by simp, by simp, ((Stp.self hS).app _)⟩) ?_
  · rintro n r S1 ⟨left, found, hn, rfl, h1, h2, hp, hs⟩
    have hcl : ∀ x, x ∈ left → Cl 50 x := fun x hx => hc x (hp.subset (List.mem_append_left _ hx))
    have e1 : eqD (.loc S.length) (.loc S1.length) (S1 ++ [.lst []]) = .ok left.isEmpty := eq_nil (n := 50) (at_app h1 _) at_last hcl (by omega)
    have hlen := hp.length_eq
    rw [List.length_append] at hlen
    have h1' := at_app h1 [Cell.lst []]
    have h2' := at_app h2 [Cell.lst []]
    simp [e1, h1', h2']
    split
    · rename_i he
      subst he
      exact ⟨by simpa using hp, hs.app _⟩
    · rename_i he
      have pos : 1 ≤ left.length := by
        cases left with
        | nil => exact (he rfl).elim
        | cons x l => simp
      have hs' := hs.app [Cell.lst []]
      refine (hd a b _ left.length hs'.dk pos (by omega)).mono fun p hp2 => ?_
      obtain ⟨d', S2⟩ := p
      obtain ⟨v, hv, rfl, hs2, hl2⟩ := hp2
      have l1 := lt_of_at h1'
      have l2 := lt_of_at h2'
      have h1' := (hs2.fr _ l1 (by omega) (by omega)).trans h1'
      have h2' := (hs2.fr _ l2 (by omega) (by omega)).trans h2'
      have hv' : left[v]? = some left[v] := List.getElem?_eq_getElem hv
      have q1 := fun c => List.getElem?_set_self (l := S2) (i := S.length) (a := c) (lt_of_at h1')
      have q2 := fun c => List.getElem?_set_ne (l := S2) (i := S.length) (j := S.length + 1) (a := c) (by omega)
      have q3 := fun c e => List.getElem?_set_self (l := S2.set S.length c) (i := S.length + 1) (a := e) (by rw [List.length_set]; exact lt_of_at h2')
      have q4 := fun c e => List.getElem?_set_ne (l := S2.set S.length c) (i := S.length + 1) (j := S.length) (a := e) (by omega)
      simp [h1', hv', q1, q2, q3, q4, h2', ← hn]
      refine ⟨by omega, by omega, _, ?_, _, rfl, rfl, ?_, ?_⟩
      · rw [List.length_eraseIdx_of_lt hv]; omega
      · exact List.Perm.trans (erase_perm left found v hv) hp
      · exact ((hs'.trans hs2).set (Nat.le_refl _) hS).set (by omega) hS
  · rintro f ⟨S1, found, rfl, h1, hp, hs⟩
    simp
    refine ⟨found, ?_, hp, hs.trim' hS⟩
    unfold Ev.trim
    rw [if_neg fun q => by have h := q.1; simp only [D.und, decide_eq_true_eq] at h; omega]
    exact h1
def p_deck : List St := [(.par 1 2 (.lc (.bin .Add (.bin .Mult (.cst (.int 2)) (.blt .abs [(.var 3)])) (.blt .int [(.cmp .Lt (.var 3) (.cst (.int 0)))])) [3] (.nm 3) .seq [(.slc (.var 0) false (.cst .non) true (.cst (.int 63)))] (.cst (.bl true))) (.bin .Add (.cst (.int 90533)) (.blt .len [(.var 0)]))), (.fr (.nm 3) .seq [(.var 1)] [(.asg (.nm 2) (.bin .Mod (.blt .int [(.bin .Add (.bin .Add (.bin .Mult (.var 2) (.cst (.int 16807))) (.var 3)) (.cst (.int 11)))]) (.cst (.int 4294967291))))]), (.ret (.lst [(.lc (.var 3) [3] (.nm 3) .seq [(.var 1)] (.cmp .Gt (.var 3) (.bin .Pow (.cst (.int 10)) (.cst (.int 15))))), (.var 2), (.cst (.int 0))]))]
def DeckC (f : List D → Sto → R (D × Sto)) : Prop := ∀ (ns : List Int) (S : Sto), Rs (f [.frz (ns.map .int)] S) fun p => ∃ a b, p.1 = .loc a ∧ DeckAt p.2 a b
theorem cut_map {α β : Type} (f : α → β) (xs : List α) (lo hi : Option Int) : cut (xs.map f) lo hi = (cut xs lo hi).map f := by
  unfold cut
  rw [List.length_map, ← List.map_drop, ← List.map_take]
theorem cut_hi {α : Type} (xs : List α) (n : Nat) : cut xs none (some (n : Int)) = xs.take n := by
  unfold cut
  rw [HT.sIx_none, HT.sIx_nat, List.drop_zero, Nat.sub_zero]
  by_cases h : n ≤ xs.length
  · rw [Nat.min_eq_left h]
  · rw [Nat.min_eq_right (by omega), List.take_length, List.take_of_length_le (by omega)]
theorem deck_ok : DeckC (runFn F ⟨1, 4, p_deck⟩) := by
  intro ns S
  refine runFn_by rfl ?_
  have s5 : small 2 := by unfold small; omega
  have s6 : small 16807 := by unfold small; omega
  obtain ⟨ms, hms⟩ : ∃ ms, ms = ns.take 63 := ⟨_, rfl⟩
  have hml : ms.length ≤ 63 := by rw [hms, List.length_take]; omega
  have e0 : cut (ns.map D.int) none (some 63) = ms.map D.int := by
    rw [cut_map, hms]; exact congrArg _ (cut_hi ns 63)
  have l1 := lc_map (g := .one (S.length, ms.map D.int)) (en := D.int) (xs := ms) (S := S ++ [.lst (ms.map D.int)])
    (step := lcStep F [some (.frz (ns.map .int)), none, none, none] (.bin .Add (.bin .Mult (.cst (.int 2)) (.blt .abs [(.var 3)])) (.blt .int [(.cmp .Lt (.var 3) (.cst (.int 0)))])) [3] (.nm 3) (.cst (.bl true)))
    (fun i => some (.int (2 * (if i < 0 then -i else i) + (if i < 0 then 1 else 0)))) (by simp [gok]) (by omega) (fun i hi acc => by
      simp [lcStep, s5]
      )
  rw [show (fun i : Int => some (D.int (2 * (if i < 0 then -i else i) + (if i < 0 then 1 else 0)))) = some ∘ D.int ∘ (fun i : Int => 2 * (if i < 0 then -i else i) + (if i < 0 then 1 else 0)) from rfl, List.filterMap_eq_map, ← List.map_map] at l1
  obtain ⟨cs, hcs⟩ : ∃ cs, cs = ms.map (fun i : Int => 2 * (if i < 0 then -i else i) + (if i < 0 then 1 else 0)) := ⟨_, rfl⟩
  have hcl : cs.length ≤ 63 := by rw [hcs, List.length_map]; exact hml
  rw [← hcs] at l1
  simp at l1
  simp [p_deck, e0, l1]
  refine (frGo_by (fun _ r S1 => ∃ (m : Int) (x : Option D), r = [some (.frz (ns.map .int)), some (.loc (S.length + 1)), some (.int m), x] ∧ S1 = S ++ [.lst (ms.map D.int), .lst (cs.map D.int)])
    (P := fun f => ∃ (m : Int) (x : Option D), f = .nx [some (.frz (ns.map .int)), some (.loc (S.length + 1)), some (.int m), x] (S ++ [.lst (ms.map D.int), .lst (cs.map D.int)])) ⟨_, _, rfl, rfl⟩ ?_ ?_ ?_).mono ?_
  · rintro i r S1 hi ⟨m, x, rfl, rfl⟩
    simp [gok]
  · rintro i d r S1 hi ⟨m, x, rfl, rfl⟩
    obtain ⟨c, hc, rfl⟩ := List.mem_map.mp (List.mem_of_getElem? hi)
    simp [s6]
  · rintro r S1 ⟨m, x, rfl, rfl⟩
    exact ⟨m, x, rfl⟩
  · rintro f ⟨m, x, rfl⟩
    have l2 := lc_map (g := .one (S.length + 1, cs.map D.int)) (en := D.int) (xs := cs) (S := S ++ [.lst (ms.map D.int), .lst (cs.map D.int)])
      (step := lcStep F [some (.frz (ns.map .int)), some (.loc (S.length + 1)), some (.int m), x] (.var 3) [3] (.nm 3) (.cmp .Gt (.var 3) (.bin .Pow (.cst (.int 10)) (.cst (.int 15)))))
      (fun i => if decide (10 ^ 15 < i) = true then some (.int i) else none) (by simp [gok]) (by omega) (fun i hi acc => by
        simp [lcStep]
        split <;> simp)
    rw [filterMap_dec] at l2
    obtain ⟨fs, hfs⟩ : ∃ fs, fs = cs.filter (fun i : Int => decide (10 ^ 15 < i)) := ⟨_, rfl⟩
    rw [← hfs] at l2
    simp at l2
    simp [l2]
    have hfl : fs.length ≤ 63 := by
      have := List.length_filter_le (fun i : Int => decide (10 ^ 15 < i)) cs
      rw [← hfs] at this
      omega
    refine ⟨S.length + 2, ?_⟩
    unfold Ev.trim
    rw [if_neg fun q => by have h := q.1; simp only [D.und, decide_eq_true_eq] at h; omega]
    exact ⟨by omega, fs, m, 0, hfl, by simp, by simp⟩
end
end Ev
set_option autoImplicit false
set_option linter.all false
namespace Ev
open PySem
/-- numbers sorted -/
def nsort (ks : List Nat) : List Nat := (isort (ks.map fun k : Nat => (k : Int))).map Int.toNat
theorem isort_nat (ks : List Nat) : (isort (ks.map fun k : Nat => (k : Int))).map D.int = (nsort ks).map encI := by
  unfold nsort
  rw [List.map_map]
  refine List.map_congr_left fun i hi => ?_
  obtain ⟨k, _, rfl⟩ := List.mem_map.mp ((isort_perm _).subset hi)
  rfl
theorem nsort_perm (ks : List Nat) : (nsort ks).Perm ks := by
  have h := (isort_perm (ks.map fun k : Nat => (k : Int))).map Int.toNat
  rw [List.map_map] at h
  have e : ks.map (Int.toNat ∘ fun k : Nat => (k : Int)) = ks := by
    rw [List.map_congr_left (g := id) fun k _ => by simp]; simp
  rw [e] at h
  exact h
theorem nsort_lt {ks : List Nat} (h : ks.Nodup) : (nsort ks).Pairwise (· < ·) := by
  have h1 : (nsort ks).Pairwise (· ≤ ·) := by
    unfold nsort
    rw [List.pairwise_map]
    exact (isort_sorted _).imp fun {a b} hab => by omega
  have h2 : (nsort ks).Pairwise (· ≠ ·) := (nsort_perm ks).nodup_iff.mpr h
  exact (h1.and h2).imp fun {a b} q => by omega
theorem perm_map {α β : Type} {f : α → β} (g : β → α) (hg : ∀ x, g (f x) = x) {ys : List β} {xs : List α} (h : ys.Perm (xs.map f)) : ∃ zs : List α, ys = zs.map f ∧ zs.Perm xs := by
  refine ⟨ys.map g, ?_, ?_⟩
  · rw [List.map_map]
    refine (List.map_id ys).symm.trans (List.map_congr_left fun y hy => ?_)
    obtain ⟨x, _, rfl⟩ := List.mem_map.mp (h.subset hy)
    simp [hg]
  · have := h.map g
    rw [List.map_map] at this
    rwa [List.map_congr_left (g := id) fun x _ => by simp [hg], List.map_id] at this
def unI : D → Nat
  | .int i => i.toNat
  | _ => 0
theorem unI_encI (k : Nat) : unI (encI k) = k := by simp [unI, encI]
theorem perm_ints {ys : List D} {xs : List Nat} (h : ys.Perm (xs.map encI)) : ∃ zs : List Nat, ys = zs.map encI ∧ zs.Perm xs := perm_map unI unI_encI h
def enumL {α : Type} (ls : List α) : List (Nat × α) := (List.range ls.length).zip ls
theorem pairs_map {α : Type} (en : α → D) (ls : List α) : pairs (ls.map en) = (enumL ls).map fun p => D.tup [encI p.1, en p.2] := by
  unfold pairs enumL
  rw [List.length_map, List.zipWith_map_right, ← List.map_uncurry_zip_eq_zipWith]
  rfl
theorem enumL_at {α : Type} {ls : List α} {p : Nat × α} (h : p ∈ enumL ls) : ls[p.1]? = some p.2 := by
  unfold enumL at h
  obtain ⟨i, hi, e⟩ := List.mem_iff_getElem.mp h
  rw [List.getElem_zip] at e
  rw [← e]
  simp only [List.getElem_range]
  exact List.getElem?_eq_getElem _
theorem enumL_nodup {α : Type} (ls : List α) (q : Nat × α → Bool) : (((enumL ls).filter q).map (·.1)).Nodup := by
  have h : ((enumL ls).map (·.1)).Nodup := by
    unfold enumL
    rw [List.map_fst_zip (by simp)]
    exact List.nodup_range
  exact (List.Sublist.map _ List.filter_sublist).nodup h
def here (ls : List (Nat × Nat × Nat)) (u : Nat) : List Nat := ((enumL ls).filter fun p => decide (p.2.1 = u)).map (·.1)
theorem here_at {ls : List (Nat × Nat × Nat)} {u k : Nat} (h : k ∈ here ls u) : ∃ l, ls[k]? = some l ∧ l.1 = u := by
  obtain ⟨p, hp, rfl⟩ := List.mem_map.mp h
  obtain ⟨h1, h2⟩ := List.mem_filter.mp hp
  exact ⟨p.2, enumL_at h1, by simpa using h2⟩
theorem here_len (ls : List (Nat × Nat × Nat)) (u : Nat) : (here ls u).length ≤ ls.length := by
  unfold here
  rw [List.length_map]
  refine Nat.le_trans (List.length_filter_le _ _) ?_
  unfold enumL
  simp
def p_entry (mx pk : Nat) : List St := [(.asg (.nm 3) (.call mx [(.var 0), (.lc (.var 5) [5, 6] (.tp [(.nm 5), (.nm 6)]) .enum [(.var 1)] (.cmp .Eq (.sub (.var 6) (.cst (.int 0))) (.var 2)))])), (.asg (.nm 4) (.call pk [(.var 0), (.lst [(.cst (.int 1)), (.cst (.int 1)), (.cst (.int 1)), (.cst (.int 1)), (.cst (.int 2)), (.cst (.int 2)), (.blt .len [(.var 3)]), (.cst (.int 0))])])), (.ret (.blt .tuple [(.blt .sorted [(.slc (.var 3) false (.cst .non) true (.var 4))])]))]
def EntC (f : List D → Sto → R (D × Sto)) : Prop := ∀ (a b n : Nat) (S : Sto) (ls : List (Nat × Nat × Nat)) (u : Nat), DeckAt S a b → n ≠ a → n ≠ b → S[n]? = some (.lst (ls.map encL)) → ls.length ≤ 65536 →
  Rs (f [.loc a, .loc n, .int u] S) fun p => ∃ e : List Nat, p.1 = encE e ∧ (∀ k, k ∈ e → k ∈ here ls u) ∧ e.Pairwise (· < ·) ∧ Stp a b S p.2 ∧ p.2.length = S.length
section
variable {F : Nat → List D → Sto → R (D × Sto)}
theorem entry_ok {mx pk : Nat} (hm : MixC (F mx)) (hp : PickC (F pk)) : EntC (runFn F ⟨3, 7, p_entry mx pk⟩) := by
  intro a b n S ls u hS hna hnb hn hl
  refine runFn_by rfl ?_
  have la := hS.la
  have lb := hS.lb
  have l1 := lc_map (g := .one (n, ls.map encL)) (en := fun p : Nat × Nat × Nat × Nat => D.tup [encI p.1, encL p.2]) (xs := enumL ls) (S := S)
    (step := lcStep F [some (.loc a), some (.loc n), some (.int u), none, none, none, none] (.var 5) [5, 6] (.tp [(.nm 5), (.nm 6)]) (.cmp .Eq (.sub (.var 6) (.cst (.int 0))) (.var 2)))
    (fun p => if decide (p.2.1 = u) = true then some (encI p.1) else none) hn (by unfold enumL; simp; omega) (fun p hp acc => by
      simp [lcStep, encL]
      have e : ((p.2.1 : Int) = (u : Int)) ↔ p.2.1 = u := by omega
      split <;> simp_all)
  rw [filterMap_dec (fun p : Nat × Nat × Nat × Nat => decide (p.2.1 = u)) (fun p => encI p.1), show (fun p : Nat × Nat × Nat × Nat => encI p.1) = encI ∘ (fun p => p.1) from rfl, ← List.map_map] at l1
  have l2 : here ls u = ((enumL ls).filter fun p => decide (p.2.1 = u)).map (·.1) := rfl
  rw [← l2] at l1
  simp only [encI_at] at l1
  simp [p_entry, hn, pairs_map, l1]
  have hS1 := hS.app [Cell.lst ((here ls u).map encI)]
  have st1 := (Stp.self hS).app [Cell.lst ((here ls u).map encI)]
  refine (hm a b _ _ _ hS1 (items_loc at_last) (by rw [List.length_map]; have := here_len ls u; omega) (fun x hx => by
    obtain ⟨k, _, rfl⟩ := List.mem_map.mp hx
    trivial)).mono fun p hp1 => ?_
  obtain ⟨d1, S2⟩ := p
  obtain ⟨m, ys, rfl, hm1, hm2, hm3, st2⟩ := hp1
  obtain ⟨zs, rfl, hz⟩ := perm_ints hm3
  have st3 := (st1.trans st2).app [Cell.lst [D.int 1, D.int 1, D.int 1, D.int 1, D.int 2, D.int 2, .int zs.length, D.int 0]]
  simp only [List.length_append, List.length_cons, List.length_nil] at hm1
  simp at hm2
  simp [hm2]
  refine (hp a b _ _ _ st3.dk (Keeps.loc at_last (by have := st3.dk.la; have := (st1.trans st2).dk.la; omega) (by have := (st1.trans st2).dk.lb; omega)) (by simp) (by simp) (by simp [D.und])).mono fun p hp1 => ?_
  obtain ⟨d2, S3⟩ := p
  obtain ⟨hq, st4, _⟩ := hp1
  have hq' : ∃ c : Nat, d2 = .int c := by
    simp at hq
    rcases hq with h | h | h | h
    · exact ⟨1, h⟩
    · exact ⟨2, h⟩
    · exact ⟨_, h⟩
    · exact ⟨0, h⟩
  obtain ⟨c, rfl⟩ := hq'
  have hm4 := (st4.fr m (lt_of_at (at_app hm2 _)) (by omega) (by omega)).trans (at_app hm2 _)
  simp [hm4, cut_map, cut_hi, ← List.map_take, intsO_nat]
  rw [isort_nat]
  have tr := Stp.trim (d := encE (nsort (zs.take c))) (((st3.trans st4)).app [Cell.lst ((zs.take c).map encI), Cell.lst ((nsort (zs.take c)).map encI)]) hS (und_E _ _)
  refine ⟨nsort (zs.take c), rfl, fun k hk => ?_, nsort_lt ?_, tr.1, tr.2⟩
  · exact hz.subset (List.mem_of_mem_take ((nsort_perm _).subset hk))
  · exact (List.take_sublist c zs).nodup (hz.nodup_iff.mpr (enumL_nodup _ _))
def x_cut1 : C := .blt .tuple [(.lc (.var 4) [4] (.nm 4) .seq [(.var 3)] (.cmp .Lt (.var 4) (.var 1)))]
def x_cut2 : C := .blt .tuple [(.lc x_cut1 [3] (.nm 3) .seq [(.var 2)] (.cst (.bl true)))]
def p_cut : List St := [(.ret (.blt .tuple [(.lc x_cut2 [2] (.nm 2) .seq [(.var 0)] (.cst (.bl true)))]))]
def cutE (m : Nat) (e : List Nat) : List Nat := e.filter fun k => decide (k < m)
theorem cut1 (x0 x2 x4 : Option D) (m : Nat) (e : List Nat) (S : Sto) (hl : e.length ≤ 65536) :
    ev F x_cut1 [x0, some (.int m), x2, some (encE e), x4] S = .ok (encE (cutE m e), S ++ [.lst ((cutE m e).map encI)]) := by
  have l1 := lc_map (g := .no) (en := encI) (xs := e) (S := S) (step := lcStep F [x0, some (.int m), x2, some (.tup (e.map encI)), x4] (.var 4) [4] (.nm 4) (.cmp .Lt (.var 4) (.var 1)))
    (fun k => if decide (k < m) = true then some (encI k) else none) trivial (by omega) (fun k hk acc => by
      simp [lcStep]
      split <;> simp_all)
  rw [filterMap_dec] at l1
  simp [x_cut1, encE, l1]
  rfl
theorem cut2 (x0 x3 x4 : Option D) (m : Nat) (row : List (List Nat)) (S : Sto) (hl : row.length ≤ 65536) (hr : ∀ e, e ∈ row → e.length ≤ 65536) :
    ∃ T, ev F x_cut2 [x0, some (.int m), some (encR row), x3, x4] S = .ok (encR (row.map (cutE m)), S ++ T) := by
  obtain ⟨T, l1⟩ := lc_grow (g := .no) (en := encE) (xs := row) (S := S) (step := lcStep F [x0, some (.int m), some (.tup (row.map encE)), x3, x4] x_cut1 [3] (.nm 3) (.cst (.bl true)))
    (fun e => some (encE (cutE m e))) trivial (by omega) (fun e he acc T => by
      simp [lcStep, cut1 _ _ _ m e _ (hr e he)])
  rw [show (fun e => some (encE (cutE m e))) = some ∘ encE ∘ cutE m from rfl, List.filterMap_eq_map, ← List.map_map] at l1
  refine ⟨.lst ((row.map (cutE m)).map encE) :: T, ?_⟩
  simp [x_cut2, encR, l1]
theorem cut_ok {n : Nat} {S : Sto} {rows : List (List (List Nat))} (m : Nat) (hn : S[n]? = some (.lst (rows.map encR))) (hl : rows.length ≤ 65536) (hr : ∀ row, row ∈ rows → row.length ≤ 65536 ∧ ∀ e, e ∈ row → e.length ≤ 65536) :
    runFn F ⟨2, 5, p_cut⟩ [.loc n, .int m] S = .ok (.tup ((rows.map fun row => row.map (cutE m)).map encR), S) := by
  obtain ⟨T, l1⟩ := lc_grow (g := .one (n, rows.map encR)) (en := encR) (xs := rows) (S := S) (step := lcStep F [some (.loc n), some (.int m), none, none, none] x_cut2 [2] (.nm 2) (.cst (.bl true)))
    (fun row => some (encR (row.map (cutE m)))) hn (by omega) (fun row he acc T => by
      obtain ⟨T', e⟩ := cut2 (F := F) (some (.loc n)) none none m row (S ++ .lst acc :: T) (hr row he).1 (hr row he).2
      refine ⟨T ++ T', ?_⟩
      simp [lcStep, e])
  rw [show (fun row : List (List Nat) => some (encR (row.map (cutE m)))) = some ∘ encR ∘ (fun row => row.map (cutE m)) from rfl, List.filterMap_eq_map, ← List.map_map] at l1
  rw [runFn_eq (S1 := S ++ .lst ((rows.map fun row => row.map (cutE m)).map encR) :: T) (d := .tup ((rows.map fun row => row.map (cutE m)).map encR)) rfl, trim_app]
  · simp only [D.und]; exact undL_map _ _ (und_R _) _
  · simp [p_cut, hn, l1]
def b_lane (dr pk : Nat) : List St := [(.asg (.nm 6) (.call dr [(.var 0), (.var 1)])), (.asg (.nm 7) (.bin .Mod (.blt .int [(.bin .Add (.bin .Add (.var 6) (.cst (.int 1))) (.call dr [(.var 0), (.bin .Sub (.var 1) (.cst (.int 1)))]))]) (.var 1))), (.exp (.mth .append (.var 4) [(.tup [(.var 6), (.var 7), (.call pk [(.var 0), (.lst [(.cst (.int 1)), (.cst (.int 1)), (.cst (.int 2)), (.cst (.int 3)), (.cst (.int 4))])])])])), (.iff (.and (.cmp .Lt (.blt .len [(.var 4)]) (.var 2)) (.cmp .Eq (.call dr [(.var 0), (.cst (.int 3))]) (.cst (.int 0)))) [(.exp (.mth .append (.var 4) [(.tup [(.var 7), (.var 6), (.call pk [(.var 0), (.lst [(.cst (.int 1)), (.cst (.int 2)), (.cst (.int 4))])])])]))] [])]
def b_row (en : Nat) : List St := [(.exp (.mth .append (.var 8) [(.blt .tuple [(.lc (.ife (.cmp .NotEq (.var 10) (.var 9)) (.call en [(.var 0), (.var 4), (.var 9)]) (.tup [])) [10] (.nm 10) .rng1 [(.var 1)] (.cst (.bl true)))])]))]
def p_net (dr pk en ct : Nat) : List St := [(.asg (.nm 4) (.lst [])), (.fr (.nm 5) .rng1 [(.ife (.cmp .Gt (.var 1) (.cst (.int 1))) (.bin .Add (.var 3) (.call dr [(.var 0), (.bin .Add (.bin .Sub (.var 2) (.var 3)) (.cst (.int 1)))])) (.cst (.int 0)))] (b_lane dr pk)), (.asg (.nm 8) (.lst [])), (.fr (.nm 9) .rng1 [(.var 1)] (b_row en)), (.ret (.tup [(.var 1), (.blt .tuple [(.slc (.var 4) false (.cst .non) true (.var 2))]), (.ife (.cmp .LtE (.blt .len [(.var 4)]) (.var 2)) (.blt .tuple [(.var 8)]) (.call ct [(.var 8), (.var 2)]))]))]
def okLane (h : Nat) (l : Nat × Nat × Nat) : Prop := l.1 < h ∧ l.2.1 < h ∧ l.1 ≠ l.2.1 ∧ 1 ≤ l.2.2 ∧ l.2.2 ≤ 4
def OkL (h : Nat) (ls : List (Nat × Nat × Nat)) : Prop := ∀ l, l ∈ ls → okLane h l
theorem OkL.snoc {h : Nat} {ls : List (Nat × Nat × Nat)} {l : Nat × Nat × Nat} (k : OkL h ls) (o : okLane h l) : OkL h (ls ++ [l]) := fun m hm => by
  rcases List.mem_append.mp hm with q | q
  · exact k m q
  · rw [List.mem_singleton.mp q]; exact o
theorem draw_end {h v w : Nat} (h2 : 2 ≤ h) (hv : v < h) (hw : w < h - 1) : ∃ e : Nat, ((v : Int) + 1 + (w : Int)) % (h : Int) = (e : Int) ∧ e < h ∧ v ≠ e := by
  refine ⟨(v + 1 + w) % h, by norm_cast, Nat.mod_lt _ (by omega), ?_⟩
  by_cases q : v + 1 + w < h
  · rw [Nat.mod_eq_of_lt q]; omega
  · rw [Nat.mod_eq_sub_mod (by omega), Nat.mod_eq_of_lt (by omega)]; omega
theorem pick_new {pk : Nat} (hp : PickC (F pk)) {a b : Nat} {S : Sto} (hS : DeckAt S a b) (ks : List Nat) (hk : ks ≠ [] ∧ ks.length < 1000) :
    Rs (F pk [.loc a, .loc S.length] (S ++ [.lst (ks.map encI)])) fun p => ∃ c, c ∈ ks ∧ p.1 = encI c ∧ Stp a b S p.2 := by
  have la := hS.la
  have lb := hS.lb
  refine (hp a b _ _ _ (hS.app _) (Keeps.loc at_last (by omega) (by omega)) (by simpa using hk.1) (by rw [List.length_map]; omega) (fun x hx => by
    obtain ⟨k, _, rfl⟩ := List.mem_map.mp hx
    rfl)).mono fun p hp1 => ?_
  obtain ⟨c, hc, e⟩ := List.mem_map.mp hp1.1
  exact ⟨c, hc, e.symm, ((Stp.self hS).app _).trans hp1.2.1⟩
theorem lane_body {dr pk : Nat} (hd : DrawC (F dr)) (hp : PickC (F pk)) {a b L h most least : Nat} {S S1 : Sto} {x5 x6 x7 : Option D} {ls : List (Nat × Nat × Nat)} (hS : DeckAt S a b) (hL : S.length ≤ L)
    (h2 : 2 ≤ h) (h6 : h ≤ 65536) (st : Stp a b S S1) (hl : S1[L]? = some (.lst (ls.map encL))) (hn : ls.length ≤ 65536) (ok : OkL h ls) :
    Rs (evSs F (b_lane dr pk) [some (.loc a), some (.int h), some (.int most), some (.int least), some (.loc L), x5, x6, x7, none, none, none] S1) fun f =>
      ∃ (S2 : Sto) (x6 x7 : Option D) (ls' : List (Nat × Nat × Nat)), f = .nx [some (.loc a), some (.int h), some (.int most), some (.int least), some (.loc L), x5, x6, x7, none, none, none] S2 ∧ Stp a b S S2 ∧ S2[L]? = some (.lst (ls'.map encL)) ∧ OkL h ls' ∧
        ls.length < ls'.length ∧ ls'.length ≤ ls.length + 2 ∧ (ls.length < most → ls'.length ≤ most) := by
  have la := hS.la
  have lb := hS.lb
  have lL := lt_of_at hl
  simp [b_lane]
  refine (hd a b S1 h st.dk (by omega) (by omega)).mono fun p hp1 => ?_
  obtain ⟨d1, S2⟩ := p
  obtain ⟨v, hv, rfl, t1, _⟩ := hp1
  simp
  rw [show ((h : Int) - 1) = ((h - 1 : Nat) : Int) by omega]
  refine (hd a b S2 (h - 1) t1.dk (by omega) (by omega)).mono fun p hp1 => ?_
  obtain ⟨d1, S3⟩ := p
  obtain ⟨w, hw, rfl, t2, _⟩ := hp1
  have t2 := t1.trans t2
  obtain ⟨e, he, hlt, hne⟩ := draw_end h2 hv hw
  have hL3 := (t2.fr L lL (by omega) (by omega)).trans hl
  have h0 : 0 < h := by omega
  simp [he, hL3, h0]
  refine (pick_new hp t2.dk [1, 1, 2, 3, 4] (by simp)).mono fun p hp1 => ?_
  obtain ⟨d1, S4⟩ := p
  obtain ⟨c, hc, rfl, t3⟩ := hp1
  have t3 := t2.trans t3
  have hL4 := (t3.fr L lL (by omega) (by omega)).trans hl
  have q4 := fun c => List.getElem?_set_self (l := S4) (i := L) (a := c) (lt_of_at hL4)
  have hn' : ls.length < 16777216 := by omega
  simp [hL4, q4, hn']
  have t4 := (st.trans t3).set (c := .lst ((ls ++ [(v, e, c)]).map encL)) hL hS
  have eL : (ls.map encL ++ [D.tup [.int v, .int e, .int c]]) = (ls ++ [(v, e, c)]).map encL := by simp [encL]
  have ok1 : okLane h (v, e, c) := by
    simp at hc
    exact ⟨hv, hlt, hne, by show 1 ≤ c; omega, by show c ≤ 4; omega⟩
  have ok2 := ok.snoc ok1
  have h5 := q4 (.lst ((ls ++ [(v, e, c)]).map encL))
  generalize hls : ls ++ [(v, e, c)] = ls2 at *
  have hll : ls2.length = ls.length + 1 := by rw [← hls]; simp
  rw [eL]
  generalize S4.set L (.lst (ls2.map encL)) = S5 at *
  split
  · rename_i hlt2
    simp
    refine (hd a b S5 3 t4.dk (by omega) (by omega)).mono fun p hp1 => ?_
    obtain ⟨d1, S6⟩ := p
    obtain ⟨z, hz, rfl, t5, _⟩ := hp1
    have hL6 := (t5.fr L (lt_of_at h5) (by omega) (by omega)).trans h5
    simp
    split
    · simp [hL6]
      refine (pick_new hp t5.dk [1, 2, 4] (by simp)).mono fun p hp1 => ?_
      obtain ⟨d1, S7⟩ := p
      obtain ⟨c2, hc2, rfl, t6⟩ := hp1
      have hL7 := (t6.fr L (lt_of_at hL6) (by omega) (by omega)).trans hL6
      have q7 := fun c => List.getElem?_set_self (l := S7) (i := L) (a := c) (lt_of_at hL7)
      have hn'' : ls2.length < 16777216 := by omega
      simp [hL7, hn'']
      have t7 := ((t4.trans t5).trans t6).set (c := .lst ((ls2 ++ [(e, v, c2)]).map encL)) hL hS
      have ok3 : okLane h (e, v, c2) := by
        simp at hc2
        exact ⟨hlt, hv, fun q => hne q.symm, by show 1 ≤ c2; omega, by show c2 ≤ 4; omega⟩
      refine ⟨by simpa [encL] using t7, ls2 ++ [(e, v, c2)], by simp [q7, encL], ok2.snoc ok3, by simp; omega, by simp; omega, by simp; omega⟩
    · simp
      exact ⟨t4.trans t5, ls2, hL6, ok2, by omega, by omega, by omega⟩
  · rename_i hlt2
    simp at hlt2
    simp
    exact ⟨t4, ls2, h5, ok2, by omega, by omega, by omega⟩
theorem range_at {n i : Nat} {d : D} (h : ((List.range n).map encI)[i]? = some d) : i < n ∧ d = encI i := by
  have hi := (List.getElem?_eq_some_iff.mp h).1
  simp at hi
  rw [List.getElem?_map, List.getElem?_range hi] at h
  exact ⟨hi, by cases h; rfl⟩
/-- an entry of the table of u -/
def OkE (ls : List (Nat × Nat × Nat)) (u : Nat) (e : List Nat) : Prop := (∀ k, k ∈ e → k ∈ here ls u) ∧ e.Pairwise (· < ·)
structure OkR (ls : List (Nat × Nat × Nat)) (h u : Nat) (row : List (List Nat)) : Prop where
  len : row.length = h
  es : ∀ e, e ∈ row → OkE ls u e
  dg : ∀ e, row[u]? = some e → e = []
theorem row_body {en : Nat} (he : EntC (F en)) {a b L M h u : Nat} {x1 x2 x5 x6 x7 x10 : Option D} {S S1 : Sto} {ls : List (Nat × Nat × Nat)} {rows : List (List (List Nat))} (hS : DeckAt S a b) (hL : S.length ≤ L) (hM : S.length ≤ M) (hLM : L ≠ M)
    (h6 : h ≤ 65536) (st : Stp a b S S1) (hl : S1[L]? = some (.lst (ls.map encL))) (hn : ls.length ≤ 65536) (hr : S1[M]? = some (.lst (rows.map encR))) (hrl : rows.length ≤ 65536) :
    Rs (evSs F (b_row en) [some (.loc a), some (.int h), x1, x2, some (.loc L), x5, x6, x7, some (.loc M), some (.int u), x10] S1) fun f =>
      ∃ (S2 : Sto) (row : List (List Nat)), f = .nx [some (.loc a), some (.int h), x1, x2, some (.loc L), x5, x6, x7, some (.loc M), some (.int u), x10] S2 ∧ Stp a b S S2 ∧ S2[L]? = some (.lst (ls.map encL)) ∧
        S2[M]? = some (.lst ((rows ++ [row]).map encR)) ∧ OkR ls h u row := by
  have la := hS.la
  have lb := hS.lb
  have lL := lt_of_at hl
  have lM := lt_of_at hr
  have stl := st.len
  simp [b_row, hr, srcD_rng h (by omega)]
  refine (lcGo_by (fun i S2 => ∃ row : List (List Nat), row.length = i ∧ (∀ e, e ∈ row → OkE ls u e) ∧ (∀ e, row[u]? = some e → e = []) ∧ S2[S1.length]? = some (.lst (row.map encE)) ∧ Stp a b S1 S2)
    (P := fun S2 => ∃ row : List (List Nat), OkR ls h u row ∧ S2[S1.length]? = some (.lst (row.map encE)) ∧ Stp a b S1 S2) ?_ ?_ ?_ ?_).mono ?_
  · exact ⟨[], rfl, by simp, by simp, by simp, (Stp.self st.dk).app _⟩
  · intro i S2 _ _; trivial
  · rintro i d S2 hd ⟨row, hi, h1, h2, h3, t1⟩
    obtain ⟨hil, rfl⟩ := range_at hd
    have fin : ∀ (e : List Nat) (S3 : Sto), OkE ls u e → (i = u → e = []) → Stp a b S1 S3 → S3[S1.length]? = some (.lst (row.map encE)) → ∃ acc, lstAt S3[S1.length]? = some acc ∧ acc.length < 16777216 ∧ ∃ row : List (List Nat), row.length = i + 1 ∧ (∀ e, e ∈ row → OkE ls u e) ∧
        (∀ e, row[u]? = some e → e = []) ∧ (S3.set S1.length (.lst (acc ++ [encE e])))[S1.length]? = some (.lst (row.map encE)) ∧ Stp a b S1 (S3.set S1.length (.lst (acc ++ [encE e]))) := by
      intro e S3 oe hie t2 h4
      refine ⟨row.map encE, by simp [h4], by simp; omega, row ++ [e], by simp [hi], ?_, ?_, ?_, ?_⟩
      · intro e' he'
        rcases List.mem_append.mp he' with q | q
        · exact h1 e' q
        · rw [List.mem_singleton.mp q]; exact oe
      · intro e' he'
        by_cases q : u < row.length
        · rw [List.getElem?_append_left q] at he'; exact h2 e' he'
        · by_cases q2 : u = row.length
          · rw [q2, List.getElem?_append_right (Nat.le_refl _), Nat.sub_self] at he'
            cases he'
            exact hie (by omega)
          · rw [List.getElem?_eq_none (by simp; omega)] at he'; cases he'
      · rw [List.getElem?_set_self (lt_of_at h4)]; simp
      · exact t2.set (Nat.le_refl _) st.dk
    simp [lcStep]
    by_cases q : i = u
    · simp [q]
      have := fin [] S2 ⟨by simp, by simp⟩ (fun _ => rfl) t1 h3
      simpa [encE, q] using this
    · have q' : ¬ (i : Int) = (u : Int) := by omega
      simp [q']
      have hL2 := (t1.fr L lL (by omega) (by omega)).trans hl
      refine (he a b L S2 ls u t1.dk (by omega) (by omega) hL2 hn).mono fun p hp => ?_
      obtain ⟨d, S3⟩ := p
      obtain ⟨e, rfl, h5, h6, t2, _⟩ := hp
      refine fin e S3 ⟨h5, h6⟩ (fun h => absurd h q) (t1.trans t2) ?_
      exact (t2.fr _ (lt_of_at h3) (by omega) (by omega)).trans h3
  · rintro S2 ⟨row, hi, h1, h2, h3, t1⟩
    exact ⟨row, ⟨by simpa using hi, h1, h2⟩, h3, t1⟩
  · rintro S2 ⟨row, ok, h3, t1⟩
    have hM2 := (t1.fr M lM (by omega) (by omega)).trans hr
    have hL2 := (t1.fr L lL (by omega) (by omega)).trans hl
    have q2 := fun c => List.getElem?_set_self (l := S2) (i := M) (a := c) (lt_of_at hM2)
    have q3 := fun c => List.getElem?_set_ne (l := S2) (i := M) (j := L) (a := c) (by omega)
    have hn' : rows.length < 16777216 := by omega
    have t2 := (st.trans t1).set (c := .lst ((rows ++ [row]).map encR)) hM hS
    simp [h3, hM2, hn']
    refine ⟨by simpa [encR] using t2, by rw [q3]; exact hL2, row, by simp [q2, encR], ok⟩
theorem getD_map {α β : Type} (f : α → β) (xs : List α) (i : Nat) (x : α) (y : β) (h : f x = y) : (xs.map f).getD i y = f (xs.getD i x) := by
  rw [List.getD_eq_getElem?_getD, List.getD_eq_getElem?_getD, List.getElem?_map]
  cases xs[i]? with
  | none => exact h.symm
  | some z => rfl
def cutT (most : Nat) (rows : List (List (List Nat))) : List (List (List Nat)) := rows.map fun row => row.map (cutE most)
theorem net_wf {h most : Nat} {ls : List (Nat × Nat × Nat)} {rows : List (List (List Nat))} (h1 : 1 ≤ h) (h6 : h ≤ 6) (hm : most ≤ 16) (ok : OkL h ls) (hr : rows.length = h) (hok : ∀ u row, rows[u]? = some row → OkR ls h u row) :
    (Net.mk h (ls.take most) (cutT most rows)).WF := by
  have lane : ∀ k, k < (ls.take most).length → ls[k]? = some ((Net.mk h (ls.take most) (cutT most rows)).lane k) := fun k hk => by
    have hk2 := hk
    rw [List.length_take] at hk2
    have := lane_at (N := Net.mk h (ls.take most) (cutT most rows)) (k := k) hk
    rw [← this]
    show ls[k]? = (ls.take most)[k]?
    rw [List.getElem?_take_of_lt (by omega)]
  have row : ∀ u, (Net.mk h (ls.take most) (cutT most rows)).row u = (rows.getD u []).map (cutE most) := fun u => getD_map _ rows u [] [] rfl
  have ent : ∀ u d, (Net.mk h (ls.take most) (cutT most rows)).ent u d = cutE most ((rows.getD u []).getD d []) := fun u d => by
    unfold Net.ent
    rw [row]
    exact getD_map _ _ d [] [] rfl
  have cases' : ∀ u d, (rows.getD u []).getD d [] = [] ∨ ∃ rw, rows[u]? = some rw ∧ rw[d]? = some ((rows.getD u []).getD d []) ∧ OkR ls h u rw := fun u d => by
    cases q : rows[u]? with
    | none => left; rw [List.getD_eq_getElem?_getD (l := rows), q]; rfl
    | some rw =>
      cases q2 : rw[d]? with
      | none => left; rw [List.getD_eq_getElem?_getD (l := rows), q]; show rw.getD d [] = []; rw [List.getD_eq_getElem?_getD, q2]; rfl
      | some e =>
        right
        refine ⟨rw, rfl, ?_, hok u rw q⟩
        rw [List.getD_eq_getElem?_getD (l := rows), q]; show rw[d]? = some (rw.getD d []); rw [List.getD_eq_getElem?_getD, q2]; rfl
  refine ⟨h1, h6, ?_, ?_, ?_, ?_, ?_, ?_, ?_⟩
  · show (ls.take most).length ≤ 16
    rw [List.length_take]; omega
  · intro k hk
    have := List.mem_of_getElem? (lane k hk)
    exact ok _ this
  · show (cutT most rows).length = h
    unfold cutT; simp [hr]
  · intro u hu
    rw [row, List.length_map]
    have hu' : u < rows.length := by rw [hr]; exact hu
    have := (hok u _ (List.getElem?_eq_getElem hu')).len
    rw [List.getD_eq_getElem?_getD, List.getElem?_eq_getElem hu']
    exact this
  · intro u d
    rw [ent]
    rcases cases' u d with q | ⟨rw', q1, q2, q3⟩
    · rw [q]; exact List.Pairwise.nil
    · exact (q3.es _ (List.mem_of_getElem? q2)).2.sublist List.filter_sublist
  · intro u d k hk
    rw [ent] at hk
    obtain ⟨hk1, hk2⟩ := List.mem_filter.mp hk
    rcases cases' u d with q | ⟨rw', q1, q2, q3⟩
    · rw [q] at hk1; cases hk1
    · obtain ⟨l, hl1, hl2⟩ := here_at ((q3.es _ (List.mem_of_getElem? q2)).1 k hk1)
      have hkl := (List.getElem?_eq_some_iff.mp hl1).1
      have hk3 : k < (ls.take most).length := by rw [List.length_take]; simp at hk2; omega
      refine ⟨hk3, ?_⟩
      have := lane k hk3
      rw [hl1] at this
      show ((Net.mk h (ls.take most) (cutT most rows)).lane k).1 = u
      rw [← (Option.some.inj this)]
      exact hl2
  · intro u
    rw [ent]
    rcases cases' u u with q | ⟨rw', q1, q2, q3⟩
    · rw [q]; rfl
    · rw [q3.dg _ q2]; rfl
theorem cut_same {h most : Nat} {ls : List (Nat × Nat × Nat)} {rows : List (List (List Nat))} (hl : ls.length ≤ most) (hok : ∀ u row, rows[u]? = some row → OkR ls h u row) : cutT most rows = rows := by
  unfold cutT
  refine (List.map_congr_left (g := id) fun row hrow => ?_).trans (List.map_id rows)
  obtain ⟨u, hu, e⟩ := List.mem_iff_getElem.mp hrow
  have ok := hok u row (by rw [List.getElem?_eq_getElem hu, e])
  refine (List.map_congr_left (g := id) fun e he => ?_).trans (List.map_id row)
  unfold cutE
  refine List.filter_eq_self.mpr fun k hk => ?_
  obtain ⟨l, hl1, _⟩ := here_at ((ok.es e he).1 k hk)
  have := (List.getElem?_eq_some_iff.mp hl1).1
  simp; omega
def NetC (f : List D → Sto → R (D × Sto)) : Prop := ∀ (a b : Nat) (S : Sto) (h most least : Nat), DeckAt S a b → 1 ≤ h → h ≤ 6 → least ≤ most → most ≤ 16 →
  Rs (f [.loc a, .int h, .int most, .int least] S) fun p => ∃ N : Net, N.WF ∧ N.h = h ∧ N.lanes.length ≤ most ∧ (2 ≤ h → least ≤ N.lanes.length) ∧ p.1 = encN N ∧ Stp a b S p.2 ∧ p.2.length = S.length
def CutC (f : List D → Sto → R (D × Sto)) : Prop := ∀ (n : Nat) (S : Sto) (rows : List (List (List Nat))) (m : Nat), S[n]? = some (.lst (rows.map encR)) → rows.length ≤ 65536 → (∀ row, row ∈ rows → row.length ≤ 65536 ∧ ∀ e, e ∈ row → e.length ≤ 65536) →
  f [.loc n, .int m] S = .ok (.tup ((cutT m rows).map encR), S)
/-- lanes drawn -/
theorem lanes_ok {dr pk : Nat} (hd : DrawC (F dr)) (hp : PickC (F pk)) {a b L h most least t : Nat} {S S1 : Sto} (hS : DeckAt S a b) (hL : S.length ≤ L) (ht : t ≤ 16) (h2 : t = 0 ∨ 2 ≤ h) (h6 : h ≤ 65536) (st : Stp a b S S1)
    (hl : S1[L]? = some (.lst [])) :
    Rs (frGo .no (.nm 5) (evSs F (b_lane dr pk)) ((List.range t).map encI) [some (.loc a), some (.int h), some (.int most), some (.int least), some (.loc L), none, none, none, none, none, none] S1) fun f =>
      ∃ (S2 : Sto) (x5 x6 x7 : Option D) (ls : List (Nat × Nat × Nat)), f = .nx [some (.loc a), some (.int h), some (.int most), some (.int least), some (.loc L), x5, x6, x7, none, none, none] S2 ∧ Stp a b S S2 ∧ S2[L]? = some (.lst (ls.map encL)) ∧
        OkL h ls ∧ t ≤ ls.length ∧ ls.length ≤ 32 := by
  refine frGo_by (fun i r S2 => ∃ (x5 x6 x7 : Option D) (ls : List (Nat × Nat × Nat)), r = [some (.loc a), some (.int h), some (.int most), some (.int least), some (.loc L), x5, x6, x7, none, none, none] ∧ Stp a b S S2 ∧ S2[L]? = some (.lst (ls.map encL)) ∧
        OkL h ls ∧ i ≤ ls.length ∧ ls.length ≤ 2 * i) ⟨none, none, none, [], rfl, st, hl, fun l hl => (nomatch hl), Nat.le_refl _, Nat.le_refl _⟩ (fun _ _ _ _ _ => trivial) ?_ ?_
  · rintro i d r S2 hi ⟨x5, x6, x7, ls, rfl, st2, hl2, ok, hi1, hi2⟩
    obtain ⟨hit, rfl⟩ := range_at hi
    refine ⟨_, by simp; rfl, ?_⟩
    refine (lane_body hd hp (most := most) (least := least) (x5 := some (encI i)) (x6 := x6) (x7 := x7) hS hL (by omega) h6 st2 hl2 (by omega) ok).mono fun f hf => ?_
    obtain ⟨S3, y6, y7, ls', rfl, st3, hl3, ok3, g1, g2, _⟩ := hf
    exact ⟨_, y6, y7, ls', rfl, st3, hl3, ok3, by omega, by omega⟩
  · rintro r S2 ⟨x5, x6, x7, ls, rfl, st2, hl2, ok, hi1, hi2⟩
    simp at hi1 hi2
    exact ⟨S2, x5, x6, x7, ls, rfl, st2, hl2, ok, hi1, by omega⟩
/-- rows drawn -/
theorem rows_ok {en : Nat} (he : EntC (F en)) {a b L M h : Nat} {x1 x2 x5 x6 x7 : Option D} {S S1 : Sto} {ls : List (Nat × Nat × Nat)} (hS : DeckAt S a b) (hL : S.length ≤ L) (hM : S.length ≤ M) (hLM : L ≠ M) (h6 : h ≤ 6) (st : Stp a b S S1)
    (hl : S1[L]? = some (.lst (ls.map encL))) (hn : ls.length ≤ 65536) (hr : S1[M]? = some (.lst [])) :
    Rs (frGo .no (.nm 9) (evSs F (b_row en)) ((List.range h).map encI) [some (.loc a), some (.int h), x1, x2, some (.loc L), x5, x6, x7, some (.loc M), none, none] S1) fun f =>
      ∃ (S2 : Sto) (x9 : Option D) (rows : List (List (List Nat))), f = .nx [some (.loc a), some (.int h), x1, x2, some (.loc L), x5, x6, x7, some (.loc M), x9, none] S2 ∧ Stp a b S S2 ∧ S2[L]? = some (.lst (ls.map encL)) ∧
        S2[M]? = some (.lst (rows.map encR)) ∧ rows.length = h ∧ ∀ u row, rows[u]? = some row → OkR ls h u row := by
  refine frGo_by (fun i r S2 => ∃ (x9 : Option D) (rows : List (List (List Nat))), r = [some (.loc a), some (.int h), x1, x2, some (.loc L), x5, x6, x7, some (.loc M), x9, none] ∧ Stp a b S S2 ∧ S2[L]? = some (.lst (ls.map encL)) ∧
        S2[M]? = some (.lst (rows.map encR)) ∧ rows.length = i ∧ ∀ u row, rows[u]? = some row → OkR ls h u row) ⟨none, [], rfl, st, hl, hr, rfl, fun u row q => by simp at q⟩ (fun _ _ _ _ _ => trivial) ?_ ?_
  · rintro i d r S2 hi ⟨x9, rows, rfl, st2, hl2, hr2, hi1, ok⟩
    obtain ⟨hit, rfl⟩ := range_at hi
    refine ⟨_, by simp; rfl, ?_⟩
    refine (row_body he (u := i) hS hL hM hLM (by omega) st2 hl2 hn hr2 (by omega)).mono fun f hf => ?_
    obtain ⟨S3, row, rfl, st3, hl3, hr3, okr⟩ := hf
    refine ⟨_, rows ++ [row], rfl, st3, hl3, hr3, by simp [hi1], fun u row' q => ?_⟩
    by_cases h : u < rows.length
    · rw [List.getElem?_append_left h] at q; exact ok u row' q
    · by_cases h' : u = rows.length
      · rw [h', List.getElem?_append_right (Nat.le_refl _), Nat.sub_self] at q
        cases q
        rw [h', hi1]; exact okr
      · rw [List.getElem?_eq_none (by simp; omega)] at q; cases q
  · rintro r S2 ⟨x9, rows, rfl, st2, hl2, hr2, hi1, ok⟩
    simp at hi1
    exact ⟨S2, x9, rows, rfl, st2, hl2, hr2, hi1, ok⟩
theorem asc_len {n : Nat} : ∀ (l : List Nat) (m : Nat), (∀ k, k ∈ l → m ≤ k ∧ k < n) → l.Pairwise (· < ·) → l.length ≤ n - m
  | [], m, _, _ => Nat.zero_le _
  | x :: l, m, h, p => by
    have h' := List.pairwise_cons.mp p
    have h1 := h x (List.mem_cons_self ..)
    have := asc_len l (x + 1) (fun k hk => ⟨h'.1 k hk, (h k (List.mem_cons_of_mem _ hk)).2⟩) h'.2
    simp only [List.length_cons]
    omega
theorem net_ok {dr pk en ct : Nat} (hd : DrawC (F dr)) (hp : PickC (F pk)) (he : EntC (F en)) (hc : CutC (F ct)) : NetC (runFn F ⟨4, 11, p_net dr pk en ct⟩) := by
  intro a b S h most least hS h1 h6 hle hm
  have la := hS.la
  have lb := hS.lb
  refine runFn_by rfl ?_
  have A : Rs (if (1 : Int) < (h : Int) then
      (F dr [D.loc a, D.int (most - least + 1)] (S ++ [Cell.lst []])).bi fun q => binD .Add (D.int least) q.fst q.snd
      else R.ok (D.int 0, S ++ [Cell.lst []])) fun p => ∃ t : Nat, p.1 = .int t ∧ t ≤ 16 ∧ (t = 0 ∨ 2 ≤ h) ∧ (2 ≤ h → least ≤ t) ∧ Stp a b S p.2 ∧ p.2[S.length]? = some (.lst []) := by
    have st0 := (Stp.self hS).app [Cell.lst []]
    split
    · simp
      rw [show ((most : Int) - (least : Int) + 1) = ((most - least + 1 : Nat) : Int) by omega]
      refine (hd a b _ (most - least + 1) st0.dk (by omega) (by omega)).mono fun p hp1 => ?_
      obtain ⟨d, S2⟩ := p
      obtain ⟨v, hv, rfl, t1, _⟩ := hp1
      have h2 : 2 ≤ h := by omega
      simp
      exact ⟨least + v, by simp, by omega, .inr h2, fun _ => by omega, st0.trans t1, (t1.fr _ (by simp) (by omega) (by omega)).trans at_last⟩
    · simp
      exact ⟨0, rfl, by omega, .inl rfl, fun _ => by omega, st0⟩
  simp [p_net]
  refine A.mono fun p hp1 => ?_
  obtain ⟨d, S1⟩ := p
  obtain ⟨t, rfl, ht, ht2, ht3, st1, hl1⟩ := hp1
  simp [srcD_rng t (by omega)]
  refine (lanes_ok hd hp hS (Nat.le_refl _) ht ht2 (by omega) st1 hl1).mono fun f hf => ?_
  obtain ⟨S2, x5, x6, x7, ls, rfl, st2, hl2, ok, hl3, hl4⟩ := hf
  have lL := lt_of_at hl2
  simp [srcD_rng h (by omega)]
  refine (rows_ok he hS (Nat.le_refl _) (M := S2.length) (by omega) (by omega) h6 (st2.app [.lst []]) (at_app hl2 _) (by omega) at_last).mono fun f hf => ?_
  obtain ⟨S3, x9, rows, rfl, st3, hl5, hr, hrl, okr⟩ := hf
  simp [hl5, cut_map, cut_hi, ← List.map_take]
  have B : ∀ S4 : Sto, Stp a b S S4 → S4[S2.length]? = some (.lst (rows.map encR)) → Rs (if ls.length ≤ most then (opt (lstAt S4[S2.length]?)).bi fun xs => R.ok (.tup xs, S4) else F ct [.loc S2.length, .int most] S4) fun p => p.1 = .tup ((cutT most rows).map encR) ∧ Stp a b S p.2 := by
    intro S4 st4 h4
    split
    · rename_i hle
      simp [h4]
      exact ⟨by rw [cut_same hle okr], st4⟩
    · refine Rs_eq (hc _ S4 rows most h4 (by omega) fun row hrow => ?_) ⟨rfl, st4⟩
      obtain ⟨u, hu, e⟩ := List.mem_iff_getElem.mp hrow
      have o := okr u row (by rw [List.getElem?_eq_getElem hu, e])
      refine ⟨by rw [o.len]; omega, fun e he => ?_⟩
      have o2 := o.es e he
      have := asc_len (n := ls.length) e 0 (fun k hk => by
        obtain ⟨l, q, _⟩ := here_at (o2.1 k hk)
        exact ⟨Nat.zero_le _, (List.getElem?_eq_some_iff.mp q).1⟩) o2.2
      omega
  have st4 := st3.app [.lst ((ls.take most).map encL)]
  refine ⟨_, by rw [at_app hl5]; rfl, ?_⟩
  rw [List.length_map]
  refine (B _ st4 (at_app hr _)).mono fun p hp1 => ?_
  obtain ⟨d, S4⟩ := p
  obtain ⟨rfl, st5⟩ := hp1
  have tr := Stp.trim (d := encN (Net.mk h (ls.take most) (cutT most rows))) st5 hS (und_N _ _)
  refine ⟨Net.mk h (ls.take most) (cutT most rows), net_wf h1 h6 hm ok hrl okr, rfl, ?_, ?_, rfl, tr.1, tr.2⟩
  · show (ls.take most).length ≤ most
    rw [List.length_take]; omega
  · intro h2
    show least ≤ (ls.take most).length
    have := ht3 h2
    rw [List.length_take]; omega
end
end Ev
set_option autoImplicit false
set_option linter.all false
namespace Ev
open PySem
section
variable {N : Net} {k : Nat}
theorem ent_len (w : N.WF) (u d : Nat) : (N.ent u d).length ≤ 16 := by
  have := asc_len (n := N.lanes.length) (N.ent u d) 0 (fun k hk => ⟨Nat.zero_le _, (w.es u d k hk).1⟩) (w.as u d)
  have := w.l16
  omega
theorem fit_E {n : Nat} {e : List Nat} (h : ∀ k, k ∈ e → k < 2 ^ 64) (hl : e.length ≤ 16) : Fit (n + 2) 1107 (encE e) := by
  have := Fit.tup (n := n + 1) (b := 67) (l := 16) (xs := e.map encI) (fun x hx => by
    obtain ⟨k, hk, rfl⟩ := List.mem_map.mp hx
    exact Fit.nat (h k hk)) (by simpa using hl)
  exact this
theorem fit_ent (w : N.WF) (u d : Nat) : Fit 40 1107 (encE (N.ent u d)) := fit_E (fun k hk => by
  have := (w.es u d k hk).1
  have := w.l16
  omega) (ent_len w u d)
theorem fit_N (w : N.WF) : Fit 44 200000 (encN N) := by
  have h6 := w.h6
  have h16 := w.l16
  have fl : Fit 43 3395 (.tup (N.lanes.map encL)) := by
    refine Fit.tup (n := 42) (b := 210) (l := 16) (fun x hx => ?_) (by simpa using h16)
    obtain ⟨l, hl, rfl⟩ := List.mem_map.mp hx
    obtain ⟨i, hi, e⟩ := List.mem_iff_getElem.mp hl
    have o := w.ln i hi
    have e2 : N.lane i = l := by
      have := lane_at (N := N) hi
      rw [List.getElem?_eq_getElem hi, e] at this
      exact (Option.some.inj this).symm
    simp only [Net.st, Net.en, Net.rm, e2] at o
    refine Fit.tup (n := 41) (b := 67) (l := 3) (fun x hx => ?_) (by simp)
    simp only [List.mem_cons, List.not_mem_nil, or_false] at hx
    rcases hx with rfl | rfl | rfl <;> exact Fit.nat (by omega)
  have ft : Fit 43 39957 (.tup (N.tab.map encR)) := by
    refine Fit.tup (n := 42) (b := 6657) (l := 6) (fun x hx => ?_) (by rw [List.length_map, w.tl]; exact h6)
    obtain ⟨row, hr, rfl⟩ := List.mem_map.mp hx
    obtain ⟨u, hu, e⟩ := List.mem_iff_getElem.mp hr
    have e2 : N.row u = row := by
      have := row_at w (u := u) (by rw [← w.tl]; exact hu)
      rw [List.getElem?_eq_getElem hu, e] at this
      exact (Option.some.inj this).symm
    have hrl : row.length = N.h := by rw [← e2]; exact w.rl u (by rw [← w.tl]; exact hu)
    refine Fit.tup (n := 41) (b := 1107) (l := 6) (fun x hx => ?_) (by rw [List.length_map, hrl]; exact h6)
    obtain ⟨en, he, rfl⟩ := List.mem_map.mp hx
    obtain ⟨d, hd, e3⟩ := List.mem_iff_getElem.mp he
    have e4 : N.ent u d = en := by
      have := ent_at w (u := u) (d := d) (by rw [← w.tl]; exact hu) (by rw [← hrl]; exact hd)
      rw [e2, List.getElem?_eq_getElem hd, e3] at this
      exact (Option.some.inj this).symm
    rw [← e4]
    exact (fit_ent w u d).mono (by omega) (Nat.le_refl _)
  have := Fit.tup (n := 43) (b := 39957) (l := 3) (xs := [encI N.h, .tup (N.lanes.map encL), .tup (N.tab.map encR)]) (fun x hx => by
    simp only [List.mem_cons, List.not_mem_nil, or_false] at hx
    rcases hx with rfl | rfl | rfl
    · exact (Fit.nat (n := 42) (by omega)).mono (by omega) (by omega)
    · exact fl.mono (by omega) (by omega)
    · exact ft) (by simp)
  exact this.mono (by omega) (by omega)
end
end Ev
set_option autoImplicit false
set_option linter.all false
namespace Ev
open PySem
theorem trim_no {S S1 : Sto} {d : D} (h : d.und S.length = false) : trim S S1 d = S1 := by
  unfold trim
  rw [if_neg fun q => by rw [q.1] at h; cases h]
theorem trim_loc {S S1 : Sto} {n : Nat} (h : S.length ≤ n) : trim S S1 (.loc n) = S1 := trim_no (by simp [D.und]; omega)
/-- the letters in a lane -/
def own (s : List (List Nat)) (k : Nat) : List Nat := s.getD k []
/-- a stand of a net -/
structure Stand (N : Net) (s : List (List Nat)) : Prop where
  len : s.length = N.lanes.length
  ow : ∀ k, k < N.lanes.length → (own s k).length ≤ N.rm k ∧ ∀ a, a ∈ own s k → a ∈ N.aim k
def roomy (N : Net) (s : List (List Nat)) (k : Nat) : Bool := decide ((own s k).length < N.rm k)
theorem stand_at {N : Net} {s : List (List Nat)} (h : Stand N s) {k : Nat} (hk : k < N.lanes.length) : s[k]? = some (own s k) := by
  unfold own
  rw [List.getD_eq_getElem?_getD, List.getElem?_eq_getElem (by rw [h.len]; exact hk)]; rfl
theorem aim_lt {N : Net} {k a : Nat} (h : a ∈ N.aim k) : a < N.h := List.mem_range.mp (List.mem_filter.mp h).1
@[simp] theorem srcEn (s : List (List Nat)) (S : Sto) : srcD .enum [encR s] S = .ok ((enumL s).map fun p => D.tup [encI p.1, encE p.2], .no) := by
  rw [← pairs_map]; rfl
def p_room : List St := [(.ret (.cmp .Lt (.blt .len [(.sub (.var 1) (.var 2))]) (.sub (.sub (.sub (.var 0) (.cst (.int 1))) (.var 2)) (.cst (.int 2)))))]
def p_home : List St := [(.ret (.cmp .Eq (.sub (.sub (.sub (.var 0) (.cst (.int 1))) (.var 1)) (.cst (.int 1))) (.var 2)))]
section
variable {F : Nat → List D → Sto → R (D × Sto)} {N : Net} {s : List (List Nat)} {k a : Nat}
theorem room_ok (hs : Stand N s) (hk : k < N.lanes.length) (S : Sto) : runFn F ⟨3, 3, p_room⟩ [encN N, encR s, .int k] S = .ok (.bl (roomy N s k), S) := by
  rw [runFn_eq (S1 := S) rfl, trim_self]
  simp [p_room, lane_at hk, stand_at hs hk, roomy]
theorem home_ok (hk : k < N.lanes.length) (S : Sto) : runFn F ⟨3, 3, p_home⟩ [encN N, .int k, .int a] S = .ok (.bl (decide (N.en k = a)), S) := by
  rw [runFn_eq (S1 := S) rfl, trim_self]
  simp [p_home, lane_at hk]
  by_cases h : N.en k = a
  · simp [Net.en] at h; simp [h]
  · have h' : ¬ ((N.lane k).2.1 : Int) = (a : Int) := by simp [Net.en] at h; omega
    simp [Net.en] at h
    simp [h, h']
def dOn (k j : Nat) : D := .tup [.str (Str.ofString "on"), encI k, encI j]
def dOut (k : Nat) : D := .tup [.str (Str.ofString "out"), encI k]
def dIn (k d : Nat) : D := .tup [.str (Str.ofString "in"), encI k, encI d]
theorem enumL_len {α : Type} (ls : List α) : (enumL ls).length = ls.length := by unfold enumL; simp
theorem enumL_get {α : Type} {ls : List α} {i : Nat} {p : Nat × α} (h : (enumL ls)[i]? = some p) : p.1 = i ∧ ls[i]? = some p.2 := by
  unfold enumL at h
  have hi := (List.getElem?_eq_some_iff.mp h).1
  simp at hi
  rw [List.getElem?_zip_eq_some] at h
  obtain ⟨h1, h2⟩ := h
  rw [List.getElem?_range hi] at h1
  exact ⟨(Option.some.inj h1).symm, h2⟩
theorem flat_len {α : Type} {f : α → List D} {b : Nat} (h : ∀ x, (f x).length ≤ b) : ∀ xs : List α, (xs.flatMap f).length ≤ xs.length * b
  | [] => by simp
  | x :: xs => by
    have := flat_len h xs
    have := h x
    rw [List.flatMap_cons, List.length_append, List.length_cons, Nat.succ_mul]; omega
theorem strOk_on : PyData.strOk (Str.ofString "on") = true := by decide +kernel
theorem strOk_out : PyData.strOk (Str.ofString "out") = true := by decide +kernel
theorem strOk_in : PyData.strOk (Str.ofString "in") = true := by decide +kernel
theorem cl_out {n : Nat} (k : Nat) : Cl (n + 2) (dOut k) := fun x hx => by
  simp only [List.mem_cons, List.not_mem_nil, or_false] at hx
  rcases hx with rfl | rfl
  · exact strOk_out
  · trivial
theorem ints_nil {S : Sto} {b c : Nat} {e : List Nat} (hb : S[b]? = some (.lst (e.map encI))) (hc : S[c]? = some (.lst [])) : eqD (.loc b) (.loc c) S = .ok e.isEmpty := by
  rw [eq_nil (n := 1) hb hc (fun x hx => by obtain ⟨y, _, rfl⟩ := List.mem_map.mp hx; trivial) (by omega)]
  cases e <;> rfl
end
end Ev
set_option autoImplicit false
set_option linter.all false
namespace Ev
open PySem
def Ord (p : List Nat) (n : Nat) : Prop := p.Perm (List.range n)
theorem Ord.len {p : List Nat} {n : Nat} (h : Ord p n) : p.length = n := by have := List.Perm.length_eq h; simpa using this
theorem Ord.nd {p : List Nat} {n : Nat} (h : Ord p n) : p.Nodup := (List.Perm.nodup_iff h).mpr List.nodup_range
theorem Ord.mem {p : List Nat} {n u : Nat} (h : Ord p n) : u ∈ p ↔ u < n := (List.Perm.mem_iff h).trans List.mem_range
/-- where an item stands -/
def ix (p : List Nat) (u : Nat) : Nat := p.idxOf u
/-- what stands at a place -/
def at0 (p : List Nat) (i : Nat) : Nat := p.getD i 0
theorem at0_get {p : List Nat} {i : Nat} (h : i < p.length) : p[i]? = some (at0 p i) := by
  unfold at0; rw [List.getD_eq_getElem?_getD, List.getElem?_eq_getElem h]; rfl
theorem Ord.at_lt {p : List Nat} {n i : Nat} (h : Ord p n) (hi : i < n) : at0 p i < n := by
  have := at0_get (p := p) (i := i) (by rw [h.len]; exact hi)
  exact h.mem.mp (List.mem_of_getElem? this)
theorem Ord.ix_lt {p : List Nat} {n u : Nat} (h : Ord p n) (hu : u < n) : ix p u < n := by
  have := List.idxOf_lt_length_of_mem (h.mem.mpr hu)
  rw [h.len] at this; exact this
theorem Ord.at_ix {p : List Nat} {n u : Nat} (h : Ord p n) (hu : u < n) : at0 p (ix p u) = u := by
  have h1 : ix p u < p.length := by rw [h.len]; exact h.ix_lt hu
  have h2 := at0_get h1
  rw [List.getElem?_eq_getElem h1] at h2
  have h3 : p[ix p u] = u := List.getElem_idxOf h1
  rw [h3] at h2
  exact (Option.some.inj h2).symm
theorem Ord.ix_at {p : List Nat} {n i : Nat} (h : Ord p n) (hi : i < n) : ix p (at0 p i) = i := by
  have hl : i < p.length := by rw [h.len]; exact hi
  have h1 := at0_get hl
  rw [List.getElem?_eq_getElem hl] at h1
  have h2 := Option.some.inj h1
  have h3 := h.at_ix (h.at_lt hi)
  have h4 : ix p (at0 p i) < p.length := by rw [h.len]; exact h.ix_lt (h.at_lt hi)
  have h5 := at0_get h4
  rw [h3, List.getElem?_eq_getElem h4] at h5
  have h6 := Option.some.inj h5
  exact (List.getElem_inj h.nd).mp (h6.trans h2.symm)
/-- the order the other way about -/
def pl (p : List Nat) : List Nat := (List.range p.length).map (ix p)
theorem Ord.list {p : List Nat} {n : Nat} (h : Ord p n) : p = (List.range n).map (at0 p) := by
  refine List.ext_getElem? fun i => ?_
  by_cases hi : i < n
  · rw [at0_get (by rw [h.len]; exact hi)]; simp [hi]
  · rw [List.getElem?_eq_none (by rw [h.len]; omega), List.getElem?_eq_none (by simp; omega)]
theorem Ord.pl {p : List Nat} {n : Nat} (h : Ord p n) : Ord (pl p) n := by
  have h1 : (p.map (ix p)) = List.range n := by
    rw [h.list, List.map_map]
    refine (List.map_congr_left (g := id) fun i hi => ?_).trans (List.map_id _)
    have := h.ix_at (List.mem_range.mp hi)
    rw [← h.list]
    exact this
  have h2 := (List.Perm.map (ix p) h).symm
  rw [h1] at h2
  unfold Ev.pl Ord
  rw [h.len]
  exact h2
end Ev
set_option autoImplicit false
set_option linter.all false
namespace Ev
open PySem
abbrev Wsh := List (List (List Nat))
def lt (W : Wsh) (k : Nat) : List (List Nat) := W.getD k []
def metB (v : Nat → Nat) (e : List Nat) : Bool := e.any fun x => v x != 0
def allM (W : Wsh) (v : Nat → Nat) (k : Nat) : Bool := (lt W k).all (metB v)
def fresh (W : Wsh) (v : Nat → Nat) : List Nat := (List.range W.length).filter fun k => v k == 0 && allM W v k
def stepV (W : Wsh) (t : Nat) (v : Nat → Nat) : Nat → Nat := fun k => if k ∈ fresh W v then t else v k
def V (W : Wsh) : Nat → Nat → Nat
  | 0 => fun _ => 0
  | t + 1 => stepV W (t + 1) (V W t)
theorem mem_fresh {W : Wsh} {v : Nat → Nat} {k : Nat} : k ∈ fresh W v ↔ k < W.length ∧ v k = 0 ∧ allM W v k = true := by
  unfold fresh
  rw [List.mem_filter, List.mem_range, Bool.and_eq_true]
  simp
theorem stepV_ne {W : Wsh} {t : Nat} {v : Nat → Nat} (ht : t ≠ 0) (k : Nat) : stepV W t v k ≠ 0 ↔ v k ≠ 0 ∨ k ∈ fresh W v := by
  unfold stepV
  by_cases h : k ∈ fresh W v
  · rw [if_pos h]; exact ⟨fun _ => .inr h, fun _ => ht⟩
  · rw [if_neg h]; exact ⟨.inl, fun z => z.resolve_right h⟩
def zeros (W : Wsh) (v : Nat → Nat) : Nat := ((List.range W.length).filter fun k => v k == 0).length
theorem zeros_lt {W : Wsh} {v : Nat → Nat} {t : Nat} (ht : t ≠ 0) (h : fresh W v ≠ []) : zeros W (stepV W t v) < zeros W v := by
  obtain ⟨k, hk⟩ := List.exists_mem_of_ne_nil _ h
  obtain ⟨h1, h2, h3⟩ := mem_fresh.mp hk
  unfold zeros
  have sub : ∀ x, ((stepV W t v x == 0) = true) → (v x == 0) = true := fun x hx => by
    rw [beq_iff_eq] at *
    exact Classical.byContradiction fun z => (stepV_ne ht x).mpr (.inl z) hx
  have e : ((List.range W.length).filter fun k => stepV W t v k == 0) = (((List.range W.length).filter fun k => v k == 0).filter fun k => stepV W t v k == 0) := by
    rw [List.filter_filter]
    refine List.filter_congr fun x _ => ?_
    cases h4 : (stepV W t v x == 0) with
    | false => simp
    | true => rw [sub x h4]; rfl
  rw [e]
  refine Nat.lt_of_le_of_ne (List.length_filter_le _ _) fun z => ?_
  have h5 := List.length_filter_eq_length_iff.mp z k (List.mem_filter.mpr ⟨List.mem_range.mpr h1, by rw [beq_iff_eq]; exact h2⟩)
  rw [beq_iff_eq] at h5
  exact (stepV_ne ht k).mpr (.inr hk) h5
theorem ends (W : Wsh) : ∃ t, fresh W (V W t) = [] := by
  have main : ∀ (n t : Nat), zeros W (V W t) ≤ n → ∃ t, fresh W (V W t) = [] := by
    intro n
    induction n with
    | zero =>
      intro t h
      by_cases e : fresh W (V W t) = []
      · exact ⟨t, e⟩
      · have := zeros_lt (t := t + 1) (by omega) e
        omega
    | succ n ih =>
      intro t h
      by_cases e : fresh W (V W t) = []
      · exact ⟨t, e⟩
      · have := zeros_lt (t := t + 1) (by omega) e
        exact ih (t + 1) (by show zeros W (stepV W (t + 1) (V W t)) ≤ n; omega)
  exact main _ 0 (Nat.le_refl _)
def lent (W : Wsh) (k i : Nat) : List Nat := (lt W k).getD i []
/-- a letter's marks: met by what is struck, by what is processed, or by a pair that is done -/
def mk (W : Wsh) (v : Nat → Nat) (pre : List Nat) (dn : List (Nat × Nat)) (k i : Nat) : Bool := (lent W k i).any (fun x => v x != 0 || decide (x ∈ pre)) || decide ((k, i) ∈ dn)
end Ev
set_option autoImplicit false
set_option linter.all false
namespace Ev
open PySem
@[simp] theorem bin_mulL (k : Nat) (j : Int) (S : Sto) : binD .Mult (.loc k) (.int j) S = (opt (lstAt S[k]?)).bi fun xs => when (-(2 ^ 63) ≤ j ∧ j < 2 ^ 63 ∧ xs.length * j.toNat ≤ 16777216) (.ok (.loc S.length, S ++ [.lst (List.replicate j.toNat xs).flatten])) := by
  show (opt (isLst S (.loc k))).bi _ = _
  rw [isLst_locE]
section
variable {F : Nat → List D → Sto → R (D × Sto)} {N : Net} {p q : List Nat}
theorem fm_some {α β : Type} (f : α → β) (xs : List α) : (xs.filterMap fun x => some (f x)) = xs.map f := by
  rw [show (fun x => some (f x)) = some ∘ f from rfl, List.filterMap_eq_map]
end
end Ev
set_option autoImplicit false
set_option linter.all false
namespace Ev
open PySem
def encP (p : Nat × Nat) : D := .tup [encI p.1, encI p.2]
/-- where the lists lie -/
structure Ad where
  us : Nat
  fo : Nat
  wa : Nat
  me : Nat
  base : Nat
  uc : Nat → Nat
  mc : Nat → Nat
structure AdOk (A : Ad) (s n : Nat) : Prop where
  s0 : s ≤ A.us ∧ s ≤ A.fo ∧ s ≤ A.wa ∧ s ≤ A.me
  b0 : A.us < A.base ∧ A.fo < A.base ∧ A.wa < A.base ∧ A.me < A.base
  ne : A.us ≠ A.fo ∧ A.us ≠ A.wa ∧ A.us ≠ A.me ∧ A.fo ≠ A.wa ∧ A.fo ≠ A.me ∧ A.wa ≠ A.me
  uc : ∀ j, j < n → s ≤ A.uc j ∧ A.uc j < A.base ∧ A.uc j ≠ A.us ∧ A.uc j ≠ A.fo ∧ A.uc j ≠ A.wa ∧ A.uc j ≠ A.me
  mc : ∀ j, j < n → s ≤ A.mc j ∧ A.mc j < A.base ∧ A.mc j ≠ A.us ∧ A.mc j ≠ A.fo ∧ A.mc j ≠ A.wa ∧ A.mc j ≠ A.me
  um : ∀ j k, j < n → k < n → A.uc j ≠ A.mc k
  mm : ∀ j k, j < n → k < n → A.mc j = A.mc k → j = k
structure Stk (A : Ad) (W : Wsh) (U : Nat → List (Nat × Nat)) (S Z : Sto) (v w : Nat → Nat) (m : Nat → Nat → Bool) : Prop where
  ad : AdOk A S.length W.length
  len : A.base ≤ Z.length
  fr : ∀ i, i < S.length → Z[i]? = S[i]?
  us : Z[A.us]? = some (.lst ((List.range W.length).map fun j => .loc (A.uc j)))
  uc : ∀ j, j < W.length → Z[A.uc j]? = some (.lst ((U j).map encP))
  fo : Z[A.fo]? = some (.lst ((List.range W.length).map fun k => encI (v k)))
  wa : Z[A.wa]? = some (.lst ((List.range W.length).map fun k => encI (w k)))
  me : Z[A.me]? = some (.lst ((List.range W.length).map fun j => .loc (A.mc j)))
  mc : ∀ k, k < W.length → Z[A.mc k]? = some (.lst ((List.range (lt W k).length).map fun i => .bl (m k i)))
section
variable {A : Ad} {W : Wsh} {U : Nat → List (Nat × Nat)} {S Z : Sto} {v w : Nat → Nat} {m : Nat → Nat → Bool}
theorem Stk.app (h : Stk A W U S Z v w m) (T : Sto) : Stk A W U S (Z ++ T) v w m := by
  obtain ⟨ad, len, fr, us, uc, fo, wa, me, mc⟩ := h
  refine ⟨ad, by rw [List.length_append]; omega, fun i hi => ?_, at_app us _, fun j hj => at_app (uc j hj) _, at_app fo _, at_app wa _, at_app me _, fun k hk => at_app (mc k hk) _⟩
  have h1 := ad.s0
  have h2 := ad.b0
  rw [List.getElem?_append_left (by omega)]
  exact fr i hi
/-- a cell behind all of them is changed -/
theorem Stk.set (h : Stk A W U S Z v w m) {n : Nat} (hn : A.base ≤ n) (c : Cell) : Stk A W U S (Z.set n c) v w m := by
  obtain ⟨ad, len, fr, us, uc, fo, wa, me, mc⟩ := h
  have h1 := ad.s0
  have h2 := ad.b0
  refine ⟨ad, by rw [List.length_set]; exact len, fun i hi => ?_, ?_, fun j hj => ?_, ?_, ?_, ?_, fun k hk => ?_⟩
  · rw [List.getElem?_set_ne (by omega)]; exact fr i hi
  · rw [List.getElem?_set_ne (by omega)]; exact us
  · have := ad.uc j hj
    rw [List.getElem?_set_ne (by omega)]; exact uc j hj
  · rw [List.getElem?_set_ne (by omega)]; exact fo
  · rw [List.getElem?_set_ne (by omega)]; exact wa
  · rw [List.getElem?_set_ne (by omega)]; exact me
  · have := ad.mc k hk
    rw [List.getElem?_set_ne (by omega)]; exact mc k hk
end
section
variable {F : Nat → List D → Sto → R (D × Sto)} {A : Ad} {W : Wsh} {U : Nat → List (Nat × Nat)} {S Z : Sto} {v : Nat → Nat} {m : Nat → Nat → Bool}
def env0 (A : Ad) (f t L : Nat) (x0 x8 x9 x10 x11 x12 : Option D) : Env := [x0, some (.loc A.us), some (.loc A.fo), some (.loc A.wa), some (.loc A.me), some (.loc f), some (.int t), some (.loc L), x8, x9, x10, x11, x12]
end
end Ev
set_option autoImplicit false
set_option linter.all false
namespace Ev
open PySem
end Ev
set_option autoImplicit false
set_option linter.all false
namespace Ev
open PySem
section
variable {F : Nat → List D → Sto → R (D × Sto)} {A : Ad} {W : Wsh} {U : Nat → List (Nat × Nat)} {S : Sto}
def env1 (A : Ad) (f t : Nat) (x0 x7 x8 x9 x10 x11 x12 : Option D) : Env := [x0, some (.loc A.us), some (.loc A.fo), some (.loc A.wa), some (.loc A.me), some (.loc f), some (.int t), x7, x8, x9, x10, x11, x12]
end
end Ev
set_option autoImplicit false
set_option linter.all false
namespace Ev
open PySem
end Ev
set_option autoImplicit false
set_option linter.all false
namespace Ev
open PySem
theorem cut_from {α : Type} (xs : List α) (n : Nat) : cut xs (some (n : Int)) none = xs.drop n := by
  unfold cut
  rw [HT.sIx_none, HT.sIx_nat]
  by_cases h : n ≤ xs.length
  · rw [Nat.min_eq_left h, List.take_of_length_le (by rw [List.length_drop]; omega)]
  · rw [Nat.min_eq_right (by omega), List.drop_length, List.drop_eq_nil_of_le (by omega)]; simp
theorem slc_E (e : List Nat) (lo hi : Option Int) (S : Sto) : slcD (encE e) lo hi S = .ok (encE (cut e lo hi), S) := by
  simp [encE, cut_map]
theorem slc_R (e : List (List Nat)) (lo hi : Option Int) (S : Sto) : slcD (encR e) lo hi S = .ok (encR (cut e lo hi), S) := by
  simp [encR, cut_map]
theorem add_E (e f : List Nat) (S : Sto) (h : e.length + f.length ≤ 131072) : binD .Add (encE e) (encE f) S = .ok (encE (e ++ f), S) := by
  have h' : e.length + f.length ≤ 16777216 := by omega
  simp [encE, h']
theorem add_R (e f : List (List Nat)) (S : Sto) (h : e.length + f.length ≤ 131072) : binD .Add (encR e) (encR f) S = .ok (encR (e ++ f), S) := by
  have h' : e.length + f.length ≤ 16777216 := by omega
  simp [encR, h']
/-- with other letters in lane k -/
def putL (s : List (List Nat)) (k : Nat) (ow : List Nat) : List (List Nat) := s.take k ++ [ow] ++ s.drop (k + 1)
theorem putL_len {s : List (List Nat)} {k : Nat} (h : k < s.length) (ow : List Nat) : (putL s k ow).length = s.length := by
  unfold putL; simp; omega
theorem putL_own {s : List (List Nat)} {k : Nat} (h : k < s.length) (ow : List Nat) (j : Nat) : own (putL s k ow) j = if j = k then ow else own s j := by
  unfold own putL
  rw [List.getD_eq_getElem?_getD, List.getD_eq_getElem?_getD, List.append_assoc]
  by_cases q : j < k
  · rw [List.getElem?_append_left (by simp; omega), List.getElem?_take_of_lt q, if_neg (by omega)]
  · rw [List.getElem?_append_right (by simp; omega)]
    rw [List.length_take, Nat.min_eq_left (by omega)]
    by_cases q2 : j = k
    · subst q2; simp
    · rw [if_neg q2]
      obtain ⟨m, rfl⟩ : ∃ m, j = k + 1 + m := ⟨j - (k + 1), by omega⟩
      rw [show k + 1 + m - k = m + 1 by omega]
      simp [List.getElem?_drop]
theorem putL_stand {N : Net} {s : List (List Nat)} (hs : Stand N s) {k : Nat} (hk : k < N.lanes.length) {ow : List Nat} (h1 : ow.length ≤ N.rm k) (h2 : ∀ a, a ∈ ow → a ∈ N.aim k) : Stand N (putL s k ow) := by
  have hsl := hs.len
  refine ⟨by rw [putL_len (by omega)]; exact hsl, fun j hj => ?_⟩
  rw [putL_own (by omega)]
  by_cases q : j = k
  · subst q; rw [if_pos rfl]; exact ⟨h1, h2⟩
  · rw [if_neg q]; exact hs.ow j hj
/-- deeds -/
inductive Dd where
  | i (k d : Nat) | o (k j : Nat) | u (k : Nat)
def encDd : Dd → D
  | .i k d => dIn k d
  | .o k j => dOn k j
  | .u k => dOut k
def okDd (N : Net) : Dd → Prop
  | .i k d => k < N.lanes.length ∧ d < N.h
  | .o k j => k < N.lanes.length ∧ j < N.lanes.length
  | .u k => k < N.lanes.length
def canDd (N : Net) (s : List (List Nat)) : Dd → Bool
  | .i k d => decide (k ∈ N.ent (N.st k) d) && roomy N s k
  | .o k j => match own s k with
    | [] => false
    | a :: _ => decide (j ∈ N.ent (N.en k) a) && roomy N s j
  | .u k => match own s k with
    | [] => false
    | a :: _ => decide (N.en k = a)
def doDd (s : List (List Nat)) : Dd → List (List Nat)
  | .i k d => putL s k (own s k ++ [d])
  | .o k j => putL (putL s k ((own s k).drop 1)) j (own (putL s k ((own s k).drop 1)) j ++ [(own s k).headD 0])
  | .u k => putL s k ((own s k).drop 1)
theorem do_stand {N : Net} (w : N.WF) {s : List (List Nat)} (hs : Stand N s) {x : Dd} (ok : okDd N x) (h : canDd N s x = true) : Stand N (doDd s x) := by
  cases x with
  | i k d =>
    simp only [canDd, Bool.and_eq_true, decide_eq_true_eq] at h
    obtain ⟨h1, h2⟩ := h
    unfold roomy at h2
    have h2 := of_decide_eq_true h2
    refine putL_stand hs ok.1 (by simp; omega) fun a ha => ?_
    rcases List.mem_append.mp ha with h | h
    · exact (hs.ow k ok.1).2 a h
    · rw [List.mem_singleton.mp h]
      exact List.mem_filter.mpr ⟨List.mem_range.mpr ok.2, by simpa using h1⟩
  | u k => exact putL_stand hs ok (by have := (hs.ow k ok).1; simp; omega) fun a ha => (hs.ow k ok).2 a (List.mem_of_mem_drop ha)
  | o k j =>
    have hsl := hs.len
    have s1 : Stand N (putL s k ((own s k).drop 1)) := putL_stand hs ok.1 (by have := (hs.ow k ok.1).1; simp; omega) fun a ha => (hs.ow k ok.1).2 a (List.mem_of_mem_drop ha)
    cases e : own s k with
    | nil => simp [canDd, e] at h
    | cons a r =>
      simp only [canDd, e, Bool.and_eq_true, decide_eq_true_eq] at h
      obtain ⟨h1, h2⟩ := h
      obtain ⟨hj, hst⟩ := w.es _ _ _ h1
      have hne : j ≠ k := fun z => by
        rw [z] at hst
        exact (w.ln k ok.1).2.2.1 hst
      unfold roomy at h2
      have h2 := of_decide_eq_true h2
      show Stand N (putL (putL s k ((own s k).drop 1)) j (own (putL s k ((own s k).drop 1)) j ++ [(own s k).headD 0]))
      have ej : own (putL s k ((own s k).drop 1)) j = own s j := by rw [putL_own (by have := ok.1; omega), if_neg hne]
      refine putL_stand s1 ok.2 (by rw [ej]; simp; omega) fun b hb => ?_
      rw [ej] at hb
      rcases List.mem_append.mp hb with h | h
      · exact (hs.ow j ok.2).2 b h
      · rw [List.mem_singleton.mp h, e, List.headD_cons]
        have ha : a ∈ N.aim k := (hs.ow k ok.1).2 a (by rw [e]; exact List.mem_cons_self ..)
        refine List.mem_filter.mpr ⟨List.mem_range.mpr (aim_lt ha), ?_⟩
        rw [hst]
        simpa using h1
def p_withl : List St := [(.ret (.bin .Add (.bin .Add (.slc (.var 0) false (.cst .non) true (.var 1)) (.tup [(.bin .Add (.sub (.var 0) (.var 1)) (.tup [(.var 2)]))])) (.slc (.var 0) true (.bin .Add (.var 1) (.cst (.int 1))) false (.cst .non))))]
def p_without : List St := [(.ret (.bin .Add (.bin .Add (.slc (.var 0) false (.cst .non) true (.var 1)) (.tup [(.slc (.sub (.var 0) (.var 1)) true (.cst (.int 1)) false (.cst .non))])) (.slc (.var 0) true (.bin .Add (.var 1) (.cst (.int 1))) false (.cst .non))))]
theorem eqS_on_in : (Str.ofString "on" == Str.ofString "in") = false := by decide +kernel
theorem eqS_out_in : (Str.ofString "out" == Str.ofString "in") = false := by decide +kernel
theorem eqS_on_out : (Str.ofString "on" == Str.ofString "out") = false := by decide +kernel
theorem eqS_out_on : (Str.ofString "out" == Str.ofString "on") = false := by decide +kernel
theorem und_S (n : Nat) (s : List (List Nat)) : (encR s).und n = true := und_R n s
section
variable {F : Nat → List D → Sto → R (D × Sto)} {N : Net} {s : List (List Nat)}
theorem own_at {k : Nat} (h : k < s.length) : s[k]? = some (own s k) := by
  unfold own
  rw [List.getD_eq_getElem?_getD, List.getElem?_eq_getElem h]; rfl
theorem withl_ok {k a : Nat} (hk : k < s.length) (h1 : s.length ≤ 65536) (h2 : (own s k).length ≤ 65536) (S : Sto) : runFn F ⟨3, 3, p_withl⟩ [encR s, .int k, .int a] S = .ok (encR (putL s k (own s k ++ [a])), S) := by
  rw [runFn_eq (S1 := S) (d := encR (putL s k (own s k ++ [a]))) rfl, trim_self]
  have e0 : D.tup [.int (a : Int)] = encE [a] := rfl
  have e1 : D.tup [encE (own s k ++ [a])] = encR [own s k ++ [a]] := rfl
  have e2 : cut s (some ((k : Int) + 1)) none = s.drop (k + 1) := cut_from s (k + 1)
  have a0 := fun S => add_E (own s k) [a] S (by simp; omega)
  have a1 := fun S => add_R (s.take k) [own s k ++ [a]] S (by simp; omega)
  have a2 := fun S => add_R (s.take k ++ [own s k ++ [a]]) (s.drop (k + 1)) S (by simp; omega)
  have e3 : ∀ S, subX (encR s) (.int k) S = .ok (encE (own s k)) := fun S => by simp [encR, own_at hk]
  simp only [p_withl, evSs_cons, evSs_nil, evS_ret, ev_bin, ev_slc, ev_var, ev_tup, ev_sub, evL_cons, evL_nil, ev_cst, partD_f, partD_t, List.map_cons, List.map_nil, List.cons_append, List.nil_append, List.getElem?_cons_succ, List.getElem?_cons_zero, bi_ok, slc_R, cut_hi, e0, e3, a0, e1, a1, bin_add, e2, a2]
  rfl
theorem without_ok {k : Nat} (hk : k < s.length) (h1 : s.length ≤ 65536) (S : Sto) : runFn F ⟨2, 2, p_without⟩ [encR s, .int k] S = .ok (encR (putL s k ((own s k).drop 1)), S) := by
  rw [runFn_eq (S1 := S) (d := encR (putL s k ((own s k).drop 1))) rfl, trim_self]
  have e1 : D.tup [encE ((own s k).drop 1)] = encR [(own s k).drop 1] := rfl
  have e2 : cut s (some ((k : Int) + 1)) none = s.drop (k + 1) := cut_from s (k + 1)
  have e4 : cut (own s k) (some 1) none = (own s k).drop 1 := cut_from _ 1
  have a1 := fun S => add_R (s.take k) [(own s k).drop 1] S (by simp; omega)
  have a2 := fun S => add_R (s.take k ++ [(own s k).drop 1]) (s.drop (k + 1)) S (by simp; omega)
  have e3 : ∀ S, subX (encR s) (.int k) S = .ok (encE (own s k)) := fun S => by simp [encR, own_at hk]
  simp only [p_without, evSs_cons, evSs_nil, evS_ret, ev_bin, ev_slc, ev_var, ev_tup, ev_sub, evL_cons, evL_nil, ev_cst, partD_f, partD_t, List.map_cons, List.map_nil, List.cons_append, List.nil_append, List.getElem?_cons_succ, List.getElem?_cons_zero, bi_ok, slc_R, slc_E, cut_hi, e3, e4, e1, a1, bin_add, e2, a2]
  rfl
end
end Ev
set_option autoImplicit false
set_option linter.all false
namespace Ev
open PySem
def p_canbe (sv ah rm ho : Nat) : List St := [(.asg (.nm 3) (.sub (.var 2) (.cst (.int 1)))), (.iff (.cmp .Eq (.sub (.var 2) (.cst (.int 0))) (.cst (.str (Str.ofString "in")))) [(.ret (.and (.call sv [(.var 0), (.var 3), (.sub (.var 2) (.cst (.int 2)))]) (.call rm [(.var 0), (.var 1), (.var 3)])))] []), (.iff (.cmp .Eq (.sub (.var 1) (.var 3)) (.tup [])) [(.ret (.cst (.bl false)))] []), (.asg (.nm 4) (.sub (.sub (.var 1) (.var 3)) (.cst (.int 0)))), (.iff (.cmp .Eq (.sub (.var 2) (.cst (.int 0))) (.cst (.str (Str.ofString "out")))) [(.ret (.call ho [(.var 0), (.var 3), (.var 4)]))] []), (.ret (.and (.cmp .In (.sub (.var 2) (.cst (.int 2))) (.call ah [(.var 0), (.var 3), (.var 4)])) (.call rm [(.var 0), (.var 1), (.sub (.var 2) (.cst (.int 2)))])))]
def CanC (f : List D → Sto → R (D × Sto)) : Prop := ∀ (N : Net) (s : List (List Nat)) (x : Dd) (S : Sto), N.WF → Stand N s → okDd N x → f [encN N, encR s, encDd x] S = .ok (.bl (canDd N s x), S)
section
variable {F : Nat → List D → Sto → R (D × Sto)}
theorem canbe_ok {sv ah rm ho : Nat} (hsv : ∀ (N : Net) (k d : Nat) S, N.WF → k < N.lanes.length → d < N.h → F sv [encN N, .int k, .int d] S = .ok (.bl (decide (k ∈ N.ent (N.st k) d)), S))
    (hah : ∀ (N : Net) (k d : Nat) S, N.WF → k < N.lanes.length → d < N.h → F ah [encN N, .int k, .int d] S = .ok (encE (N.ent (N.en k) d), S))
    (hrm : ∀ (N : Net) s (k : Nat) S, Stand N s → k < N.lanes.length → F rm [encN N, encR s, .int k] S = .ok (.bl (roomy N s k), S))
    (hho : ∀ (N : Net) (k a : Nat) S, k < N.lanes.length → F ho [encN N, .int k, .int a] S = .ok (.bl (decide (N.en k = a)), S)) : CanC (runFn F ⟨3, 5, p_canbe sv ah rm ho⟩) := by
  intro N s x S w hs ok
  rw [runFn_eq (S1 := S) (d := .bl (canDd N s x)) rfl, trim_self]
  cases x with
  | i k d =>
    obtain ⟨hk, hd⟩ := ok
    have c1 := fun S => hsv N k d S w hk hd
    have c2 := fun S => hrm N s k S hs hk
    by_cases hm : k ∈ N.ent (N.st k) d <;> simp [p_canbe, encDd, dIn, c1, c2, canDd, hm]
  | o k j =>
    obtain ⟨hk, hj⟩ := ok
    have c2 := fun S => hrm N s j S hs hj
    cases e : own s k with
    | nil => simp [p_canbe, encDd, dOn, eqS_on_in, stand_at hs hk, e, canDd]
    | cons a r =>
      have ha := aim_lt ((hs.ow k hk).2 a (by rw [e]; exact List.mem_cons_self ..))
      have c3 := fun S => hah N k a S w hk ha
      have e0 : ∀ S, subX (encE (a :: r)) (.int 0) S = .ok (.int a) := fun S => by simp [encE]
      by_cases hm : j ∈ N.ent (N.en k) a <;> simp [p_canbe, encDd, dOn, eqS_on_in, eqS_on_out, stand_at hs hk, e, canDd, e0, c3, c2, in_ints, hm]
  | u k =>
    have hk : k < N.lanes.length := ok
    cases e : own s k with
    | nil => simp [p_canbe, encDd, dOut, eqS_out_in, stand_at hs hk, e, canDd]
    | cons a r =>
      have c3 := fun S => hho N k a S hk
      have e0 : ∀ S, subX (encE (a :: r)) (.int 0) S = .ok (.int a) := fun S => by simp [encE]
      simp [p_canbe, encDd, dOut, eqS_out_in, stand_at hs hk, e, canDd, e0, c3]
end
end Ev
set_option autoImplicit false
set_option linter.all false
namespace Ev
open PySem
def refused (x : Dd) : Exn := ⟨Str.ofString "Refused", [(Str.ofString "deed", encDd x)]⟩
/-- what deeds lead to, one behind another: the first that cannot be done, or the stand -/
def tryD (N : Net) : List (List Nat) → List Dd → Except Dd (List (List Nat))
  | s, [] => .ok s
  | s, x :: xs => if canDd N s x = true then tryD N (doDd s x) xs else .error x
def q_done (cb wl wo : Nat) : List Sx := [(.iff (.not (.call cb [(.var 0), (.var 1), (.var 2)])) [(.rse (Str.ofString "Refused") (some (Str.ofString "deed")) [(.var 2)])] []), (.pln (.iff (.cmp .Eq (.sub (.var 2) (.cst (.int 0))) (.cst (.str (Str.ofString "in")))) [(.ret (.call wl [(.var 1), (.sub (.var 2) (.cst (.int 1))), (.sub (.var 2) (.cst (.int 2)))]))] [])), (.pln (.asg (.nm 3) (.call wo [(.var 1), (.sub (.var 2) (.cst (.int 1)))]))), (.pln (.ret (.ife (.cmp .Eq (.sub (.var 2) (.cst (.int 0))) (.cst (.str (Str.ofString "on")))) (.call wl [(.var 3), (.sub (.var 2) (.cst (.int 2))), (.sub (.sub (.var 1) (.sub (.var 2) (.cst (.int 1)))) (.cst (.int 0)))]) (.var 3))))]
def q_led (dn : Nat) : List Sx := [(.pln (.asg (.nm 3) (.var 1))), (.fr (.nm 4) .seq [(.var 2)] [(.asg 3 (.call dn [(.var 0), (.var 3), (.var 4)]))]), (.pln (.ret (.var 3)))]
/-- with its refusals -/
def DoneX (f : List D → Sto → R (D × Sto)) : Prop := ∀ (N : Net) (s : List (List Nat)) (x : Dd) (S : Sto), N.WF → Stand N s → okDd N x →
  f [encN N, encR s, encDd x] S = if canDd N s x = true then .ok (encR (doDd s x), S) else .err (refused x) S
def resD (S : Sto) : Except Dd (List (List Nat)) → R (D × Sto)
  | .ok s => .ok (encR s, S)
  | .error x => .err (refused x) S
def LedX (f : List D → Sto → R (D × Sto)) : Prop := ∀ (N : Net) (s : List (List Nat)) (xs : List Dd) (S : Sto), N.WF → Stand N s → (∀ x, x ∈ xs → okDd N x) →
  f [encN N, encR s, .tup (xs.map encDd)] S = resD S (tryD N s xs)
section
variable {F : Nat → List D → Sto → R (D × Sto)}
theorem und_Dd (x : Dd) (n : Nat) : (encDd x).und n = true := by cases x <;> rfl
theorem doneX_ok {cb wl wo : Nat} (hcb : CanC (F cb)) (hwl : ∀ (s : List (List Nat)) (k a : Nat) S, k < s.length → s.length ≤ 65536 → (own s k).length ≤ 65536 → F wl [encR s, .int k, .int a] S = .ok (encR (putL s k (own s k ++ [a])), S))
    (hwo : ∀ (s : List (List Nat)) (k : Nat) S, k < s.length → s.length ≤ 65536 → F wo [encR s, .int k] S = .ok (encR (putL s k ((own s k).drop 1)), S)) : DoneX (runX F ⟨3, 4, q_done cb wl wo⟩) := by
  intro N s x S w hs ok
  have h16 := w.l16
  have hsl := hs.len
  have c0 := fun S => hcb N s x S w hs ok
  have rl : ∀ k, k < N.lanes.length → (own s k).length ≤ 65536 := fun k hk => by
    have h1 := (hs.ow k hk).1
    have h2 := (w.ln k hk).2.2.2.2
    omega
  cases hc : canDd N s x with
  | false =>
    rw [hc] at c0
    rw [runX_err (F := F) (f := ⟨3, 4, q_done cb wl wo⟩) (S1 := S) (e := refused x) (r' := [some (encN N), some (encR s), some (encDd x), none]) rfl (by simp [q_done, c0, excO, refused]), show exD (refused x) = encDd x from rfl]
    rw [trim_self]
    rfl
  | true =>
    rw [hc] at c0
    rw [if_pos rfl]
    rw [runX_ret (F := F) (f := ⟨3, 4, q_done cb wl wo⟩) (S1 := S) (d := encR (doDd s x)) rfl, trim_self]
    cases x with
    | i k d =>
      obtain ⟨hk, hd⟩ := ok
      have c1 := fun S => hwl s k d S (by omega) (by omega) (rl k hk)
      simp [q_done, c0]
      simp [encDd, dIn, c1, doDd]
    | o k j =>
      obtain ⟨hk, hj⟩ := ok
      have c1 := fun S => hwo s k S (by omega) (by omega)
      have pl := putL_len (s := s) (k := k) (by omega) ((own s k).drop 1)
      have c2 := fun S => hwl (putL s k ((own s k).drop 1)) j ((own s k).headD 0) S (by omega) (by omega) (by
        rw [putL_own (by omega)]
        split
        · have := rl k hk
          simp; omega
        · exact rl j hj)
      cases e : own s k with
      | nil => simp [canDd, e] at hc
      | cons a r =>
        have e0 : ∀ S, subX (encE (a :: r)) (.int 0) S = .ok (.int a) := fun S => by simp [encE]
        rw [e] at c1 c2
        simp at c1 c2
        simp [q_done, c0]
        simp [encDd, dOn, eqS_on_in, stand_at hs hk, c1, e, e0, c2, doDd]
    | u k =>
      have hk : k < N.lanes.length := ok
      have c1 := fun S => hwo s k S (by omega) (by omega)
      simp [q_done, c0]
      simp [encDd, dOut, eqS_out_in, eqS_out_on, c1, doDd]
theorem led_loop {dn : Nat} (hdn : DoneX (F dn)) {N : Net} (w : N.WF) (S : Sto) (x0 x1 x2 : Option D) (hx : x0 = some (encN N)) : ∀ (xs : List Dd) (s : List (List Nat)) (x4 : Option D), Stand N s → (∀ x, x ∈ xs → okDd N x) →
    match tryD N s xs with
    | .ok s' => ∃ x4', frX .no (.nm 4) (evXs F [(.asg 3 (.call dn [(.var 0), (.var 3), (.var 4)]))]) (xs.map encDd) [x0, x1, x2, some (encR s), x4] S = .ok (.nx [x0, x1, x2, some (encR s'), x4'] S)
    | .error x => ∃ r', frX .no (.nm 4) (evXs F [(.asg 3 (.call dn [(.var 0), (.var 3), (.var 4)]))]) (xs.map encDd) [x0, x1, x2, some (encR s), x4] S = .ex (refused x) r' S
  | [], s, x4, hs, ok => ⟨x4, by simp⟩
  | y :: xs, s, x4, hs, ok => by
    subst hx
    have oky := ok y (List.mem_cons_self ..)
    have e := hdn N s y S w hs oky
    rw [List.map_cons, frX_cons0]
    by_cases c : canDd N s y = true
    · rw [if_pos c] at e
      have ih := led_loop hdn w S (some (encN N)) x1 x2 rfl xs (doDd s y) (some (encDd y)) (do_stand w hs oky c) (fun x hx => ok x (List.mem_cons_of_mem _ hx))
      have et : tryD N s (y :: xs) = tryD N (doDd s y) xs := by
        rw [tryD, if_pos c]
      rw [et]
      revert ih
      cases tryD N (doDd s y) xs with
      | ok s' =>
        rintro ⟨x4', e2⟩
        exact ⟨x4', by simp [e]; exact e2⟩
      | error x =>
        rintro ⟨r', e2⟩
        exact ⟨r', by simp [e]; exact e2⟩
    · rw [if_neg c] at e
      have et : tryD N s (y :: xs) = .error y := by
        rw [tryD, if_neg c]
      rw [et]
      exact ⟨_, by simp [e]; rfl⟩
theorem ledX_ok {dn : Nat} (hdn : DoneX (F dn)) : LedX (runX F ⟨3, 5, q_led dn⟩) := by
  intro N s xs S w hs ok
  have h := led_loop hdn w S (some (encN N)) (some (encR s)) (some (.tup (xs.map encDd))) rfl xs s none hs ok
  revert h
  cases tryD N s xs with
  | ok s' =>
    rintro ⟨x4', e⟩
    rw [runX_ret (F := F) (f := ⟨3, 5, q_led dn⟩) (S1 := S) (d := encR s') rfl, trim_self]
    · rfl
    · simp [q_led]
      rw [e]
      simp
  | error x =>
    rintro ⟨r', e⟩
    rw [runX_err (F := F) (f := ⟨3, 5, q_led dn⟩) (S1 := S) (e := refused x) (r' := r') rfl, trim_self]
    · rfl
    · simp [q_led]
      rw [e]
end
end Ev
set_option autoImplicit false
set_option linter.all false
namespace Ev
open PySem
/-- a store that keeps what was there -/
structure Kz (Z0 Z : Sto) : Prop where
  len : Z0.length ≤ Z.length
  fr : ∀ i, i < Z0.length → Z[i]? = Z0[i]?
theorem Kz.refl (Z : Sto) : Kz Z Z := ⟨Nat.le_refl _, fun _ _ => rfl⟩
theorem Kz.app {Z0 Z : Sto} (h : Kz Z0 Z) (T : Sto) : Kz Z0 (Z ++ T) := ⟨by have := h.len; rw [List.length_append]; omega, fun i hi => by have := h.len; rw [List.getElem?_append_left (by omega)]; exact h.fr i hi⟩
theorem Kz.set {Z0 Z : Sto} (h : Kz Z0 Z) {n : Nat} (hn : Z0.length ≤ n) (c : Cell) : Kz Z0 (Z.set n c) := ⟨by rw [List.length_set]; exact h.len, fun i hi => by rw [List.getElem?_set_ne (by omega)]; exact h.fr i hi⟩
theorem Kz.at_ {Z0 Z : Sto} (h : Kz Z0 Z) {i : Nat} {c : Cell} (e : Z0[i]? = some c) : Z[i]? = some c := (h.fr i (lt_of_at e)).trans e
theorem Kz.trans {Z0 Z1 Z2 : Sto} (h : Kz Z0 Z1) (k : Kz Z1 Z2) : Kz Z0 Z2 := ⟨Nat.le_trans h.len k.len, fun i hi => (k.fr i (Nat.lt_of_lt_of_le hi h.len)).trans (h.fr i hi)⟩
theorem Kz.trim {S Z : Sto} (h : Kz S Z) {d : D} (hd : d.und S.length = true) : Ev.trim S Z d = S := by
  have ht : Z.take S.length = S := by
    apply List.ext_getElem?
    intro i
    by_cases hi : i < S.length
    · rw [List.getElem?_take_of_lt hi]; exact h.fr i hi
    · rw [List.getElem?_eq_none (by rw [List.length_take]; omega), List.getElem?_eq_none (by omega)]
  unfold Ev.trim
  split
  · exact ht
  · rename_i q
    exact absurd ⟨hd, fun i c hi e => .inl ((h.fr i hi).symm.trans e)⟩ q
/-- a stand as a list of lists, all in a row behind X -/
structure RowsAt (Z : Sto) (X : Nat) (s : List (List Nat)) : Prop where
  li : Z[X]? = some (.lst ((List.range s.length).map fun u => .loc (X + 1 + u)))
  ro : ∀ u, u < s.length → Z[X + 1 + u]? = some (.lst ((own s u).map encI))
theorem RowsAt.frame {Z Z' : Sto} {X : Nat} {s : List (List Nat)} (o : RowsAt Z X s) (h : ∀ j c, X ≤ j → Z[j]? = some c → j ≤ X + s.length → Z'[j]? = some c) : RowsAt Z' X s :=
  ⟨h _ _ (Nat.le_refl _) o.li (by omega), fun u hu => h _ _ (by omega) (o.ro u hu) (by omega)⟩
theorem RowsAt.put {Z : Sto} {X k : Nat} {s : List (List Nat)} (o : RowsAt Z X s) (hk : k < s.length) (ow : List Nat) : RowsAt (Z.set (X + 1 + k) (.lst (ow.map encI))) X (putL s k ow) := by
  refine ⟨?_, fun u hu => ?_⟩
  · rw [List.getElem?_set_ne (by omega), putL_len hk]
    exact o.li
  · rw [putL_len hk] at hu
    rw [putL_own hk]
    by_cases q : u = k
    · subst q
      rw [if_pos rfl, List.getElem?_set_self (lt_of_at (o.ro u hu))]
    · rw [if_neg q, List.getElem?_set_ne (by omega)]
      exact o.ro u hu
theorem range_own (s : List (List Nat)) : (List.range s.length).map (own s) = s := by
  apply List.ext_getElem?
  intro i
  rw [List.getElem?_map]
  by_cases hi : i < s.length
  · rw [List.getElem?_range hi, own_at hi]; rfl
  · rw [List.getElem?_eq_none (by rw [List.length_range]; omega), List.getElem?_eq_none (by omega)]; rfl
section
variable {F : Nat → List D → Sto → R (D × Sto)}
/-- [list(own) for own in stand] -/
theorem rows_lc {r : Env} {v : Nat} (hv : v < r.length) (s : List (List Nat)) (hl : s.length ≤ 65536) (S : Sto) : ∃ Z, lcGo .no S.length (lcStep F r (.blt .list [(.var v)]) [v] (.nm v) (.cst (.bl true))) (s.map encE) (S ++ [.lst []]) = .ok Z ∧ Kz S Z ∧ RowsAt Z S.length s ∧ Z.length = S.length + 1 + s.length := by
  have main : Rs (lcGo .no S.length (lcStep F r (.blt .list [(.var v)]) [v] (.nm v) (.cst (.bl true))) (s.map encE) (S ++ [.lst []])) fun Z => Kz S Z ∧ RowsAt Z S.length s ∧ Z.length = S.length + 1 + s.length := by
    refine lcGo_by (g := .no) (fun i Z => Kz S Z ∧ Z.length = S.length + 1 + i ∧ Z[S.length]? = some (.lst ((List.range i).map fun u => .loc (S.length + 1 + u))) ∧ ∀ u, u < i → Z[S.length + 1 + u]? = some (.lst ((own s u).map encI)))
      ⟨(Kz.refl S).app _, by simp, by simp, fun u hu => absurd hu (by omega)⟩ (fun _ _ _ _ => trivial) ?_ ?_
    · rintro i d Z hi ⟨kz, hlen, h1, h2⟩
      rw [List.getElem?_map] at hi
      obtain ⟨ow, how, rfl⟩ := Option.map_eq_some_iff.mp hi
      have his := (List.getElem?_eq_some_iff.mp how).1
      have eo : own s i = ow := by
        have := own_at his
        rw [how] at this
        exact (Option.some.inj this).symm
      refine ⟨(some (.loc Z.length), Z ++ [.lst (ow.map encI)]), ?_, ?_⟩
      · simp [lcStep, hv, list_any (S := Z) (d := encE ow) (xs := ow.map encI) rfl]
      · refine ⟨_, isLst_at (at_app h1 [.lst (ow.map encI)]), by rw [List.length_map, List.length_range]; omega, ?_, ?_, ?_, ?_⟩
        · exact (kz.app _).set (Nat.le_refl _) _
        · simp; omega
        · rw [List.getElem?_set_self (by simp; omega), List.range_succ, List.map_append]
          simp [hlen]
        · intro u hu
          rw [List.getElem?_set_ne (by omega)]
          by_cases q : u = i
          · subst q
            rw [eo, show S.length + 1 + u = Z.length by omega]
            simp
          · exact at_app (h2 u (by omega)) _
    · rintro Z ⟨kz, hlen, h1, h2⟩
      rw [List.length_map] at hlen h1 h2
      exact ⟨kz, ⟨h1, h2⟩, hlen⟩
  obtain ⟨Z, e, h⟩ := main
  exact ⟨Z, e, h⟩
end
end Ev
set_option autoImplicit false
set_option linter.all false
namespace Ev
open PySem
theorem rows_sub {Z : Sto} {X k : Nat} {s : List (List Nat)} (o : RowsAt Z X s) (hk : k < s.length) : subX (.loc X) (.int (k : Int)) Z = .ok (.loc (X + 1 + k)) := by
  simp only [subX_loc, o.li, dctAt_lst, subD_loc, lstAt_some, opt_some, bi_ok, nth_cast, List.getElem?_map, List.getElem?_range hk, Option.map_some]
def x_rows (v x : Nat) : C := .blt .tuple [(.lc (.blt .tuple [(.var v)]) [v] (.nm v) .seq [(.var x)] (.cst (.bl true)))]
def p_behind : List St := [(.par 2 3 (.lc (.blt .list [(.var 5)]) [5] (.nm 5) .seq [(.var 0)] (.cst (.bl true))) (.sub (.var 1) (.cst (.int 1)))), (.iff (.cmp .Eq (.sub (.var 1) (.cst (.int 0))) (.cst (.str (Str.ofString "in")))) [(.exp (.mth .append (.sub (.var 2) (.var 3)) [(.sub (.var 1) (.cst (.int 2)))]))] [(.asg (.nm 4) (.mth .pop (.sub (.var 2) (.var 3)) [(.cst (.int 0))])), (.iff (.cmp .Eq (.sub (.var 1) (.cst (.int 0))) (.cst (.str (Str.ofString "on")))) [(.exp (.mth .append (.sub (.var 2) (.sub (.var 1) (.cst (.int 2)))) [(.var 4)]))] [])]), (.ret (x_rows 5 2))]
def BehindC (f : List D → Sto → R (D × Sto)) : Prop := ∀ (N : Net) (s : List (List Nat)) (x : Dd) (S : Sto), N.WF → Stand N s → okDd N x → canDd N s x = true → f [encR s, encDd x] S = .ok (encR (doDd s x), S)
section
variable {F : Nat → List D → Sto → R (D × Sto)}
theorem rows_tup {r : Env} {v x X : Nat} {Z : Sto} {s : List (List Nat)} (hv : v < r.length) (hx : r[x]? = some (some (.loc X))) (o : RowsAt Z X s) (hl : s.length ≤ 65536) : ev F (x_rows v x) r Z = .ok (encR s, Z ++ [.lst (s.map encE)]) := by
  have l1 := lc_map (g := .one (X, (List.range s.length).map fun u => D.loc (X + 1 + u))) (en := fun u => D.loc (X + 1 + u)) (xs := List.range s.length) (S := Z) (step := lcStep F r (.blt .tuple [(.var v)]) [v] (.nm v) (.cst (.bl true)))
    (fun u => some (encE (own s u))) (show Z[X]? = _ from o.li) (by simp; omega) (fun u hu acc => by
      have hu := List.mem_range.mp hu
      have e := at_app (o.ro u hu) [Cell.lst acc]
      simp [lcStep, hv, e]
      rfl)
  rw [show (fun u => some (encE (own s u))) = some ∘ encE ∘ own s from rfl, List.filterMap_eq_map, ← List.map_map, range_own] at l1
  have li := o.li
  simp only [x_rows, ev_blt, evL_cons, evL_nil, ev_lc, ev_var, hx, bi_ok]
  have es : srcD .seq [.loc X] Z = .ok ((List.range s.length).map (fun u => D.loc (X + 1 + u)), .one (X, (List.range s.length).map fun u => D.loc (X + 1 + u))) := by
    simp [srcD, isLst_at li]
  rw [es, bi_ok, l1]
  simp [encR]
theorem behind_ok : BehindC (runFn F ⟨2, 6, p_behind⟩) := by
  intro N s x S w hs ok hc
  have h16 := w.l16
  have hsl := hs.len
  obtain ⟨Z, e0, kz, o, hlen⟩ := rows_lc (F := F) (r := [some (encR s), some (encDd x), none, none, none, none]) (v := 5) (by simp) s (by omega) S
  have fin : ∀ (Z' : Sto) (s' : List (List Nat)) (x3 x4 : Option D), Kz S Z' → RowsAt Z' S.length s' → s'.length ≤ 65536 → ev F (x_rows 5 2) [some (encR s), some (encDd x), some (.loc S.length), x3, x4, none] Z' = .ok (encR s', Z' ++ [.lst (s'.map encE)]) := fun Z' s' x3 x4 k o hl => rows_tup (by simp) rfl o hl
  have done : ∀ (Z' : Sto) (s' : List (List Nat)), Kz S Z' → Ev.trim S (Z' ++ [.lst (s'.map encE)]) (encR s') = S := fun Z' s' k => (k.app _).trim (und_S _ _)
  cases x with
  | i k d =>
    obtain ⟨hk, hd⟩ := ok
    have hk' : k < s.length := by omega
    have hr := (hs.ow k hk).1
    have hb := (w.ln k hk).2.2.2.2
    have r1 := rows_sub o hk'
    have g1 := o.ro k hk'
    have o2 := o.put hk' (own s k ++ [d])
    have f1 := fin _ _ (some (.int k)) none (kz.set (n := S.length + 1 + k) (by omega) (.lst ((own s k ++ [d]).map encI))) o2 (by rw [putL_len hk']; omega)
    simp only [encDd] at e0 f1
    rw [runFn_eq (S1 := (Z.set (S.length + 1 + k) (.lst ((own s k ++ [d]).map encI))) ++ [.lst ((doDd s (.i k d)).map encE)]) (d := encR (doDd s (.i k d))) rfl, done _ _ (kz.set (by omega) _)]
    have l3 : (own s k).length < 16777216 := by omega
    rw [List.map_append, List.map_cons, List.map_nil] at f1
    simp only [dIn, encI] at e0 f1
    simp [-subX_loc, p_behind, encDd, dIn, e0, r1, g1, l3, doDd]
    rw [f1]
    simp
  | u k =>
    have hk : k < N.lanes.length := ok
    have hk' : k < s.length := by omega
    have r1 := rows_sub o hk'
    have g1 := o.ro k hk'
    cases e : own s k with
    | nil => simp [canDd, e] at hc
    | cons a r =>
      have o2 := o.put hk' ((own s k).drop 1)
      have f1 := fin _ _ (some (.int k)) (some (.int a)) (kz.set (n := S.length + 1 + k) (by omega) (.lst (((own s k).drop 1).map encI))) o2 (by rw [putL_len hk']; omega)
      rw [runFn_eq (S1 := (Z.set (S.length + 1 + k) (.lst (((own s k).drop 1).map encI))) ++ [.lst ((doDd s (.u k)).map encE)]) (d := encR (doDd s (.u k))) rfl, done _ _ (kz.set (by omega) _)]
      simp only [encDd, dOut, encI] at e0 f1
      rw [e] at g1 f1
      simp only [List.drop_succ_cons, List.drop_zero] at f1
      simp only [List.map_cons] at g1
      simp [-subX_loc, p_behind, encDd, dOut, eqS_out_in, eqS_out_on, e0, r1, g1, doDd, e]
      rw [f1]
      simp
  | o k j =>
    obtain ⟨hk, hj⟩ := ok
    have hk' : k < s.length := by omega
    have hj' : j < s.length := by omega
    have r1 := rows_sub o hk'
    have g1 := o.ro k hk'
    cases e : own s k with
    | nil => simp [canDd, e] at hc
    | cons a r =>
      have o2 := o.put hk' ((own s k).drop 1)
      have pl := putL_len hk' ((own s k).drop 1)
      have kz2 := kz.set (n := S.length + 1 + k) (by omega) (.lst (((own s k).drop 1).map encI))
      have r2 := rows_sub o2 (by rw [pl]; exact hj')
      have g2 := o2.ro j (by rw [pl]; exact hj')
      have o3 := o2.put (k := j) (by rw [pl]; exact hj') (own (putL s k ((own s k).drop 1)) j ++ [(own s k).headD 0])
      have f1 := fin _ _ (some (.int k)) (some (.int a)) (kz2.set (n := S.length + 1 + j) (by omega) (.lst ((own (putL s k ((own s k).drop 1)) j ++ [(own s k).headD 0]).map encI))) o3 (by rw [putL_len (by rw [pl]; exact hj'), pl]; omega)
      rw [runFn_eq (S1 := ((Z.set (S.length + 1 + k) (.lst (((own s k).drop 1).map encI))).set (S.length + 1 + j) (.lst ((own (putL s k ((own s k).drop 1)) j ++ [(own s k).headD 0]).map encI))) ++ [.lst ((doDd s (.o k j)).map encE)]) (d := encR (doDd s (.o k j))) rfl, done _ _ (kz2.set (by omega) _)]
      have l3 : (own (putL s k ((own s k).drop 1)) j).length < 16777216 := by
        rw [putL_own hk']
        have h1 := (hs.ow k hk).1
        have h2 := (w.ln k hk).2.2.2.2
        have h3 := (hs.ow j hj).1
        have h4 := (w.ln j hj).2.2.2.2
        split
        · simp; omega
        · omega
      simp only [encDd, dOn, encI] at e0 f1
      rw [e] at g1 f1 r2 g2 l3
      simp only [List.drop_succ_cons, List.drop_zero, List.headD_cons] at f1 r2 g2 l3
      simp only [List.map_cons] at g1
      rw [List.map_append, List.map_cons, List.map_nil] at f1
      simp only [encI] at f1
      generalize hO : own (putL s k r) j = O at f1 g2 l3
      simp [-subX_loc, p_behind, encDd, dOn, eqS_on_in, e0, r1, g1, doDd, e, r2, g2, hO, l3]
      rw [f1]
      simp
end
end Ev
set_option autoImplicit false
set_option linter.all false
namespace Ev
open PySem
def p_served : List St := [(.ret (.lc (.var 2) [2] (.nm 2) .rng1 [(.sub (.var 0) (.cst (.int 0)))] (.cmp .In (.var 1) (.sub (.sub (.sub (.var 0) (.cst (.int 2))) (.sub (.sub (.sub (.var 0) (.cst (.int 1))) (.var 1)) (.cst (.int 0)))) (.var 2)))))]
def b_stand (sv dr pk : Nat) : List St := [(.asg (.nm 8) (.call sv [(.var 1), (.var 4)])), (.asg (.nm 9) (.ife (.and (.cmp .Eq (.var 2) (.cst (.int 1))) (.cmp .Gt (.call dr [(.var 0), (.cst (.int 6))]) (.cst (.int 0)))) (.var 7) (.call dr [(.var 0), (.bin .Add (.var 7) (.cst (.int 1)))]))), (.asg (.nm 10) (.lc (.var 11) [11] (.nm 11) .seq [(.var 8)] (.cmp .NotEq (.var 11) (.var 6)))), (.asg (.nm 8) (.ife (.and (.cmp .Eq (.var 2) (.cst (.int 1))) (.and (.cmp .NotEq (.var 10) (.lst [])) (.cmp .Gt (.call dr [(.var 0), (.cst (.int 5))]) (.cst (.int 0))))) (.var 10) (.var 8))), (.exp (.mth .append (.var 3) [(.ife (.cmp .NotEq (.var 8) (.lst [])) (.blt .tuple [(.lc (.call pk [(.var 0), (.var 8)]) [12] (.nm 12) .rng1 [(.var 9)] (.cst (.bl true)))]) (.tup []))]))]
def p_stand (sv dr pk : Nat) : List St := [(.asg (.nm 3) (.lst [])), (.fr (.tp [(.nm 4), (.tp [(.nm 5), (.nm 6), (.nm 7)])]) .enum [(.sub (.var 1) (.cst (.int 1)))] (b_stand sv dr pk)), (.ret (.blt .tuple [(.var 3)]))]
section
variable {F : Nat → List D → Sto → R (D × Sto)} {N : Net} {k : Nat}
theorem served_ok (w : N.WF) (hk : k < N.lanes.length) (S : Sto) : runFn F ⟨2, 3, p_served⟩ [encN N, .int k] S = .ok (.loc S.length, S ++ [.lst ((N.aim k).map encI)]) := by
  obtain ⟨b1, _⟩ := w.ln k hk
  have hh := w.h6
  have l1 := lc_range (n := N.h) (step := lcStep F [some (encN N), some (D.int k), none] (.var 2) [2] (.nm 2) (.cmp .In (.var 1) (.sub (.sub (.sub (.var 0) (.cst (.int 2))) (.sub (.sub (.sub (.var 0) (.cst (.int 1))) (.var 1)) (.cst (.int 0)))) (.var 2)))) (S := S)
    (fun d => if decide (k ∈ N.ent (N.st k) d) = true then some (encI d) else none) (by omega) (fun d hd acc => by
      simp [lcStep, lane_at hk, row_at w b1, ent_at w b1 hd, in_ints]
      split <;> simp_all)
  rw [filterMap_dec (fun d => decide (k ∈ N.ent (N.st k) d)) encI] at l1
  have l2 : N.aim k = (List.range N.h).filter fun d => decide (k ∈ N.ent (N.st k) d) := rfl
  rw [← l2] at l1
  rw [runFn_eq (S1 := S ++ [.lst ((N.aim k).map encI)]) (d := .loc S.length) rfl, trim_loc (Nat.le_refl _)]
  simp [p_served, srcD_rng N.h (by omega), l1]
theorem aim_len (w : N.WF) (k : Nat) : (N.aim k).length ≤ 6 := by
  unfold Net.aim
  have := List.length_filter_le (fun d => decide (k ∈ N.ent (N.st k) d)) (List.range N.h)
  rw [List.length_range] at this
  have := w.h6
  omega
/-- letters picked, one by one -/
theorem picks_ok {pk : Nat} (hp : PickC (F pk)) {a b m : Nat} {us : List Nat} {many : Nat} (hm : many ≤ 64) (hu : us ≠ []) (hul : us.length ≤ 64) {S1 : Sto} (hS : DeckAt S1 a b) (hma : m ≠ a) (hmb : m ≠ b) (hus : S1[m]? = some (.lst (us.map encI)))
    (r : Env) (hr0 : r[0]? = some (some (.loc a))) (hr8 : r[8]? = some (some (.loc m))) (hrl : r.length = 13) :
    Rs (lcGo .no S1.length (lcStep F r (.call pk [(.var 0), (.var 8)]) [12] (.nm 12) (.cst (.bl true))) ((List.range many).map encI) (S1 ++ [.lst []])) fun S2 =>
      ∃ ow : List Nat, ow.length = many ∧ (∀ x, x ∈ ow → x ∈ us) ∧ S2[S1.length]? = some (.lst (ow.map encI)) ∧ Stp a b S1 S2 := by
  have la := hS.la
  have lb := hS.lb
  have lm := lt_of_at hus
  refine lcGo_by (fun i S2 => ∃ ow : List Nat, ow.length = i ∧ (∀ x, x ∈ ow → x ∈ us) ∧ S2[S1.length]? = some (.lst (ow.map encI)) ∧ Stp a b S1 S2) ⟨[], rfl, by simp, by simp, (Stp.self hS).app _⟩ (fun _ _ _ _ => trivial) ?_ ?_
  · rintro i d S2 hi ⟨ow, h1, h2, h3, t1⟩
    obtain ⟨hil, rfl⟩ := range_at hi
    have e0 : ∀ x, ((r.set 12 none).set 12 (some x))[0]? = some (some (.loc a)) := fun x => by simp [hr0]
    have e8 : ∀ x, ((r.set 12 none).set 12 (some x))[8]? = some (some (.loc m)) := fun x => by simp [hr8]
    simp [lcStep, hr0, hr8]
    have hm2 := (t1.fr m lm hma hmb).trans hus
    refine (hp a b S2 (.loc m) (us.map encI) t1.dk (Keeps.loc hm2 hma hmb) (by simpa using hu) (by rw [List.length_map]; omega) (fun x hx => by
      obtain ⟨k, _, rfl⟩ := List.mem_map.mp hx
      rfl)).mono fun p hp1 => ?_
    obtain ⟨d, S3⟩ := p
    obtain ⟨hd, t2, _⟩ := hp1
    obtain ⟨x, hx, rfl⟩ := List.mem_map.mp hd
    have h3' := (t2.fr _ (lt_of_at h3) (by omega) (by omega)).trans h3
    simp [h3']
    refine ⟨by omega, ow ++ [x], by simp [h1], ?_, ?_, (t1.trans t2).set (Nat.le_refl _) hS |> fun t => by simpa using t⟩
    · intro y hy
      rcases List.mem_append.mp hy with q | q
      · exact h2 y q
      · rw [List.mem_singleton.mp q]; exact hx
    · rw [List.getElem?_set_self (lt_of_at h3')]; simp
  · rintro S2 ⟨ow, h1, h2, h3, t1⟩
    exact ⟨ow, by simpa using h1, h2, h3, t1⟩
theorem stand_body {sv dr pk : Nat} (hsv : ∀ k S, k < N.lanes.length → F sv [encN N, .int (k : Nat)] S = .ok (.loc S.length, S ++ [.lst ((N.aim k).map encI)])) (hd : DrawC (F dr)) (hp : PickC (F pk)) (w : N.WF) (hk : k < N.lanes.length)
    {a b L way : Nat} {S S1 : Sto} {s : List (List Nat)} (hS : DeckAt S a b) (hL : S.length ≤ L) (st : Stp a b S S1) (hl : S1[L]? = some (.lst (s.map encE))) (hn : s.length ≤ 64) (x8 x9 x10 x11 x12 : Option D) :
    Rs (evSs F (b_stand sv dr pk) [some (.loc a), some (encN N), some (.int way), some (.loc L), some (.int k), some (.int (N.st k)), some (.int (N.en k)), some (.int (N.rm k)), x8, x9, x10, x11, x12] S1) fun f =>
      ∃ (S2 : Sto) (x8 x9 x10 x11 x12 : Option D) (ow : List Nat), f = .nx [some (.loc a), some (encN N), some (.int way), some (.loc L), some (.int k), some (.int (N.st k)), some (.int (N.en k)), some (.int (N.rm k)), x8, x9, x10, x11, x12] S2 ∧
        Stp a b S S2 ∧ S2[L]? = some (.lst ((s ++ [ow]).map encE)) ∧ ow.length ≤ N.rm k ∧ ∀ x, x ∈ ow → x ∈ N.aim k := by
  have la := hS.la
  have lb := hS.lb
  have lL := lt_of_at hl
  obtain ⟨b1, b2, b3, b4, b5⟩ := w.ln k hk
  have hal := aim_len w k
  have A : ∀ S2, DeckAt S2 a b → Rs (if (way : Int) = 1 then (F dr [.loc a, .int 6] S2).bi fun p => (cmpD .Gt p.1 (.int 0) p.2).bi fun t => R.ok (t, p.2) else R.ok (false, S2)) fun p => Stp a b S2 p.2 := fun S2 h2 => by
    split
    · simp
      refine (hd a b S2 6 h2 (by omega) (by omega)).mono fun p hp1 => ?_
      obtain ⟨d, S3⟩ := p
      obtain ⟨v, hv, rfl, t3, _⟩ := hp1
      simp
      exact t3
    · simp; exact Stp.self h2
  have B : ∀ (t : Bool) S2, DeckAt S2 a b → Rs (if t = true then R.ok (D.int (N.rm k), S2) else F dr [.loc a, .int ((N.rm k : Nat) + 1)] S2) fun p => (∃ m : Nat, m ≤ N.rm k ∧ p.1 = .int m) ∧ Stp a b S2 p.2 := fun t S2 h2 => by
    split
    · simp; exact ⟨⟨N.rm k, Nat.le_refl _, rfl⟩, Stp.self h2⟩
    · rw [show (((N.rm k : Nat) : Int) + 1) = ((N.rm k + 1 : Nat) : Int) by omega]
      refine (hd a b S2 (N.rm k + 1) h2 (by omega) (by omega)).mono fun p hp1 => ?_
      obtain ⟨v, hv, e, t3, _⟩ := hp1
      exact ⟨⟨v, by omega, e⟩, t3⟩
  simp only [b_stand]
  simp [hsv k _ hk]
  have z1 := st.dk.app [.lst ((N.aim k).map encI)]
  have t1 := (Stp.self st.dk).app [.lst ((N.aim k).map encI)]
  refine (A _ z1).mono fun p hp1 => ?_
  obtain ⟨tt, S3⟩ := p
  simp only at hp1
  refine (B tt S3 hp1.dk).mono fun p hp2 => ?_
  obtain ⟨d, S4⟩ := p
  obtain ⟨⟨many, hmany, rfl⟩, t4⟩ := hp2
  have t5 := hp1.trans t4
  have n1 : S4.length ≠ a := Nat.ne_of_gt t5.dk.la
  have n2 : S4.length ≠ b := Nat.ne_of_gt t5.dk.lb
  have hmenu : S4[S1.length]? = some (.lst ((N.aim k).map encI)) := (t5.fr S1.length (by simp) (by omega) (by omega)).trans at_last
  obtain ⟨far, hfar⟩ : ∃ far, far = (N.aim k).filter fun d => decide (d ≠ N.en k) := ⟨_, rfl⟩
  have l1 := lc_map (g := .one (S1.length, (N.aim k).map encI)) (en := encI) (xs := N.aim k) (S := S4) (step := lcStep F [some (D.loc a), some (encN N), some (D.int way), some (D.loc L), some (D.int k), some (D.int (N.st k)), some (D.int (N.en k)), some (D.int (N.rm k)), some (D.loc S1.length), some (D.int many), x10, x11, x12]
    (.var 11) [11] (.nm 11) (.cmp .NotEq (.var 11) (.var 6))) (fun d => if decide (d ≠ N.en k) = true then some (encI d) else none) hmenu (by omega) (fun d hd acc => by
      simp [lcStep]
      by_cases h : d = N.en k
      · simp [h]
      · have h' : ¬ (d : Int) = ((N.lane k).2.1 : Int) := by simp [Net.en] at h; omega
        simp [Net.en] at h
        simp [h, h'])
  rw [filterMap_dec (fun d => decide (d ≠ N.en k)) encI, ← hfar] at l1
  have t6 := t5.app [.lst (far.map encI)]
  have hfl : far.length ≤ 6 := by rw [hfar]; exact Nat.le_trans (List.length_filter_le _ _) hal
  simp [hmenu, l1]
  have C : Rs (if (way : Int) = 1 then (((eqD (D.loc S4.length) (D.loc (S4.length + 1)) (S4 ++ [Cell.lst (far.map encI), Cell.lst []])).bi fun t => R.ok !t).bi fun t => R.ok (t, S4 ++ [Cell.lst (far.map encI), Cell.lst []])).bi fun p =>
      if p.1 = true then (F dr [D.loc a, D.int 5] p.2).bi fun p => (cmpD .Gt p.1 (D.int 0) p.2).bi fun t => R.ok (t, p.2) else R.ok (false, p.2) else R.ok (false, S4 ++ [Cell.lst (far.map encI)])) fun p => Stp a b (S4 ++ [Cell.lst (far.map encI)]) p.2 := by
    have z6 := t6.dk
    split
    · rw [ints_nil (e := far) (by simp) (by simp)]
      simp
      have t7 := (Stp.self z6).app [.lst []]
      simp at t7
      split
      · exact (Rs_ok _ _).mpr t7
      · simp
        refine (hd a b _ 5 t7.dk (by omega) (by omega)).mono fun p hp1 => ?_
        obtain ⟨d, S7⟩ := p
        obtain ⟨v, hv, rfl, t8, _⟩ := hp1
        simp
        exact t7.trans t8
    · simp; exact Stp.self z6
  refine C.mono fun p hp3 => ?_
  obtain ⟨t3, S6⟩ := p
  simp only at hp3
  have t7 := t6.trans hp3
  have far6 : S6[S4.length]? = some (.lst (far.map encI)) := (hp3.fr S4.length (by simp) n1 n2).trans at_last
  have menu6 : S6[S1.length]? = some (.lst ((N.aim k).map encI)) := (hp3.fr S1.length (by have := lt_of_at hmenu; simp; omega) (by omega) (by omega)).trans (at_app hmenu _)
  have Dd : Rs (if t3 = true then R.ok (D.loc S4.length, S6) else R.ok (D.loc S1.length, S6)) fun p => ∃ (m : Nat) (us : List Nat), p = (.loc m, S6) ∧ S6[m]? = some (.lst (us.map encI)) ∧ (∀ x, x ∈ us → x ∈ N.aim k) ∧ us.length ≤ 6 ∧ m ≠ a ∧ m ≠ b := by
    split
    · refine (Rs_ok _ _).mpr ⟨_, far, rfl, far6, fun x hx => ?_, hfl, n1, n2⟩
      rw [hfar] at hx
      exact (List.mem_filter.mp hx).1
    · exact (Rs_ok _ _).mpr ⟨_, _, rfl, menu6, fun x hx => hx, hal, by omega, by omega⟩
  refine Dd.mono fun p hp4 => ?_
  obtain ⟨m, us, rfl, hm6, hus, hul, hma, hmb⟩ := hp4
  have hL6 : S6[L]? = some (.lst (s.map encE)) := (hp3.fr L (by have := t5.len; simp at this; simp; omega) (by omega) (by omega)).trans (at_app ((t5.fr L (by simp; omega) (by omega) (by omega)).trans (at_app hl _)) _)
  have e1 : eqD (.loc m) (.loc S6.length) (S6 ++ [.lst []]) = .ok us.isEmpty := ints_nil (at_app hm6 _) at_last
  have hL7 := at_app hL6 [.lst []]
  have hm7 := at_app hm6 [.lst []]
  have t8 := (st.trans ((Stp.self st.dk).app [.lst ((N.aim k).map encI)])).trans (t7.app [.lst []])
  generalize hS7 : S6 ++ [Cell.lst []] = S7 at *
  have fin : ∀ (S8 : Sto) (ow : List Nat), Stp a b S7 S8 → ow.length ≤ N.rm k → (∀ x, x ∈ ow → x ∈ N.aim k) → ∃ a_5, lstAt S8[L]? = some a_5 ∧ a_5.length < 16777216 ∧ Stp a b S (S8.set L (.lst (a_5 ++ [encE ow]))) ∧ ∃ x : List Nat,
      (S8.set L (.lst (a_5 ++ [encE ow])))[L]? = some (.lst (s.map encE ++ [encE x])) ∧ x.length ≤ N.rm k ∧ ∀ y, y ∈ x → y ∈ N.aim k := fun S8 ow t9 h1 h2 => by
    have hL8 := (t9.fr L (lt_of_at hL7) (by omega) (by omega)).trans hL7
    refine ⟨s.map encE, by rw [hL8]; rfl, by rw [List.length_map]; omega, (t8.trans t9).set hL hS, ow, ?_, h1, h2⟩
    rw [List.getElem?_set_self (lt_of_at hL8)]
  simp [hL6, e1, hS7]
  by_cases hu : us = []
  · simp [hu]
    have := fin S7 [] (Stp.self t8.dk) (by simp) (by simp)
    simpa [encE] using this
  · simp [hu, srcD_rng many (by omega)]
    have P := picks_ok hp (many := many) (by omega) hu (by omega) t8.dk hma hmb hm7 [some (D.loc a), some (encN N), some (D.int way), some (D.loc L), some (D.int k), some (D.int (N.st k)), some (D.int (N.en k)), some (D.int (N.rm k)), some (.loc m),
      some (D.int many), some (D.loc S4.length), x11, x12] rfl rfl rfl
    rw [← hS7] at P
    simp at P
    refine P.mono fun S8 hp5 => ?_
    obtain ⟨ow, h1, h2, h3, t9⟩ := hp5
    simp [h3]
    exact fin S8 ow (hS7 ▸ t9) (by omega) (fun x hx => hus x (h2 x hx))
def StandC (f : List D → Sto → R (D × Sto)) : Prop := ∀ (a b way : Nat) (S : Sto) (N : Net), DeckAt S a b → N.WF → Rs (f [.loc a, encN N, .int way] S) fun p => ∃ s, Stand N s ∧ p.1 = encR s ∧ Stp a b S p.2 ∧ p.2.length = S.length
theorem bind_lane (i j k m : Nat) (n : Nat) (l : Nat × Nat × Nat) (r : Env) : bindP (.tp [.nm i, .tp [.nm j, .nm k, .nm m]]) (.tup [encI n, encL l]) r = some ((((r.set i (some (.int n))).set j (some (.int l.1))).set k (some (.int l.2.1))).set m (some (.int l.2.2))) := by
  simp
theorem stand_ok {sv dr pk : Nat} (hsv : ∀ (N : Net) k S, N.WF → k < N.lanes.length → F sv [encN N, .int (k : Nat)] S = .ok (.loc S.length, S ++ [.lst ((N.aim k).map encI)])) (hd : DrawC (F dr)) (hp : PickC (F pk)) : StandC (runFn F ⟨3, 13, p_stand sv dr pk⟩) := by
  intro a b way S N hS w
  have la := hS.la
  have lb := hS.lb
  have h16 := w.l16
  refine runFn_by rfl ?_
  simp [p_stand, pairs_map]
  refine (frGo_by (g := .no) (fun i r S1 => ∃ (x4 x5 x6 x7 x8 x9 x10 x11 x12 : Option D) (s : List (List Nat)), r = [some (.loc a), some (encN N), some (.int way), some (.loc S.length), x4, x5, x6, x7, x8, x9, x10, x11, x12] ∧ Stp a b S S1 ∧ S1[S.length]? = some (.lst (s.map encE)) ∧
      s.length = i ∧ ∀ k, k < i → (own s k).length ≤ N.rm k ∧ ∀ x, x ∈ own s k → x ∈ N.aim k)
    (P := fun f => ∃ (x4 x5 x6 x7 x8 x9 x10 x11 x12 : Option D) (s : List (List Nat)) (S1 : Sto), f = .nx [some (.loc a), some (encN N), some (.int way), some (.loc S.length), x4, x5, x6, x7, x8, x9, x10, x11, x12] S1 ∧ Stp a b S S1 ∧ S1[S.length]? = some (.lst (s.map encE)) ∧ Stand N s)
    ⟨_, _, _, _, _, _, _, _, _, [], rfl, (Stp.self hS).app _, at_last, rfl, fun k hk => absurd hk (Nat.not_lt_zero _)⟩ (fun _ _ _ _ _ => trivial) ?_ ?_).mono ?_
  · rintro i d r S1 hi ⟨x4, x5, x6, x7, x8, x9, x10, x11, x12, s, rfl, st, hl, hsl, ok⟩
    rw [List.getElem?_map] at hi
    obtain ⟨p, hpp, rfl⟩ := Option.map_eq_some_iff.mp hi
    obtain ⟨k, l⟩ := p
    obtain ⟨h1, h2⟩ := enumL_get hpp
    simp at h1 h2
    subst h1
    have hk : k < N.lanes.length := (List.getElem?_eq_some_iff.mp h2).1
    have e1 : N.lane k = l := by
      have := lane_at hk
      rw [h2] at this
      exact (Option.some.inj this).symm
    subst e1
    refine ⟨_, bind_lane _ _ _ _ _ _ _, ?_⟩
    refine (stand_body (fun k S hk => hsv N k S w hk) hd hp w hk (way := way) hS (Nat.le_refl _) st hl (by omega) x8 x9 x10 x11 x12).mono fun f hf => ?_
    obtain ⟨S2, x8, x9, x10, x11, x12, ow, rfl, st2, hl2, h3, h4⟩ := hf
    refine ⟨_, _, _, _, _, _, _, _, _, s ++ [ow], rfl, st2, hl2, by simp [hsl], fun j hj => ?_⟩
    by_cases q : j < k
    · have : own (s ++ [ow]) j = own s j := by
        unfold own
        rw [List.getD_eq_getElem?_getD, List.getD_eq_getElem?_getD, List.getElem?_append_left (by omega)]
      rw [this]; exact ok j q
    · have e : j = s.length := by omega
      have : own (s ++ [ow]) j = ow := by
        unfold own
        rw [List.getD_eq_getElem?_getD, e, List.getElem?_append_right (Nat.le_refl _), Nat.sub_self]; rfl
      rw [this, e, hsl]
      exact ⟨h3, h4⟩
  · rintro r S1 ⟨x4, x5, x6, x7, x8, x9, x10, x11, x12, s, rfl, st, hl, hsl, ok⟩
    rw [List.length_map, enumL_len] at hsl ok
    exact ⟨_, _, _, _, _, _, _, _, _, s, S1, rfl, st, hl, ⟨hsl, ok⟩⟩
  · rintro f ⟨x4, x5, x6, x7, x8, x9, x10, x11, x12, s, S1, rfl, st, hl, hs⟩
    simp [hl]
    have tr := Stp.trim (d := encR s) st hS (und_R _ _)
    exact ⟨s, hs, rfl, tr.1, tr.2⟩
variable {s : List (List Nat)}
def p_can : List St := [(.asg (.tp [(.nm 3), (.nm 4), (.nm 5)]) (.sub (.sub (.var 0) (.cst (.int 1))) (.sub (.var 2) (.cst (.int 1))))), (.asg (.nm 6) (.sub (.var 1) (.sub (.var 2) (.cst (.int 1))))), (.iff (.cmp .Eq (.sub (.var 2) (.cst (.int 0))) (.cst (.str (Str.ofString "in")))) [(.ret (.and (.cmp .In (.sub (.var 2) (.cst (.int 1))) (.sub (.sub (.sub (.var 0) (.cst (.int 2))) (.var 3)) (.sub (.var 2) (.cst (.int 2))))) (.cmp .Lt (.blt .len [(.var 6)]) (.var 5))))] []), (.iff (.cmp .Eq (.var 6) (.tup [])) [(.ret (.cst (.bl false)))] []), (.iff (.cmp .Eq (.sub (.var 2) (.cst (.int 0))) (.cst (.str (Str.ofString "out")))) [(.ret (.cmp .Eq (.sub (.var 6) (.cst (.int 0))) (.var 4)))] []), (.ret (.and (.cmp .In (.sub (.var 2) (.cst (.int 2))) (.sub (.sub (.sub (.var 0) (.cst (.int 2))) (.var 4)) (.sub (.var 6) (.cst (.int 0))))) (.cmp .Lt (.blt .len [(.sub (.var 1) (.sub (.var 2) (.cst (.int 2))))]) (.sub (.sub (.sub (.var 0) (.cst (.int 1))) (.sub (.var 2) (.cst (.int 2)))) (.cst (.int 2))))))]
theorem eq_on_in : (Str.ofString "on" == Str.ofString "in") = false := by decide +kernel
theorem eq_out_in : (Str.ofString "out" == Str.ofString "in") = false := by decide +kernel
theorem eq_on_out : (Str.ofString "on" == Str.ofString "out") = false := by decide +kernel
def canIn (N : Net) (s : List (List Nat)) (k d : Nat) : Bool := decide (k ∈ N.ent (N.st k) d) && decide ((own s k).length < N.rm k)
def canOn (N : Net) (s : List (List Nat)) (k j : Nat) : Bool := match own s k with
  | [] => false
  | a :: _ => decide (j ∈ N.ent (N.en k) a) && roomy N s j
def canOut (N : Net) (s : List (List Nat)) (k : Nat) : Bool := match own s k with
  | [] => false
  | a :: _ => decide (a = N.en k)
theorem can_in (w : N.WF) (hs : Stand N s) {k d : Nat} (hk : k < N.lanes.length) (hd : d < N.h) (S : Sto) : runFn F ⟨3, 7, p_can⟩ [encN N, encR s, dIn k d] S = .ok (.bl (canIn N s k d), S) := by
  obtain ⟨b1, b2, _⟩ := w.ln k hk
  rw [runFn_eq (S1 := S) rfl, trim_self]
  simp [p_can, dIn, lane_at hk, stand_at hs hk, row_at w b1, ent_at w b1 hd, in_ints, canIn]
  split <;> simp_all
theorem can_on (w : N.WF) (hs : Stand N s) {k j : Nat} (hk : k < N.lanes.length) (hj : j < N.lanes.length) (S : Sto) : runFn F ⟨3, 7, p_can⟩ [encN N, encR s, dOn k j] S = .ok (.bl (canOn N s k j), S) := by
  obtain ⟨b1, b2, _⟩ := w.ln k hk
  rw [runFn_eq (S1 := S) rfl, trim_self]
  cases ho : own s k with
  | nil => simp [p_can, dOn, lane_at hk, stand_at hs hk, ho, eq_on_in, canOn]
  | cons a r =>
    have hah : a < N.h := aim_lt ((hs.ow k hk).2 a (by rw [ho]; exact List.mem_cons_self ..))
    have e0 : ∀ S, subD (encE (a :: r)) (.int 0) S = .ok (.int a) := fun S => by simp [encE]
    simp [p_can, dOn, lane_at hk, lane_at hj, stand_at hs hk, stand_at hs hj, ho, eq_on_in, eq_on_out, e0, row_at w b2, ent_at w b2 hah, in_ints, canOn, roomy]
    split <;> simp_all
theorem can_out (w : N.WF) (hs : Stand N s) {k : Nat} (hk : k < N.lanes.length) (S : Sto) : runFn F ⟨3, 7, p_can⟩ [encN N, encR s, dOut k] S = .ok (.bl (canOut N s k), S) := by
  rw [runFn_eq (S1 := S) rfl, trim_self]
  cases ho : own s k with
  | nil => simp [p_can, dOut, lane_at hk, stand_at hs hk, ho, eq_out_in, canOut]
  | cons a r =>
    have e0 : ∀ S, subD (encE (a :: r)) (.int 0) S = .ok (.int a) := fun S => by simp [encE]
    simp [p_can, dOut, lane_at hk, stand_at hs hk, ho, eq_out_in, e0, canOut]
    by_cases h : a = N.en k
    · simp [Net.en] at h; simp [h]
    · have h' : ¬ (a : Int) = ((N.lane k).2.1 : Int) := by simp [Net.en] at h; omega
      simp [Net.en] at h
      simp [h, h']
def b_all1 : List St := [(.asg (.nm 1) (.bin .Add (.var 1) (.lc (.tup [(.cst (.str (Str.ofString "in"))), (.var 3), (.var 4)]) [4] (.nm 4) .rng1 [(.sub (.var 0) (.cst (.int 0)))] (.cst (.bl true)))))]
def b_all2 : List St := [(.asg (.nm 1) (.bin .Add (.var 1) (.lc (.tup [(.cst (.str (Str.ofString "on"))), (.var 3), (.var 5)]) [5] (.nm 5) .rng1 [(.var 2)] (.cst (.bl true)))))]
def p_all : List St := [(.par 1 2 (.lst []) (.blt .len [(.sub (.var 0) (.cst (.int 1)))])), (.fr (.nm 3) .rng1 [(.var 2)] b_all1), (.fr (.nm 3) .rng1 [(.var 2)] b_all2), (.ret (.bin .Add (.var 1) (.lc (.tup [(.cst (.str (Str.ofString "out"))), (.var 3)]) [3] (.nm 3) .rng1 [(.var 2)] (.cst (.bl true)))))]
def allIn (N : Net) (i : Nat) : List D := (List.range i).flatMap fun k => (List.range N.h).map (dIn k)
def allOn (N : Net) (i : Nat) : List D := (List.range i).flatMap fun k => (List.range N.lanes.length).map (dOn k)
def allD (N : Net) : List D := allIn N N.lanes.length ++ allOn N N.lanes.length ++ (List.range N.lanes.length).map dOut
theorem allIn_len (w : N.WF) (i : Nat) : (allIn N i).length ≤ i * 6 := by
  have := flat_len (f := fun k => (List.range N.h).map (dIn k)) (b := 6) (fun x => by simp; exact w.h6) (List.range i)
  simpa [allIn] using this
theorem allOn_len (w : N.WF) (i : Nat) : (allOn N i).length ≤ i * 16 := by
  have := flat_len (f := fun k => (List.range N.lanes.length).map (dOn k)) (b := 16) (fun x => by simp; exact w.l16) (List.range i)
  simpa [allOn] using this
theorem all1_ok (w : N.WF) {k n : Nat} {xs : List D} {Z : Sto} (hz : Z[n]? = some (.lst xs)) (hl : xs.length ≤ 65536) (x4 x5 : Option D) :
    evSs F b_all1 [some (encN N), some (.loc n), some (.int N.lanes.length), some (.int k), x4, x5] Z =
      .ok (.nx [some (encN N), some (.loc (Z.length + 1)), some (.int N.lanes.length), some (.int k), x4, x5] (Z ++ [.lst ((List.range N.h).map (dIn k)), .lst (xs ++ (List.range N.h).map (dIn k))])) := by
  have h6 := w.h6
  have l1 := lc_range (n := N.h) (S := Z) (step := lcStep F [some (encN N), some (.loc n), some (.int N.lanes.length), some (.int k), x4, x5] (.tup [(.cst (.str (Str.ofString "in"))), (.var 3), (.var 4)]) [4] (.nm 4) (.cst (.bl true)))
    (fun d => some (dIn k d)) (by omega) (fun d hd acc => by simp [lcStep, dIn])
  rw [show (fun d => some (dIn k d)) = some ∘ dIn k from rfl, List.filterMap_eq_map] at l1
  have hz' := at_app hz [.lst ((List.range N.h).map (dIn k))]
  have h3 : xs.length + N.h ≤ 16777216 := by omega
  simp [b_all1, srcD_rng N.h (by omega), l1, hz', h3]
theorem all2_ok (w : N.WF) {k n : Nat} {xs : List D} {Z : Sto} (hz : Z[n]? = some (.lst xs)) (hl : xs.length ≤ 65536) (x4 x5 : Option D) :
    evSs F b_all2 [some (encN N), some (.loc n), some (.int N.lanes.length), some (.int k), x4, x5] Z =
      .ok (.nx [some (encN N), some (.loc (Z.length + 1)), some (.int N.lanes.length), some (.int k), x4, x5] (Z ++ [.lst ((List.range N.lanes.length).map (dOn k)), .lst (xs ++ (List.range N.lanes.length).map (dOn k))])) := by
  have h6 := w.l16
  have l1 := lc_range (n := N.lanes.length) (S := Z) (step := lcStep F [some (encN N), some (.loc n), some (.int N.lanes.length), some (.int k), x4, x5] (.tup [(.cst (.str (Str.ofString "on"))), (.var 3), (.var 5)]) [5] (.nm 5) (.cst (.bl true)))
    (fun d => some (dOn k d)) (by omega) (fun d hd acc => by simp [lcStep, dOn])
  rw [show (fun d => some (dOn k d)) = some ∘ dOn k from rfl, List.filterMap_eq_map] at l1
  have hz' := at_app hz [.lst ((List.range N.lanes.length).map (dOn k))]
  have h3 : xs.length + N.lanes.length ≤ 16777216 := by omega
  simp [b_all2, srcD_rng N.lanes.length (by omega), l1, hz', h3]
def AllC (f : List D → Sto → R (D × Sto)) : Prop := ∀ (N : Net) (S : Sto), N.WF → ∃ (T : Sto) (n : Nat), f [encN N] S = .ok (.loc n, S ++ T) ∧ S.length ≤ n ∧ (S ++ T)[n]? = some (.lst (allD N))
theorem allD_ok : AllC (runFn F ⟨1, 6, p_all⟩) := by
  intro N S w
  have h16 := w.l16
  have key : Rs (runFn F ⟨1, 6, p_all⟩ [encN N] S) fun p => ∃ (T : Sto) (n : Nat), p = (.loc n, S ++ T) ∧ S.length ≤ n ∧ (S ++ T)[n]? = some (.lst (allD N)) := by
    refine runFn_by rfl ?_
    simp [p_all, srcD_rng N.lanes.length (by omega)]
    refine (frGo_by (g := .no) (fun i r S1 => ∃ (T : Sto) (n : Nat) (x3 x4 x5 : Option D), r = [some (encN N), some (.loc n), some (.int N.lanes.length), x3, x4, x5] ∧ S1 = S ++ T ∧ S.length ≤ n ∧ (S ++ T)[n]? = some (.lst (allIn N i)))
      (P := fun f => ∃ (T : Sto) (n : Nat) (x3 x4 x5 : Option D), f = .nx [some (encN N), some (.loc n), some (.int N.lanes.length), x3, x4, x5] (S ++ T) ∧ S.length ≤ n ∧ (S ++ T)[n]? = some (.lst (allIn N N.lanes.length)))
      ⟨[.lst []], S.length, _, _, _, rfl, rfl, Nat.le_refl _, at_last⟩ (fun _ _ _ _ _ => trivial) ?_ ?_).mono ?_
    · rintro i d r S1 hi ⟨T, n, x3, x4, x5, rfl, rfl, hn, hz⟩
      obtain ⟨hil, rfl⟩ := range_at hi
      refine ⟨_, by simp; rfl, ?_⟩
      refine Rs_eq (all1_ok w hz (by have := allIn_len w i; omega) x4 x5) ⟨T ++ [_, _], _, _, _, _, rfl, List.append_assoc .., by simp; omega, ?_⟩
      simp [Nat.add_assoc, allIn, List.range_succ]
    · rintro r S1 ⟨T, n, x3, x4, x5, rfl, rfl, hn, hz⟩
      simp at hz
      exact ⟨T, n, x3, x4, x5, rfl, hn, hz⟩
    · rintro f ⟨T, n, x3, x4, x5, rfl, hn, hz⟩
      simp [srcD_rng N.lanes.length (by omega)]
      refine (frGo_by (g := .no) (fun i r S1 => ∃ (T : Sto) (n : Nat) (x3 x4 x5 : Option D), r = [some (encN N), some (.loc n), some (.int N.lanes.length), x3, x4, x5] ∧ S1 = S ++ T ∧ S.length ≤ n ∧ (S ++ T)[n]? = some (.lst (allIn N N.lanes.length ++ allOn N i)))
        (P := fun f => ∃ (T : Sto) (n : Nat) (x3 x4 x5 : Option D), f = .nx [some (encN N), some (.loc n), some (.int N.lanes.length), x3, x4, x5] (S ++ T) ∧ S.length ≤ n ∧ (S ++ T)[n]? = some (.lst (allIn N N.lanes.length ++ allOn N N.lanes.length)))
        ⟨T, n, _, _, _, rfl, rfl, hn, by simpa [allOn] using hz⟩ (fun _ _ _ _ _ => trivial) ?_ ?_).mono ?_
      · rintro i d r S1 hi ⟨T, n, x3, x4, x5, rfl, rfl, hn, hz⟩
        obtain ⟨hil, rfl⟩ := range_at hi
        refine ⟨_, by simp; rfl, ?_⟩
        refine Rs_eq (all2_ok w hz (by have := allIn_len w N.lanes.length; have := allOn_len w i; simp; omega) x4 x5) ⟨T ++ [_, _], _, _, _, _, rfl, List.append_assoc .., by simp; omega, ?_⟩
        simp [Nat.add_assoc, allOn, List.range_succ]
      · rintro r S1 ⟨T, n, x3, x4, x5, rfl, rfl, hn, hz⟩
        simp at hz
        exact ⟨T, n, x3, x4, x5, rfl, hn, by simpa using hz⟩
      · rintro f ⟨T, n, x3, x4, x5, rfl, hn, hz⟩
        have l1 := lc_range (n := N.lanes.length) (S := S ++ T) (step := lcStep F [some (encN N), some (.loc n), some (.int N.lanes.length), x3, x4, x5] (.tup [(.cst (.str (Str.ofString "out"))), (.var 3)]) [3] (.nm 3) (.cst (.bl true)))
          (fun d => some (dOut d)) (by omega) (fun d hd acc => by simp [lcStep, dOut])
        rw [show (fun d => some (dOut d)) = some ∘ dOut from rfl, List.filterMap_eq_map] at l1
        have hz' := at_app hz [.lst ((List.range N.lanes.length).map dOut)]
        have h3 : (allIn N N.lanes.length).length + (allOn N N.lanes.length).length + N.lanes.length ≤ 16777216 := by have := allIn_len w N.lanes.length; have := allOn_len w N.lanes.length; omega
        simp [Nat.add_assoc] at l1 hz' h3
        simp [srcD_rng N.lanes.length (by omega), l1, hz', h3, Nat.add_assoc]
        refine ⟨T ++ [.lst ((List.range N.lanes.length).map dOut), .lst (allD N)], _, ⟨rfl, ?_⟩, by omega, ?_⟩
        · rw [trim_loc (by omega)]; simp [allD]
        · simp [Nat.add_assoc]
  obtain ⟨p, e, T, n, rfl, h1, h2⟩ := key
  exact ⟨T, n, e, h1, h2⟩
end
end Ev
set_option autoImplicit false
set_option linter.all false
namespace Ev
open PySem
section
variable {F : Nat → List D → Sto → R (D × Sto)}
theorem lcan_ok : CanC (runFn F ⟨3, 7, p_can⟩) := by
  intro N s x S w hs ok
  cases x with
  | i k d => exact can_in w hs ok.1 ok.2 S
  | o k j => exact can_on w hs ok.1 ok.2 S
  | u k =>
    have e := can_out (F := F) w hs ok S
    rw [show encDd (.u k) = dOut k from rfl, e]
    have q : canOut N s k = canDd N s (.u k) := by
      show (match own s k with
        | [] => false
        | a :: _ => decide (a = N.en k)) = (match own s k with
        | [] => false
        | a :: _ => decide (N.en k = a))
      cases own s k with
      | nil => rfl
      | cons a r =>
        show decide (a = N.en k) = decide (N.en k = a)
        exact decide_eq_decide.mpr eq_comm
    rw [q]
end
end Ev
set_option autoImplicit false
set_option linter.all false
namespace Ev
open PySem
end Ev
set_option autoImplicit false
set_option linter.all false
namespace Ev
open PySem
end Ev
set_option autoImplicit false
set_option linter.all false
namespace K11m
open PySem
open Ev
section
variable {F : Nat → List D → Sto → R (D × Sto)} {N : Net} {s : List (List Nat)}
def encT (xs : List Dd) : D := .tup (xs.map encDd)
theorem slcT (xs : List Dd) (lo hi : Option Int) (S : Sto) : slcD (encT xs) lo hi S = .ok (encT (cut xs lo hi), S) := by
  simp [encT, cut_map]
theorem addT (xs ys : List Dd) (S : Sto) (h : xs.length + ys.length ≤ 65536) : binD .Add (encT xs) (encT ys) S = .ok (encT (xs ++ ys), S) := by
  have h' : xs.length + ys.length ≤ 16777216 := by omega
  simp [encT, h']
theorem strOk_told : PyData.strOk (Str.ofString "told") = true := by decide +kernel
theorem strOk_refused : PyData.strOk (Str.ofString "refused") = true := by decide +kernel
theorem fit_str {n : Nat} (x : String) (h1 : PyData.strOk (Str.ofString x) = true) (h2 : rl (.str (Str.ofString x)) ≤ 100) : Fit (n + 1) 100 (.str (Str.ofString x)) := ⟨h1, by simpa [py, PyData.showable] using h1, h2⟩
theorem fit_R (w : N.WF) (hs : Stand N s) : Fit 44 200000 (encR s) := by
  have h16 := w.l16
  have h6 := w.h6
  refine (Fit.tup (n := 42) (b := 1107) (l := 16) (fun x hx => ?_) (by rw [List.length_map, hs.len]; exact h16)).mono (by omega) (by omega)
  obtain ⟨ow, how, rfl⟩ := List.mem_map.mp hx
  obtain ⟨k, hk, e⟩ := List.mem_iff_getElem.mp how
  have hk' : k < N.lanes.length := by rw [← hs.len]; exact hk
  have e2 : own s k = ow := by
    have := stand_at hs hk'
    rw [List.getElem?_eq_getElem hk, e] at this
    exact (Option.some.inj this).symm
  have o := hs.ow k hk'
  rw [e2] at o
  have r4 := (w.ln k hk').2.2.2.2
  exact fit_E (fun a ha => by have := aim_lt (o.2 a ha); omega) (by omega)
theorem fit_dd (w : N.WF) {x : Dd} (ok : okDd N x) : Fit 40 309 (encDd x) := by
  have h16 := w.l16
  have h6 := w.h6
  have st : ∀ (m : String), PyData.strOk (Str.ofString m) = true → rl (.str (Str.ofString m)) ≤ 100 → ∀ (is : List Nat), is.length ≤ 2 → (∀ i, i ∈ is → i < 2 ^ 64) → Fit 40 309 (.tup (.str (Str.ofString m) :: is.map encI)) := fun m h1 h2 is hl hi => by
    refine (Fit.tup (n := 38) (b := 100) (l := 3) (fun z hz => ?_) (by simp; omega)).mono (by omega) (by omega)
    rcases List.mem_cons.mp hz with rfl | hz
    · exact fit_str m h1 h2
    · obtain ⟨i, hii, rfl⟩ := List.mem_map.mp hz
      exact (Fit.nat (n := 0) (hi i hii)).mono (by omega) (by omega)
  cases x with
  | i k d => exact st "in" strOk_in (by decide +kernel) [k, d] (by simp) (fun i hi => by simp at hi; have := ok.1; have := ok.2; omega)
  | o k j => exact st "on" strOk_on (by decide +kernel) [k, j] (by simp) (fun i hi => by simp at hi; have := ok.1; have := ok.2; omega)
  | u k => exact st "out" strOk_out (by decide +kernel) [k] (by simp) (fun i hi => by simp at hi; have : k < N.lanes.length := ok; omega)
theorem all_nil : (allD N).isEmpty = decide (N.lanes.length = 0) := by
  by_cases h : N.lanes.length = 0
  · simp [allD, allIn, allOn, h]
  · have : dOut 0 ∈ allD N := by
      unfold allD
      exact List.mem_append_right _ (List.mem_map.mpr ⟨0, List.mem_range.mpr (by omega), rfl⟩)
    cases e : allD N with
    | nil => rw [e] at this; cases this
    | cons a b => simp [h]
end
end K11m
set_option autoImplicit false
set_option linter.all false
namespace Ev
open PySem
namespace K09m
def insA (N : Net) : List Dd := (List.range N.lanes.length).flatMap fun k => (List.range N.h).map (Dd.i k)
def onsA (N : Net) : List Dd := (List.range N.lanes.length).flatMap fun k => (List.range N.lanes.length).map (Dd.o k)
def outsA (N : Net) : List Dd := (List.range N.lanes.length).map Dd.u
def allDd (N : Net) : List Dd := insA N ++ onsA N ++ outsA N
theorem allDd_enc (N : Net) : (allDd N).map encDd = allD N := by
  unfold allDd allD insA onsA outsA allIn allOn
  rw [List.map_append, List.map_append, List.map_flatMap, List.map_flatMap, List.map_map]
  simp only [List.map_map]
  rfl
theorem allDd_ok {N : Net} {x : Dd} (h : x ∈ allDd N) : okDd N x := by
  unfold allDd at h
  rcases List.mem_append.mp h with h | h
  · rcases List.mem_append.mp h with h | h
    · obtain ⟨k, hk, h⟩ := List.mem_flatMap.mp h
      obtain ⟨d, hd, rfl⟩ := List.mem_map.mp h
      exact ⟨List.mem_range.mp hk, List.mem_range.mp hd⟩
    · obtain ⟨k, hk, h⟩ := List.mem_flatMap.mp h
      obtain ⟨j, hj, rfl⟩ := List.mem_map.mp h
      exact ⟨List.mem_range.mp hk, List.mem_range.mp hj⟩
  · obtain ⟨k, hk, rfl⟩ := List.mem_map.mp h
    exact List.mem_range.mp hk
theorem allDd_mem {N : Net} {x : Dd} (h : okDd N x) : x ∈ allDd N := by
  unfold allDd
  cases x with
  | i k d => exact List.mem_append_left _ (List.mem_append_left _ (List.mem_flatMap.mpr ⟨k, List.mem_range.mpr h.1, List.mem_map.mpr ⟨d, List.mem_range.mpr h.2, rfl⟩⟩))
  | o k j => exact List.mem_append_left _ (List.mem_append_right _ (List.mem_flatMap.mpr ⟨k, List.mem_range.mpr h.1, List.mem_map.mpr ⟨j, List.mem_range.mpr h.2, rfl⟩⟩))
  | u k => exact List.mem_append_right _ (List.mem_map.mpr ⟨k, List.mem_range.mpr h, rfl⟩)
theorem allDd_len {N : Net} (w : N.WF) : (allDd N).length ≤ 400 := by
  have h6 := w.h6
  have h16 := w.l16
  have h1 := allIn_len w N.lanes.length
  have h2 := allOn_len w N.lanes.length
  have : (allDd N).length = (allD N).length := by rw [← allDd_enc, List.length_map]
  rw [this]
  unfold allD
  rw [List.length_append, List.length_append, List.length_map, List.length_range]
  have := Nat.mul_le_mul_right 6 h16
  have := Nat.mul_le_mul_right 16 h16
  omega
theorem fm_congr {α β : Type} {f g : α → List β} : ∀ {l : List α}, (∀ x, x ∈ l → f x = g x) → l.flatMap f = l.flatMap g
  | [], _ => rfl
  | x :: l, h => by rw [List.flatMap_cons, List.flatMap_cons, h x (List.mem_cons_self ..), fm_congr fun y hy => h y (List.mem_cons_of_mem _ hy)]
end K09m
end Ev
set_option autoImplicit false
set_option linter.all false
namespace Ev
open PySem
namespace Lng
open K11m K09m
def ansE (N : Net) (s : List (List Nat)) (x : Dd) : List D := if canDd N s x = true then [.str (Str.ofString "told"), encR (doDd s x)] else [.str (Str.ofString "refused"), encDd x]
def q_h1 (dn : Nat) : List Sx := [(.tri [(.ret (.lst [(.cst (.str (Str.ofString "told")))] (.ife (.var 3) (.calk dn [] [(.var 0), (.var 2), (.var 1)] [0, 2, 1]) (.call dn [(.var 0), (.var 1), (.var 2)]))))] (Str.ofString "Refused") 4 [(.str (Str.ofString "refused")), (.fld (Str.ofString "deed"))])]
def Heard1C (f : List D → Sto → R (D × Sto)) : Prop := ∀ (N : Net) (s : List (List Nat)) (x : Dd) (b : Bool) (S : Sto), N.WF → Stand N s → okDd N x → f [encN N, encR s, encDd x, .bl b] S = .ok (.loc S.length, S ++ [.lst (ansE N s x)])
def isIn : Dd → Bool
  | .i _ _ => true
  | _ => false
def DrawnDC (f : List D → Sto → R (D × Sto)) : Prop := ∀ (a b : Nat) (N : Net) (s : List (List Nat)) (S : Sto), DeckAt S a b → N.WF → Stand N s → Rs (f [.loc a, encN N, encR s] S) fun p => (p.1 = .non ∨ ∃ x, p.1 = encDd x ∧ okDd N x ∧ canDd N s x = true) ∧ Stp a b S p.2
section
variable {F : Nat → List D → Sto → R (D × Sto)}
theorem heard1_ok {dn : Nat} (h : DoneX (F dn)) : Heard1C (runX F ⟨4, 5, q_h1 dn⟩) := by
  intro N s x b S w hs ok
  have e := h N s x S w hs ok
  rw [runX_ret (F := F) (f := ⟨4, 5, q_h1 dn⟩) (S1 := S ++ [.lst (ansE N s x)]) (d := .loc S.length) rfl, trim_loc (Nat.le_refl _)]
  unfold ansE
  cases hc : canDd N s x with
  | true =>
    rw [hc, if_pos rfl] at e
    rw [if_pos rfl]
    generalize encR (doDd s x) = Q at e ⊢
    generalize encN N = EN at e ⊢
    generalize encR s = RS at e ⊢
    generalize encDd x = DX at e ⊢
    cases b <;> simp [q_h1, perm, mapO, e]
  | false =>
    rw [hc, if_neg Bool.false_ne_true] at e
    rw [if_neg Bool.false_ne_true]
    generalize encN N = EN at e ⊢
    generalize encR s = RS at e ⊢
    cases b <;> simp [q_h1, perm, mapO, e] <;> simp [refused, evHx, List.lookup]
def x_dr1 (al cn : Nat) : C := .lc (.var 5) [5] (.nm 5) .seq [(.call al [(.var 1)])] (.call cn [(.var 1), (.var 2), (.var 5)])
def x_dr2 : C := .lc (.var 5) [5] (.nm 5) .seq [(.var 3)] (.cmp .NotEq (.sub (.var 5) (.cst (.int 0))) (.cst (.str (Str.ofString "in"))))
def x_dr3 (dr : Nat) : C := .ife (.and (.cmp .NotEq (.var 4) (.lst [])) (.cmp .Gt (.call dr [(.var 0), (.cst (.int 3))]) (.cst (.int 0)))) (.var 4) (.var 3)
def x_dr4 (pk : Nat) : C := .ife (.cmp .NotEq (.var 3) (.lst [])) (.call pk [(.var 0), (.var 3)]) (.cst .non)
def p_drawn (al cn dr pk : Nat) : List St := [(.asg (.nm 3) (x_dr1 al cn)), (.asg (.nm 4) x_dr2), (.asg (.nm 3) (x_dr3 dr)), (.ret (x_dr4 pk))]
theorem word_Dd (x : Dd) (S : Sto) : ∃ y, subX (encDd x) (.int 0) S = .ok (.str y) ∧ (y == Str.ofString "in") = isIn x := by
  cases x with
  | i k d => exact ⟨Str.ofString "in", rfl, by show (Str.ofString "in" == Str.ofString "in") = true; decide +kernel⟩
  | o k j => exact ⟨Str.ofString "on", rfl, by show (Str.ofString "on" == Str.ofString "in") = false; decide +kernel⟩
  | u k => exact ⟨Str.ofString "out", rfl, by show (Str.ofString "out" == Str.ofString "in") = false; decide +kernel⟩
theorem eq_nil {S : Sto} {k : Nat} {xs : List D} (h : S[k]? = some (.lst xs)) : eqD (.loc k) (.loc S.length) (S ++ [.lst []]) = .ok xs.isEmpty := eq_nilU (at_app h _) at_last
theorem drawn_ok {al cn dr pk : Nat} (hal : AllC (F al)) (hcn : CanC (F cn)) (hdr : DrawC (F dr)) (hpk : PickC (F pk)) : DrawnDC (runFn F ⟨3, 6, p_drawn al cn dr pk⟩) := by
  intro a b N s S hS w hs
  refine runFn_by rfl ?_
  have la := hS.la
  have lb := hS.lb
  show Rs (evSs F (p_drawn al cn dr pk) [some (.loc a), some (encN N), some (encR s), none, none, none] S) _
  obtain ⟨T, n, e1, hn, g1⟩ := hal N S w
  obtain ⟨Z1, hZ1⟩ : ∃ Z1, Z1 = S ++ T := ⟨_, rfl⟩
  rw [← hZ1] at e1 g1
  have st1 : Stp a b S Z1 := by rw [hZ1]; exact (Stp.self hS).app _
  rw [← allDd_enc] at g1
  have hal4 := allDd_len w
  obtain ⟨A, hA⟩ : ∃ A, A = (allDd N).filter (canDd N s) := ⟨_, rfl⟩
  have okA : ∀ x, x ∈ A → okDd N x ∧ canDd N s x = true := fun x hx => by
    rw [hA] at hx
    obtain ⟨h1, h2⟩ := List.mem_filter.mp hx
    exact ⟨allDd_ok h1, h2⟩
  have lA : A.length ≤ 400 := by rw [hA]; exact Nat.le_trans (List.length_filter_le _ _) hal4
  have l1 := lc_map (g := .one (n, (allDd N).map encDd)) (en := encDd) (xs := allDd N) (S := Z1) (step := lcStep F [some (.loc a), some (encN N), some (encR s), none, none, none] (.var 5) [5] (.nm 5) (.call cn [(.var 1), (.var 2), (.var 5)]))
    (fun x => if canDd N s x = true then some (encDd x) else none) g1 (by omega) (fun x hx acc => by
      have e := hcn N s x (Z1 ++ [.lst acc]) w hs (allDd_ok hx)
      generalize canDd N s x = c at e ⊢
      generalize encDd x = DX at e ⊢
      generalize encN N = EN at e ⊢
      generalize encR s = RS at e ⊢
      cases c <;> simp [lcStep, e])
  rw [filterMap_dec (canDd N s) encDd, ← hA] at l1
  obtain ⟨Z2, hZ2⟩ : ∃ Z2, Z2 = Z1 ++ [Cell.lst (A.map encDd)] := ⟨_, rfl⟩
  rw [← hZ2] at l1
  have ex1 : ev F (x_dr1 al cn) [some (.loc a), some (encN N), some (encR s), none, none, none] S = .ok (.loc Z1.length, Z2) := by
    unfold x_dr1
    generalize (allDd N).map encDd = P at g1 l1
    generalize encN N = EN at e1 l1 ⊢
    generalize encR s = RS at l1 ⊢
    simp [e1, g1, l1]
  have s1 : evS F (.asg (.nm 3) (x_dr1 al cn)) [some (.loc a), some (encN N), some (encR s), none, none, none] S = .ok (.nx [some (.loc a), some (encN N), some (encR s), some (.loc Z1.length), none, none] Z2) := by
    generalize x_dr1 al cn = c at ex1 ⊢
    simp [ex1]
  have g2 : Z2[Z1.length]? = some (.lst (A.map encDd)) := by rw [hZ2]; exact at_last
  obtain ⟨B, hB⟩ : ∃ B, B = A.filter (fun x => !isIn x) := ⟨_, rfl⟩
  have okB : ∀ x, x ∈ B → okDd N x ∧ canDd N s x = true := fun x hx => by
    rw [hB] at hx
    exact okA x (List.mem_filter.mp hx).1
  have lB : B.length ≤ 400 := by rw [hB]; exact Nat.le_trans (List.length_filter_le _ _) lA
  have l2 := lc_map (g := .one (Z1.length, A.map encDd)) (en := encDd) (xs := A) (S := Z2) (step := lcStep F [some (.loc a), some (encN N), some (encR s), some (.loc Z1.length), none, none] (.var 5) [5] (.nm 5) (.cmp .NotEq (.sub (.var 5) (.cst (.int 0))) (.cst (.str (Str.ofString "in")))))
    (fun x => if (!isIn x) = true then some (encDd x) else none) g2 (by omega) (fun x hx acc => by
      obtain ⟨y, e1, e2⟩ := word_Dd x (Z2 ++ [.lst acc])
      generalize Str.ofString "in" = TI at e2 ⊢
      generalize isIn x = c at e2 ⊢
      generalize encDd x = DX at e1 ⊢
      have e3 : eqD (.str y) (.str TI) (Z2 ++ [.lst acc]) = .ok c := by
        have : eqD (.str y) (.str TI) (Z2 ++ [.lst acc]) = .ok (y == TI) := rfl
        rw [this, e2]
      cases c <;> simp [lcStep, e1, e3, -subX_loc])
  rw [filterMap_dec (fun x => !isIn x) encDd, ← hB] at l2
  obtain ⟨Z3, hZ3⟩ : ∃ Z3, Z3 = Z2 ++ [Cell.lst (B.map encDd)] := ⟨_, rfl⟩
  rw [← hZ3] at l2
  have s2 : evS F (.asg (.nm 4) x_dr2) [some (.loc a), some (encN N), some (encR s), some (.loc Z1.length), none, none] Z2 = .ok (.nx [some (.loc a), some (encN N), some (encR s), some (.loc Z1.length), some (.loc Z2.length), none] Z3) := by
    have ex2 : ev F x_dr2 [some (.loc a), some (encN N), some (encR s), some (.loc Z1.length), none, none] Z2 = .ok (.loc Z2.length, Z3) := by
      unfold x_dr2
      generalize A.map encDd = P at g2 l2
      generalize encN N = EN at l2 ⊢
      generalize encR s = RS at l2 ⊢
      simp only [ev_lc, evL_cons, evL_nil, ev_var, List.getElem?_cons_succ, List.getElem?_cons_zero, opt_some, bi_ok, srcD_loc, g2, lstAt_some, l2]
    generalize x_dr2 = c at ex2 ⊢
    simp [ex2]
  have g3 : Z3[Z2.length]? = some (.lst (B.map encDd)) := by rw [hZ3]; exact at_last
  have g3A : Z3[Z1.length]? = some (.lst (A.map encDd)) := by rw [hZ3]; exact at_app g2 _
  have st3 : Stp a b S Z3 := by rw [hZ3, hZ2]; exact (st1.app _).app _
  have lZ1 : S.length ≤ Z1.length := by rw [hZ1, List.length_append]; omega
  have lZ2 : Z2.length = Z1.length + 1 := by rw [hZ2]; simp
  have lZ3 : Z3.length = Z1.length + 2 := by rw [hZ3]; simp [lZ2]
  -- which of both
  have L3 : Rs (ev F (x_dr3 dr) [some (.loc a), some (encN N), some (encR s), some (.loc Z1.length), some (.loc Z2.length), none] Z3) fun p => ∃ (m : Nat) (C : List Dd), p.1 = .loc m ∧ S.length ≤ m ∧ p.2[m]? = some (.lst (C.map encDd)) ∧ (∀ x, x ∈ C → okDd N x ∧ canDd N s x = true) ∧ C.length ≤ 400 ∧ Stp a b S p.2 := by
    have q1 := eq_nil g3
    have he : (B.map encDd).isEmpty = B.isEmpty := by cases B <;> rfl
    rw [he] at q1
    obtain ⟨Z4, hZ4⟩ : ∃ Z4, Z4 = Z3 ++ [Cell.lst []] := ⟨_, rfl⟩
    rw [← hZ4] at q1
    have st4 : Stp a b S Z4 := by rw [hZ4]; exact st3.app _
    cases hb : B.isEmpty with
    | true =>
      rw [hb] at q1
      have e : ev F (x_dr3 dr) [some (.loc a), some (encN N), some (encR s), some (.loc Z1.length), some (.loc Z2.length), none] Z3 = .ok (.loc Z1.length, Z4) := by
        rw [hZ4] at q1 ⊢
        simp [x_dr3, q1]
      rw [e, Rs_ok]
      exact ⟨_, A, rfl, lZ1, by rw [hZ4]; exact at_app g3A _, okA, lA, st4⟩
    | false =>
      rw [hb] at q1
      obtain ⟨⟨d2, Z5⟩, e2, v, hv, rfl, st5, _⟩ := hdr a b Z4 3 st4.dk (by omega) (by omega)
      have e2' : F dr [.loc a, .int 3] Z4 = .ok (.int (v : Int), Z5) := e2
      by_cases hz : 0 < v
      · have hz' : (0 : Int) < (v : Int) := by omega
        have e : ev F (x_dr3 dr) [some (.loc a), some (encN N), some (encR s), some (.loc Z1.length), some (.loc Z2.length), none] Z3 = .ok (.loc Z2.length, Z5) := by
          rw [hZ4] at q1 e2'
          simp [x_dr3, q1, e2', hz]
        rw [e, Rs_ok]
        refine ⟨_, B, rfl, by omega, ?_, okB, lB, st4.trans st5⟩
        have := st5.fr Z2.length (by rw [hZ4]; simp; omega) (by omega) (by omega)
        exact this.trans (by rw [hZ4]; exact at_app g3 _)
      · have hz0 : v = 0 := by omega
        subst hz0
        have e : ev F (x_dr3 dr) [some (.loc a), some (encN N), some (encR s), some (.loc Z1.length), some (.loc Z2.length), none] Z3 = .ok (.loc Z1.length, Z5) := by
          rw [hZ4] at q1 e2'
          simp [x_dr3, q1, e2']
        rw [e, Rs_ok]
        refine ⟨_, A, rfl, lZ1, ?_, okA, lA, st4.trans st5⟩
        have := st5.fr Z1.length (by rw [hZ4]; simp; omega) (by omega) (by omega)
        exact this.trans (by rw [hZ4]; exact at_app g3A _)
  obtain ⟨⟨d6, Z6⟩, e6, m, C, rfl, hm, g6, okC, lC, st6⟩ := L3
  simp only at g6 st6
  have s3 : evS F (.asg (.nm 3) (x_dr3 dr)) [some (.loc a), some (encN N), some (encR s), some (.loc Z1.length), some (.loc Z2.length), none] Z3 = .ok (.nx [some (.loc a), some (encN N), some (encR s), some (.loc m), some (.loc Z2.length), none] Z6) := by
    generalize x_dr3 dr = c at e6 ⊢
    simp [e6]
  have L4 : Rs (ev F (x_dr4 pk) [some (.loc a), some (encN N), some (encR s), some (.loc m), some (.loc Z2.length), none] Z6) fun p => (p.1 = .non ∨ ∃ x, p.1 = encDd x ∧ okDd N x ∧ canDd N s x = true) ∧ Stp a b S p.2 := by
    have q1 := eq_nil g6
    have he : (C.map encDd).isEmpty = C.isEmpty := by cases C <;> rfl
    rw [he] at q1
    obtain ⟨Z7, hZ7⟩ : ∃ Z7, Z7 = Z6 ++ [Cell.lst []] := ⟨_, rfl⟩
    rw [← hZ7] at q1
    have st7 : Stp a b S Z7 := by rw [hZ7]; exact st6.app _
    cases hb : C.isEmpty with
    | true =>
      rw [hb] at q1
      have e : ev F (x_dr4 pk) [some (.loc a), some (encN N), some (encR s), some (.loc m), some (.loc Z2.length), none] Z6 = .ok (.non, Z7) := by
        rw [hZ7] at q1 ⊢
        simp [x_dr4, q1]
      rw [e, Rs_ok]
      exact ⟨.inl rfl, st7⟩
    | false =>
      rw [hb] at q1
      have g7 : Z7[m]? = some (.lst (C.map encDd)) := by rw [hZ7]; exact at_app g6 _
      obtain ⟨⟨d8, Z8⟩, e8, hd8, st8, _⟩ := hpk a b Z7 (.loc m) (C.map encDd) st7.dk (Keeps.loc g7 (by omega) (by omega)) (fun z => by
        have := List.map_eq_nil_iff.mp z
        rw [this] at hb; cases hb) (by rw [List.length_map]; omega) (fun y hy => by
        obtain ⟨x, _, rfl⟩ := List.mem_map.mp hy
        exact und_Dd x _)
      obtain ⟨x, hx, rfl⟩ := List.mem_map.mp hd8
      have e : ev F (x_dr4 pk) [some (.loc a), some (encN N), some (encR s), some (.loc m), some (.loc Z2.length), none] Z6 = .ok (encDd x, Z8) := by
        rw [hZ7] at q1 e8
        generalize encDd x = DX at e8 ⊢
        simp [x_dr4, q1, e8]
      rw [e, Rs_ok]
      exact ⟨.inr ⟨x, rfl, okC x hx⟩, st7.trans st8⟩
  obtain ⟨⟨d9, Z9⟩, e9, hd9, st9⟩ := L4
  simp only at hd9 st9
  have s4 : evS F (.ret (x_dr4 pk)) [some (.loc a), some (encN N), some (encR s), some (.loc m), some (.loc Z2.length), none] Z6 = .ok (.rt d9 Z9) := by
    rw [evS_ret, e9]; rfl
  have stp : evSs F (p_drawn al cn dr pk) [some (.loc a), some (encN N), some (encR s), none, none, none] S = .ok (.rt d9 Z9) := by
    unfold p_drawn
    rw [evSs_cons, s1, bi_ok]
    show evSs F _ _ Z2 = _
    rw [evSs_cons, s2, bi_ok]
    show evSs F _ _ Z3 = _
    rw [evSs_cons, s3, bi_ok]
    show evSs F _ _ Z6 = _
    rw [evSs_cons, s4, bi_ok]
  rw [stp, Rs_ok]
  refine ⟨hd9, (st9.trim hS ?_).1⟩
  rcases hd9 with rfl | ⟨x, rfl, _⟩
  · rfl
  · exact und_Dd x _
def nLet (s : List (List Nat)) : Nat := (s.map List.length).sum
def CountC (f : List D → Sto → R (D × Sto)) : Prop := ∀ (s : List (List Nat)) (S : Sto), s.length ≤ 1000 → (∀ e, e ∈ s → e.length ≤ 16777216) → f [encR s] S = .ok (.int (nLet s : Nat), S)
def x_ct : C := .lc (.blt .len [(.var 1)]) [1] (.nm 1) .seq [(.var 0)] (.cst (.bl true))
def p_ct : List St := [(.ret (.blt .sum [x_ct]))]
theorem count_ok : CountC (runFn F ⟨1, 2, p_ct⟩) := by
  intro s S hs he
  have l1 := lc_map (g := .no) (en := encE) (xs := s) (S := S) (step := lcStep F [some (encR s), none] (.blt .len [(.var 1)]) [1] (.nm 1) (.cst (.bl true)))
    (fun e => some (D.int ((e.length : Nat) : Int))) trivial (by omega) (fun e hx acc => by
      have q : bltD .len [encE e] (S ++ [.lst acc]) = R.ok (.int (e.length : Nat), S ++ [.lst acc]) := by
        have := he e hx
        simp [encE, this]
      generalize encE e = E at q ⊢
      generalize encR s = RS
      simp [lcStep, q])
  rw [fm_some] at l1
  have hm : (s.map fun e => D.int ((e.length : Nat) : Int)) = (s.map fun e => ((e.length : Nat) : Int)).map D.int := by
    rw [List.map_map]; rfl
  rw [hm] at l1
  have hsum : ((s.map fun e => ((e.length : Nat) : Int)).sum) = ((nLet s : Nat) : Int) := by
    unfold nLet
    clear hm l1 hs he
    induction s with
    | nil => rfl
    | cons e s ih =>
      rw [List.map_cons, List.map_cons, List.sum_cons, List.sum_cons, ih]
      omega
  have es : srcD .seq [encR s] S = .ok (s.map encE, .no) := rfl
  have ex : ev F x_ct [some (encR s), none] S = .ok (.loc S.length, S ++ [.lst ((s.map fun e => ((e.length : Nat) : Int)).map D.int)]) := by
    unfold x_ct
    generalize (s.map fun e => ((e.length : Nat) : Int)).map D.int = Q at l1 ⊢
    generalize s.map encE = P at l1 es
    generalize encR s = RS at es l1 ⊢
    simp only [ev_lc, evL_cons, evL_nil, ev_var, List.getElem?_cons_zero, opt_some, bi_ok, es, l1]
  rw [runFn_eq (S1 := S ++ [.lst ((s.map fun e => ((e.length : Nat) : Int)).map D.int)]) (d := .int (nLet s : Nat)) rfl, trim_app (by rfl)]
  show evSs F p_ct [some (encR s), none] S = _
  rw [← hsum]
  have g : (S ++ [Cell.lst ((s.map fun e => ((e.length : Nat) : Int)).map D.int)])[S.length]? = some (.lst ((s.map fun e => ((e.length : Nat) : Int)).map D.int)) := at_last
  unfold p_ct
  generalize s.map (fun e => ((e.length : Nat) : Int)) = ns at ex g ⊢
  generalize x_ct = c at ex ⊢
  generalize S ++ [Cell.lst (ns.map D.int)] = Y at ex g ⊢
  simp [ex, g, sumO_ints]
end
end Lng
end Ev
set_option autoImplicit false
set_option linter.all false
namespace Ev
open PySem
namespace Lng
open K11m K09m
structure RowOk (N : Net) (s : List (List Nat)) (ds : List Dd) (ss : List (List (List Nat))) : Prop where
  len : ss.length = ds.length + 1
  st : ss[0]? = some s
  nx : ∀ (j : Nat) (x : Dd), ds[j]? = some x → ∃ t, ss[j]? = some t ∧ Stand N t ∧ okDd N x ∧ canDd N t x = true ∧ ss[j + 1]? = some (doDd t x)
theorem RowOk.one {N : Net} {s : List (List Nat)} : RowOk N s [] [s] := ⟨rfl, rfl, fun j x h => by cases h⟩
section
variable {N : Net} {s : List (List Nat)} {ds : List Dd} {ss : List (List (List Nat))}
theorem RowOk.all (o : RowOk N s ds ss) (w : N.WF) (hs : Stand N s) : ∀ (j : Nat) (t : List (List Nat)), ss[j]? = some t → Stand N t
  | 0, t, h => by
    rw [o.st] at h
    cases h; exact hs
  | j + 1, t, h => by
    have hl := (List.getElem?_eq_some_iff.mp h).1
    have hd : j < ds.length := by rw [o.len] at hl; omega
    obtain ⟨u, h1, h2, h3, h4, h5⟩ := o.nx j _ (List.getElem?_eq_getElem hd)
    rw [h] at h5
    cases h5
    exact do_stand w h2 h3 h4
theorem RowOk.last (o : RowOk N s ds ss) : ∃ t, ss[ds.length]? = some t := ⟨_, List.getElem?_eq_getElem (by rw [o.len]; omega)⟩
theorem RowOk.more (o : RowOk N s ds ss) (w : N.WF) (hs : Stand N s) {t : List (List Nat)} (ht : ss[ds.length]? = some t) {x : Dd} (ok : okDd N x) (hc : canDd N t x = true) : RowOk N s (ds ++ [x]) (ss ++ [doDd t x]) := by
  have h1 := o.len
  refine ⟨by rw [List.length_append, List.length_append, h1]; rfl, ?_, fun j y hy => ?_⟩
  · rw [List.getElem?_append_left (by omega)]; exact o.st
  · by_cases hj : j < ds.length
    · rw [List.getElem?_append_left hj] at hy
      obtain ⟨u, q1, q2, q3, q4, q5⟩ := o.nx j y hy
      exact ⟨u, by rw [List.getElem?_append_left (by omega)]; exact q1, q2, q3, q4, by rw [List.getElem?_append_left (by omega)]; exact q5⟩
    · have hj2 : j = ds.length := by
        have := (List.getElem?_eq_some_iff.mp hy).1
        rw [List.length_append] at this
        simp at this
        omega
      subst hj2
      rw [List.getElem?_append_right (Nat.le_refl _), Nat.sub_self] at hy
      cases hy
      refine ⟨t, by rw [List.getElem?_append_left (by omega)]; exact ht, o.all w hs _ _ ht, ok, hc, ?_⟩
      rw [List.getElem?_append_right (by omega), h1, Nat.sub_self]; rfl
theorem RowOk.okx (o : RowOk N s ds ss) : ∀ x, x ∈ ds → okDd N x := fun x hx => by
  obtain ⟨j, hj⟩ := List.getElem?_of_mem hx
  obtain ⟨t, _, _, h3, _⟩ := o.nx j x hj
  exact h3
/-- from the i-th stand on, m deeds -/
theorem RowOk.leads (o : RowOk N s ds ss) : ∀ (m i : Nat) (t u : List (List Nat)), i + m ≤ ds.length → ss[i]? = some t → ss[i + m]? = some u → tryD N t ((ds.drop i).take m) = .ok u
  | 0, i, t, u, _, h1, h2 => by
    rw [Nat.add_zero, h1] at h2
    cases h2; rfl
  | m + 1, i, t, u, hi, h1, h2 => by
    have hd : i < ds.length := by omega
    obtain ⟨t', q1, _, _, q4, q5⟩ := o.nx i _ (List.getElem?_eq_getElem hd)
    rw [h1] at q1
    cases q1
    rw [List.drop_eq_getElem_cons hd, List.take_succ_cons, tryD, if_pos q4]
    exact o.leads m (i + 1) _ u (by omega) q5 (by rw [← h2]; congr 1; omega)
/-- how many there are -/
def dLet : Dd → Int
  | .i _ _ => 1
  | .o _ _ => 0
  | .u _ => -1
theorem sum_take (s : List (List Nat)) (k : Nat) (h : k < s.length) : nLet s = nLet (s.take k) + (own s k).length + nLet (s.drop (k + 1)) := by
  unfold nLet own
  have e : s = s.take k ++ (s[k]'h :: s.drop (k + 1)) := by
    rw [← List.drop_eq_getElem_cons h, List.take_append_drop]
  rw [List.getD_eq_getElem?_getD, List.getElem?_eq_getElem h, Option.getD_some]
  conv => lhs; rw [e]
  rw [List.map_append, List.map_cons, List.sum_append, List.sum_cons]
  omega
theorem nLet_put {s : List (List Nat)} {k : Nat} (h : k < s.length) (ow : List Nat) : nLet (putL s k ow) + (own s k).length = nLet s + ow.length := by
  rw [sum_take s k h]
  unfold putL nLet
  rw [List.map_append, List.map_append, List.sum_append, List.sum_append]
  simp only [List.map_cons, List.map_nil, List.sum_cons, List.sum_nil]
  omega
theorem nLet_do {t : List (List Nat)} (ht : Stand N t) {x : Dd} (ok : okDd N x) (hc : canDd N t x = true) : ((nLet (doDd t x) : Nat) : Int) - (nLet t : Nat) = dLet x := by
  have hl := ht.len
  cases x with
  | i k d =>
    have hk : k < t.length := by rw [hl]; exact ok.1
    have h := nLet_put hk (own t k ++ [d])
    rw [List.length_append] at h
    simp only [List.length_cons, List.length_nil] at h
    show ((nLet (putL t k (own t k ++ [d])) : Nat) : Int) - (nLet t : Nat) = 1
    omega
  | u k =>
    have hk : k < t.length := by rw [hl]; exact ok
    have h := nLet_put hk ((own t k).drop 1)
    have hne : 1 ≤ (own t k).length := by
      cases e : own t k with
      | nil => simp [canDd, e] at hc
      | cons a r => simp
    rw [List.length_drop] at h
    show ((nLet (putL t k ((own t k).drop 1)) : Nat) : Int) - (nLet t : Nat) = -1
    omega
  | o k j =>
    have hk : k < t.length := by rw [hl]; exact ok.1
    have hj : j < t.length := by rw [hl]; exact ok.2
    have h := nLet_put hk ((own t k).drop 1)
    have hne : 1 ≤ (own t k).length := by
      cases e : own t k with
      | nil => simp [canDd, e] at hc
      | cons a r => simp
    rw [List.length_drop] at h
    have pl := putL_len hk ((own t k).drop 1)
    have h2 := nLet_put (s := putL t k ((own t k).drop 1)) (k := j) (by omega) (own (putL t k ((own t k).drop 1)) j ++ [(own t k).headD 0])
    rw [List.length_append] at h2
    simp only [List.length_cons, List.length_nil] at h2
    show ((nLet (putL (putL t k ((own t k).drop 1)) j (own (putL t k ((own t k).drop 1)) j ++ [(own t k).headD 0])) : Nat) : Int) - (nLet t : Nat) = 0
    omega
end
end Lng
end Ev
set_option autoImplicit false
set_option linter.all false
namespace Ev
open PySem
namespace Lng
open K11m K09m
structure RTells (F : Nat → List D → Sto → R (D × Sto)) : Prop where
  pk : PickC (F 11)
  cn : CanC (F 18)
  bh : BehindC (F 19)
  al : AllC (F 20)
  hd : Heard1C (F 21)
  dn : DrawnDC (F 22)
def r1 : St := .asg (.nm 7) (.sub (.var 5) (.una .USub (.cst (.int 1))))
def r2 : St := .asg (.nm 8) (.call 22 [(.var 0), (.var 1), (.var 7)])
def r3 : St := .iff (.cmp .Is (.var 8) (.cst .non)) [(.ret (.tup [(.var 4), (.var 5)]))] []
def r4 : St := .asg (.nm 9) (.call 19 [(.var 7), (.var 8)])
def r5 : St := .iff (.cmp .NotEq (.blt .repr [(.call 21 [(.var 1), (.var 7), (.var 8), (.cmp .Eq (.bin .Mod (.var 6) (.cst (.int 5))) (.cst (.int 1)))])]) (.blt .repr [(.lst [(.cst (.str (Str.ofString "told"))), (.var 9)])])) [(.ret (.tup [(.cst .non), (.var 5)]))] []
def r61 : St := .asg (.nm 10) (.call 11 [(.var 0), (.call 20 [(.var 1)])])
def r62 : St := .asg (.nm 11) (.ife (.call 18 [(.var 1), (.var 7), (.var 10)]) (.lst [(.cst (.str (Str.ofString "told"))), (.call 19 [(.var 7), (.var 10)])]) (.lst [(.cst (.str (Str.ofString "refused"))), (.var 10)]))
def r63 : St := .iff (.cmp .NotEq (.blt .repr [(.call 21 [(.var 1), (.var 7), (.var 10), (.cst (.bl false))])]) (.blt .repr [(.var 11)])) [(.ret (.tup [(.cst .non), (.var 5)]))] []
def r6 : St := .iff (.cmp .Eq (.bin .Mod (.var 6) (.cst (.int 4))) (.cst (.int 0))) [r61, r62, r63] []
def r7 : St := .par 4 5 (.bin .Add (.var 4) (.lst [(.var 8)])) (.bin .Add (.var 5) (.lst [(.var 9)]))
def b_row : List St := [r1, r2, r3, r4, r5, r6, r7]
def p_row : List St := [(.par 4 5 (.lst []) (.lst [(.var 2)])), (.fr (.nm 6) .rng1 [(.var 3)] b_row), (.ret (.tup [(.var 4), (.var 5)]))]
section
variable {F : Nat → List D → Sto → R (D × Sto)} {N : Net} {s : List (List Nat)} {ds : List Dd} {ss : List (List (List Nat))}
theorem is_Dd (x : Dd) (S : Sto) : cmpD .Is (encDd x) .non S = .ok false := by cases x <;> rfl
theorem rp_ans (w : N.WF) {t : List (List Nat)} (ht : Stand N t) {x : Dd} (ok : okDd N x) : ∃ W, ∀ (S : Sto) (p : Nat), S[p]? = some (.lst (ansE N t x)) → reprD (.loc p) S = .ok W := by
  refine ⟨_, fun S p hp => repr_loc (n := 44) (b := 200000) hp (fun z hz => ?_) (by omega) ?_⟩
  · unfold ansE at hz
    split at hz
    · rename_i hc
      simp only [List.mem_cons, List.not_mem_nil, or_false] at hz
      rcases hz with rfl | rfl
      · exact (fit_str (n := 43) "told" strOk_told (by decide +kernel)).mono (by omega) (by omega)
      · exact fit_R w (do_stand w ht ok hc)
    · simp only [List.mem_cons, List.not_mem_nil, or_false] at hz
      rcases hz with rfl | rfl
      · exact (fit_str (n := 43) "refused" strOk_refused (by decide +kernel)).mono (by omega) (by omega)
      · exact (fit_dd w ok).mono (by omega) (by omega)
  · have : (ansE N t x).length = 2 := by unfold ansE; split <;> rfl
    rw [this]; omega
theorem at_neg {xs : List D} {n : Nat} {d : D} (hl : xs.length = n + 1) (h : xs[n]? = some d) {Y : Nat} {Z : Sto} (g : Z[Y]? = some (.lst xs)) : subX (.loc Y) (.int (-1)) Z = .ok d := by
  have hx : xs = xs.take n ++ [d] := by
    have hn : n < xs.length := by omega
    have h1 : xs.drop n = [d] := by
      rw [List.drop_eq_getElem_cons hn, List.drop_eq_nil_of_le (by omega)]
      rw [List.getElem?_eq_getElem hn] at h
      rw [Option.some.inj h]
    rw [← h1, List.take_append_drop]
  have e : nth xs (-1) = some d := by
    rw [hx]
    exact L2.atI_last _ _
  simp [g, e]
/-- one turn -/
theorem row_step (T : RTells F) {a b : Nat} {Z : Sto} (dk : DeckAt Z a b) (w : N.WF) (hs : Stand N s) (o : RowOk N s ds ss) (i : Nat) {X Y : Nat} (gX : Z[X]? = some (.lst (ds.map encDd))) (gY : Z[Y]? = some (.lst (ss.map encR))) (hXa : X ≠ a) (hXb : X ≠ b) (hYa : Y ≠ a) (hYb : Y ≠ b) (hl : ds.length ≤ 1000) (x2 x3 x7 x8 x9 x10 x11 : Option D) :
    Rs (evSs F b_row [some (.loc a), some (encN N), x2, x3, some (.loc X), some (.loc Y), some (.int (i : Nat)), x7, x8, x9, x10, x11] Z) fun f =>
      (∃ Z', f = .rt (.tup [.loc X, .loc Y]) Z' ∧ Stp a b Z Z') ∨
      (∃ (y7 y8 y9 y10 y11 : Option D) (ds' : List Dd) (ss' : List (List (List Nat))) (X' Y' : Nat) (Z' : Sto), f = .nx [some (.loc a), some (encN N), x2, x3, some (.loc X'), some (.loc Y'), some (.int (i : Nat)), y7, y8, y9, y10, y11] Z' ∧ Stp a b Z Z' ∧ Z'[X']? = some (.lst (ds'.map encDd)) ∧ Z'[Y']? = some (.lst (ss'.map encR)) ∧ RowOk N s ds' ss' ∧ ds'.length = ds.length + 1 ∧ Z.length ≤ X' ∧ Z.length ≤ Y') := by
  have la := dk.la
  have lb := dk.lb
  obtain ⟨t, ht⟩ := o.last
  have hst := o.all w hs _ _ ht
  have e1 : subX (.loc Y) (.int (-1)) Z = .ok (encR t) := at_neg (n := ds.length) (by rw [List.length_map, o.len]) (by rw [List.getElem?_map, ht]; rfl) gY
  have k1 : evS F r1 [some (.loc a), some (encN N), x2, x3, some (.loc X), some (.loc Y), some (.int (i : Nat)), x7, x8, x9, x10, x11] Z = .ok (.nx [some (.loc a), some (encN N), x2, x3, some (.loc X), some (.loc Y), some (.int (i : Nat)), some (encR t), x8, x9, x10, x11] Z) := by
    generalize encN N = EN
    generalize encR t = RT at e1 ⊢
    have u1 : unaD .USub (.int 1) = .ok (.int (-1)) := rfl
    simp [r1, e1, u1, -subX_loc]
  obtain ⟨⟨d2, Z2⟩, e2, hd2, st2⟩ := T.dn a b N t Z dk w hst
  simp only at hd2 st2
  have k2 : evS F r2 [some (.loc a), some (encN N), x2, x3, some (.loc X), some (.loc Y), some (.int (i : Nat)), some (encR t), x8, x9, x10, x11] Z = .ok (.nx [some (.loc a), some (encN N), x2, x3, some (.loc X), some (.loc Y), some (.int (i : Nat)), some (encR t), some d2, x9, x10, x11] Z2) := by
    generalize encN N = EN at e2 ⊢
    generalize encR t = RT at e2 ⊢
    simp [r2, e2]
  have start : ∀ f, evSs F [r3, r4, r5, r6, r7] [some (.loc a), some (encN N), x2, x3, some (.loc X), some (.loc Y), some (.int (i : Nat)), some (encR t), some d2, x9, x10, x11] Z2 = .ok f → evSs F b_row [some (.loc a), some (encN N), x2, x3, some (.loc X), some (.loc Y), some (.int (i : Nat)), x7, x8, x9, x10, x11] Z = .ok f := fun f hf => by
    unfold b_row
    rw [evSs_cons, k1, bi_ok]
    show evSs F _ _ Z = _
    rw [evSs_cons, k2, bi_ok]
    exact hf
  rcases hd2 with rfl | ⟨x, rfl, okx, hc⟩
  · have e : evSs F [r3, r4, r5, r6, r7] [some (.loc a), some (encN N), x2, x3, some (.loc X), some (.loc Y), some (.int (i : Nat)), some (encR t), some .non, x9, x10, x11] Z2 = .ok (.rt (.tup [.loc X, .loc Y]) Z2) := by
      generalize encN N = EN
      generalize encR t = RT
      have : cmpD .Is .non .non Z2 = .ok true := rfl
      rw [evSs_cons]
      simp [r3, this]
    rw [start _ e, Rs_ok]
    exact .inl ⟨Z2, rfl, st2⟩
  · have gX2 : Z2[X]? = some (.lst (ds.map encDd)) := (st2.fr _ (lt_of_at gX) hXa hXb).trans gX
    have gY2 : Z2[Y]? = some (.lst (ss.map encR)) := (st2.fr _ (lt_of_at gY) hYa hYb).trans gY
    have q3 := is_Dd x Z2
    have k3 : evS F r3 [some (.loc a), some (encN N), x2, x3, some (.loc X), some (.loc Y), some (.int (i : Nat)), some (encR t), some (encDd x), x9, x10, x11] Z2 = .ok (.nx [some (.loc a), some (encN N), x2, x3, some (.loc X), some (.loc Y), some (.int (i : Nat)), some (encR t), some (encDd x), x9, x10, x11] Z2) := by
      generalize encN N = EN
      generalize encR t = RT
      generalize encDd x = DX at q3 ⊢
      simp [r3, q3]
    have e4 := T.bh N t x Z2 w hst okx hc
    have k4 : evS F r4 [some (.loc a), some (encN N), x2, x3, some (.loc X), some (.loc Y), some (.int (i : Nat)), some (encR t), some (encDd x), x9, x10, x11] Z2 = .ok (.nx [some (.loc a), some (encN N), x2, x3, some (.loc X), some (.loc Y), some (.int (i : Nat)), some (encR t), some (encDd x), some (encR (doDd t x)), x10, x11] Z2) := by
      generalize encN N = EN
      generalize encR (doDd t x) = RB at e4 ⊢
      generalize encR t = RT at e4 ⊢
      generalize encDd x = DX at e4 ⊢
      simp [r4, e4]
    obtain ⟨W, hW⟩ := rp_ans w hst okx
    have hA : ansE N t x = [.str (Str.ofString "told"), encR (doDd t x)] := by unfold ansE; rw [if_pos hc]
    obtain ⟨Z3, hZ3⟩ : ∃ Z3, Z3 = Z2 ++ [Cell.lst (ansE N t x)] := ⟨_, rfl⟩
    obtain ⟨Z4, hZ4⟩ : ∃ Z4, Z4 = Z3 ++ [Cell.lst (ansE N t x)] := ⟨_, rfl⟩
    have w3 := hW Z3 Z2.length (by rw [hZ3]; exact at_last)
    have w4 := hW Z4 Z3.length (by rw [hZ4]; exact at_last)
    have k5 : evS F r5 [some (.loc a), some (encN N), x2, x3, some (.loc X), some (.loc Y), some (.int (i : Nat)), some (encR t), some (encDd x), some (encR (doDd t x)), x10, x11] Z2 = .ok (.nx [some (.loc a), some (encN N), x2, x3, some (.loc X), some (.loc Y), some (.int (i : Nat)), some (encR t), some (encDd x), some (encR (doDd t x)), x10, x11] Z4) := by
      have e5 := T.hd N t x ((i : Int) % 5 == 1) Z2 w hst okx
      rw [← hZ3] at e5
      rw [hA] at hZ4
      unfold r5
      generalize Str.ofString "told" = TT at hZ4 ⊢
      generalize encN N = EN at e5 ⊢
      generalize encR (doDd t x) = RB at hZ4 ⊢
      generalize encR t = RT at e5 ⊢
      generalize encDd x = DX at e5 ⊢
      simp [e5, w3, ← hZ4, w4]
    have st4 : Stp a b Z Z4 := by rw [hZ4, hZ3]; exact (st2.app _).app _
    have l4 : Z.length ≤ Z4.length := st4.len
    have gX4 : Z4[X]? = some (.lst (ds.map encDd)) := (st4.fr _ (lt_of_at gX) hXa hXb).trans gX
    have gY4 : Z4[Y]? = some (.lst (ss.map encR)) := (st4.fr _ (lt_of_at gY) hYa hYb).trans gY
    have L6 : ∃ (y10 y11 : Option D) (Z5 : Sto), evS F r6 [some (.loc a), some (encN N), x2, x3, some (.loc X), some (.loc Y), some (.int (i : Nat)), some (encR t), some (encDd x), some (encR (doDd t x)), x10, x11] Z4 = .ok (.nx [some (.loc a), some (encN N), x2, x3, some (.loc X), some (.loc Y), some (.int (i : Nat)), some (encR t), some (encDd x), some (encR (doDd t x)), y10, y11] Z5) ∧ Stp a b Z4 Z5 := by
      by_cases hz : ((i : Int) % 4 == 0) = true
      · obtain ⟨T1, n, e1, hn, g1⟩ := T.al N Z4 w
        obtain ⟨Z5, hZ5⟩ : ∃ Z5, Z5 = Z4 ++ T1 := ⟨_, rfl⟩
        rw [← hZ5] at e1 g1
        have st5 : Stp a b Z4 Z5 := by rw [hZ5]; exact (Stp.self st4.dk).app _
        rw [← allDd_enc] at g1
        have hal4 := allDd_len w
        obtain ⟨⟨d6, Z6⟩, e6, hd6, st6, _⟩ := T.pk a b Z5 (.loc n) ((allDd N).map encDd) st5.dk (Keeps.loc g1 (by omega) (by omega)) (fun z => by
          have h0 := List.map_eq_nil_iff.mp z
          have := allDd_mem okx
          rw [h0] at this; cases this) (by rw [List.length_map]; omega) (fun y hy => by
          obtain ⟨x, _, rfl⟩ := List.mem_map.mp hy
          exact und_Dd x _)
        obtain ⟨z, hz6, rfl⟩ := List.mem_map.mp hd6
        have okz := allDd_ok hz6
        have m1 : evS F r61 [some (.loc a), some (encN N), x2, x3, some (.loc X), some (.loc Y), some (.int (i : Nat)), some (encR t), some (encDd x), some (encR (doDd t x)), x10, x11] Z4 = .ok (.nx [some (.loc a), some (encN N), x2, x3, some (.loc X), some (.loc Y), some (.int (i : Nat)), some (encR t), some (encDd x), some (encR (doDd t x)), some (encDd z), x11] Z6) := by
          generalize encN N = EN at e1 ⊢
          generalize encR (doDd t x) = RB
          generalize encR t = RT
          generalize encDd x = DX
          generalize encDd z = DZ at e6 ⊢
          simp [r61, e1, e6]
        have ec := T.cn N t z Z6 w hst okz
        obtain ⟨Wz, hWz⟩ := rp_ans w hst okz
        obtain ⟨Z7, hZ7⟩ : ∃ Z7, Z7 = Z6 ++ [Cell.lst (ansE N t z)] := ⟨_, rfl⟩
        have m2 : evS F r62 [some (.loc a), some (encN N), x2, x3, some (.loc X), some (.loc Y), some (.int (i : Nat)), some (encR t), some (encDd x), some (encR (doDd t x)), some (encDd z), x11] Z6 = .ok (.nx [some (.loc a), some (encN N), x2, x3, some (.loc X), some (.loc Y), some (.int (i : Nat)), some (encR t), some (encDd x), some (encR (doDd t x)), some (encDd z), some (.loc Z6.length)] Z7) := by
          rw [hZ7]
          unfold ansE r62
          generalize Str.ofString "told" = TT
          generalize Str.ofString "refused" = TR
          cases hcz : canDd N t z with
          | true =>
            have eb := T.bh N t z Z6 w hst okz hcz
            rw [hcz] at ec
            rw [if_pos rfl]
            generalize encR (doDd t z) = RZ at eb ⊢
            generalize encR (doDd t x) = RB
            generalize encN N = EN at ec ⊢
            generalize encR t = RT at ec eb ⊢
            generalize encDd x = DX
            generalize encDd z = DZ at ec eb ⊢
            simp [ec, eb]
          | false =>
            rw [hcz] at ec
            rw [if_neg Bool.false_ne_true]
            generalize encR (doDd t x) = RB
            generalize encN N = EN at ec ⊢
            generalize encR t = RT at ec ⊢
            generalize encDd x = DX
            generalize encDd z = DZ at ec ⊢
            simp [ec]
        have e8 := T.hd N t z false Z7 w hst okz
        have w7 := hWz (Z7 ++ [.lst (ansE N t z)]) Z6.length (by rw [hZ7]; exact at_app at_last _)
        have w8 := hWz (Z7 ++ [.lst (ansE N t z)]) Z7.length at_last
        have m3 : evS F r63 [some (.loc a), some (encN N), x2, x3, some (.loc X), some (.loc Y), some (.int (i : Nat)), some (encR t), some (encDd x), some (encR (doDd t x)), some (encDd z), some (.loc Z6.length)] Z7 = .ok (.nx [some (.loc a), some (encN N), x2, x3, some (.loc X), some (.loc Y), some (.int (i : Nat)), some (encR t), some (encDd x), some (encR (doDd t x)), some (encDd z), some (.loc Z6.length)] (Z7 ++ [.lst (ansE N t z)])) := by
          generalize ansE N t z = AZ at e8 w7 w8 ⊢
          generalize encR (doDd t x) = RB
          generalize encN N = EN at e8 ⊢
          generalize encR t = RT at e8 ⊢
          generalize encDd x = DX
          generalize encDd z = DZ at e8 ⊢
          simp [r63, e8, w7, w8]
        refine ⟨some (encDd z), some (.loc Z6.length), Z7 ++ [.lst (ansE N t z)], ?_, ?_⟩
        · have et : evT F (.cmp .Eq (.bin .Mod (.var 6) (.cst (.int 4))) (.cst (.int 0))) [some (.loc a), some (encN N), x2, x3, some (.loc X), some (.loc Y), some (.int (i : Nat)), some (encR t), some (encDd x), some (encR (doDd t x)), x10, x11] Z4 = .ok (true, Z4) := by
            generalize encR (doDd t x) = RB
            generalize encN N = EN
            generalize encR t = RT
            generalize encDd x = DX
            simp
            simpa using hz
          unfold r6
          rw [evS_iff, et, bi_ok, if_pos rfl, evSs_cons, m1, bi_ok]
          show evSs F _ _ Z6 = _
          rw [evSs_cons, m2, bi_ok]
          show evSs F _ _ Z7 = _
          rw [evSs_cons, m3, bi_ok]
          rfl
        · rw [hZ7]
          exact ((st5.trans st6).app _).app _
      · refine ⟨x10, x11, Z4, ?_, Stp.self st4.dk⟩
        have et : evT F (.cmp .Eq (.bin .Mod (.var 6) (.cst (.int 4))) (.cst (.int 0))) [some (.loc a), some (encN N), x2, x3, some (.loc X), some (.loc Y), some (.int (i : Nat)), some (encR t), some (encDd x), some (encR (doDd t x)), x10, x11] Z4 = .ok (false, Z4) := by
          generalize encR (doDd t x) = RB
          generalize encN N = EN
          generalize encR t = RT
          generalize encDd x = DX
          simp
          simpa using hz
        unfold r6
        rw [evS_iff, et, bi_ok, if_neg Bool.false_ne_true]
        rfl
    obtain ⟨y10, y11, Z5, k6, st5⟩ := L6
    have gX5 : Z5[X]? = some (.lst (ds.map encDd)) := (st5.fr _ (lt_of_at gX4) hXa hXb).trans gX4
    have gY5 : Z5[Y]? = some (.lst (ss.map encR)) := (st5.fr _ (lt_of_at gY4) hYa hYb).trans gY4
    have lX5 := lt_of_at gX5
    have lY5 := lt_of_at gY5
    have l5 := st5.len
    obtain ⟨Z9, hZ9⟩ : ∃ Z9, Z9 = Z5 ++ [Cell.lst [encDd x], .lst ((ds ++ [x]).map encDd), .lst [encR (doDd t x)], .lst ((ss ++ [doDd t x]).map encR)] := ⟨_, rfl⟩
    have k7 : evS F r7 [some (.loc a), some (encN N), x2, x3, some (.loc X), some (.loc Y), some (.int (i : Nat)), some (encR t), some (encDd x), some (encR (doDd t x)), y10, y11] Z5 = .ok (.nx [some (.loc a), some (encN N), x2, x3, some (.loc (Z5.length + 1)), some (.loc (Z5.length + 3)), some (.int (i : Nat)), some (encR t), some (encDd x), some (encR (doDd t x)), y10, y11] Z9) := by
      have n1 : (ds.map encDd).length ≤ 16777215 := by rw [List.length_map]; omega
      have n2 : (ss.map encR).length ≤ 16777215 := by rw [List.length_map, o.len]; omega
      have gX6 := at_app gX5 [Cell.lst [encDd x]]
      have gY6 := at_app gY5 [Cell.lst [encDd x], .lst (ds.map encDd ++ [encDd x]), .lst [encR (doDd t x)]]
      rw [hZ9, List.map_append, List.map_append]
      show _ = R.ok (Fl.nx _ (Z5 ++ [Cell.lst [encDd x], .lst (ds.map encDd ++ [encDd x]), .lst [encR (doDd t x)], .lst (ss.map encR ++ [encR (doDd t x)])]))
      generalize encR (doDd t x) = RB at gY6 ⊢
      generalize encN N = EN
      generalize encR t = RT
      generalize encDd x = DX at gX6 gY6 ⊢
      generalize ds.map encDd = P at gX6 gY6 n1 ⊢
      generalize ss.map encR = Q at gY6 n2 ⊢
      try simp only [List.append_assoc, List.cons_append, List.nil_append] at gX6 gY6
      simp [r7, gX6, gY6, n1, n2]
    have e9 : evSs F b_row [some (.loc a), some (encN N), x2, x3, some (.loc X), some (.loc Y), some (.int (i : Nat)), x7, x8, x9, x10, x11] Z = .ok (.nx [some (.loc a), some (encN N), x2, x3, some (.loc (Z5.length + 1)), some (.loc (Z5.length + 3)), some (.int (i : Nat)), some (encR t), some (encDd x), some (encR (doDd t x)), y10, y11] Z9) := by
      refine start _ ?_
      rw [evSs_cons, k3, bi_ok]
      show evSs F _ _ Z2 = _
      rw [evSs_cons, k4, bi_ok]
      show evSs F _ _ Z2 = _
      rw [evSs_cons, k5, bi_ok]
      show evSs F _ _ Z4 = _
      rw [evSs_cons, k6, bi_ok]
      show evSs F _ _ Z5 = _
      rw [evSs_cons, k7, bi_ok]
      rfl
    rw [e9, Rs_ok]
    refine .inr ⟨some (encR t), some (encDd x), some (encR (doDd t x)), y10, y11, ds ++ [x], ss ++ [doDd t x], Z5.length + 1, Z5.length + 3, Z9, rfl, ?_, ?_, ?_, o.more w hs ht okx hc, by simp, by omega, by omega⟩
    · rw [hZ9]
      exact (st4.trans st5).app _
    · rw [hZ9, List.getElem?_append_right (by omega), show Z5.length + 1 - Z5.length = 1 by omega]; rfl
    · rw [hZ9, List.getElem?_append_right (by omega), show Z5.length + 3 - Z5.length = 3 by omega]; rfl
def RowC (f : List D → Sto → R (D × Sto)) : Prop := ∀ (a b m : Nat) (N : Net) (s : List (List Nat)) (S : Sto), DeckAt S a b → N.WF → Stand N s → m ≤ 1000 → Rs (f [.loc a, encN N, encR s, .int (m : Nat)] S) fun p => ∃ (X Y : Nat) (ds : List Dd) (ss : List (List (List Nat))), p.1 = .tup [.loc X, .loc Y] ∧ p.2[X]? = some (.lst (ds.map encDd)) ∧ p.2[Y]? = some (.lst (ss.map encR)) ∧ RowOk N s ds ss ∧ ds.length ≤ m ∧ S.length ≤ X ∧ S.length ≤ Y ∧ Stp a b S p.2
theorem row_ok (T : RTells F) : RowC (runFn F ⟨4, 12, p_row⟩) := by
  intro a b m N s S hS w hs hm
  refine runFn_by rfl ?_
  have la := hS.la
  have lb := hS.lb
  show Rs (evSs F p_row [some (.loc a), some (encN N), some (encR s), some (.int (m : Nat)), none, none, none, none, none, none, none, none] S) _
  obtain ⟨Z0, hZ0⟩ : ∃ Z0, Z0 = S ++ [Cell.lst [], .lst [encR s]] := ⟨_, rfl⟩
  have k0 : evS F (.par 4 5 (.lst []) (.lst [(.var 2)])) [some (.loc a), some (encN N), some (encR s), some (.int (m : Nat)), none, none, none, none, none, none, none, none] S = .ok (.nx [some (.loc a), some (encN N), some (encR s), some (.int (m : Nat)), some (.loc S.length), some (.loc (S.length + 1)), none, none, none, none, none, none] Z0) := by
    rw [hZ0]
    generalize encN N = EN
    generalize encR s = RS
    simp
  have st0 : Stp a b S Z0 := by rw [hZ0]; exact (Stp.self hS).app _
  have g0 : Z0[S.length]? = some (.lst (([] : List Dd).map encDd)) := by
    rw [hZ0, List.getElem?_append_right (Nat.le_refl _), Nat.sub_self]; rfl
  have g1 : Z0[S.length + 1]? = some (.lst ([s].map encR)) := by
    rw [hZ0, List.getElem?_append_right (by omega), show S.length + 1 - S.length = 1 by omega]; rfl
  have L : Rs (frGo .no (.nm 6) (evSs F b_row) ((List.range m).map encI) [some (.loc a), some (encN N), some (encR s), some (.int (m : Nat)), some (.loc S.length), some (.loc (S.length + 1)), none, none, none, none, none, none] Z0) fun f =>
      ∃ (X Y : Nat) (ds : List Dd) (ss : List (List (List Nat))) (Z : Sto), (f = .rt (.tup [.loc X, .loc Y]) Z ∨ ∃ (y6 y7 y8 y9 y10 y11 : Option D), f = .nx [some (.loc a), some (encN N), some (encR s), some (.int (m : Nat)), some (.loc X), some (.loc Y), y6, y7, y8, y9, y10, y11] Z) ∧ Z[X]? = some (.lst (ds.map encDd)) ∧ Z[Y]? = some (.lst (ss.map encR)) ∧ RowOk N s ds ss ∧ ds.length ≤ m ∧ S.length ≤ X ∧ S.length ≤ Y ∧ Stp a b S Z := by
    refine frGo_by (g := .no) (fun i r Z => ∃ (X Y : Nat) (ds : List Dd) (ss : List (List (List Nat))) (y6 y7 y8 y9 y10 y11 : Option D), r = [some (.loc a), some (encN N), some (encR s), some (.int (m : Nat)), some (.loc X), some (.loc Y), y6, y7, y8, y9, y10, y11] ∧ Z[X]? = some (.lst (ds.map encDd)) ∧ Z[Y]? = some (.lst (ss.map encR)) ∧ RowOk N s ds ss ∧ ds.length = i ∧ S.length ≤ X ∧ S.length ≤ Y ∧ Stp a b S Z)
      ⟨_, _, [], [s], _, _, _, _, _, _, rfl, g0, g1, RowOk.one, rfl, Nat.le_refl _, by omega, st0⟩ (fun _ _ _ _ _ => trivial) ?_ ?_
    · rintro i dd r Z hi ⟨X, Y, ds, ss, y6, y7, y8, y9, y10, y11, rfl, gX, gY, o, hl, hX, hY, st⟩
      obtain ⟨him, rfl⟩ := range_at hi
      refine ⟨[some (.loc a), some (encN N), some (encR s), some (.int (m : Nat)), some (.loc X), some (.loc Y), some (.int (i : Nat)), y7, y8, y9, y10, y11], by simp, ?_⟩
      obtain ⟨f, e, h⟩ := row_step T st.dk w hs o i gX gY (by omega) (by omega) (by omega) (by omega) (by omega) (some (encR s)) (some (.int (m : Nat))) y7 y8 y9 y10 y11
      rw [e, Rs_ok]
      rcases h with ⟨Z', rfl, st'⟩ | ⟨z7, z8, z9, z10, z11, ds', ss', X', Y', Z', rfl, st', gX', gY', o', hl', hX', hY'⟩
      · have q1 := (st'.fr _ (lt_of_at gX) (by omega) (by omega)).trans gX
        have q2 := (st'.fr _ (lt_of_at gY) (by omega) (by omega)).trans gY
        exact ⟨X, Y, ds, ss, Z', .inl rfl, q1, q2, o, by omega, hX, hY, st.trans st'⟩
      · have := st.len
        exact ⟨X', Y', ds', ss', _, _, _, _, _, _, rfl, gX', gY', o', by omega, by omega, by omega, st.trans st'⟩
    · rintro r Z ⟨X, Y, ds, ss, y6, y7, y8, y9, y10, y11, rfl, gX, gY, o, hl, hX, hY, st⟩
      rw [List.length_map, List.length_range] at hl
      exact ⟨X, Y, ds, ss, Z, .inr ⟨_, _, _, _, _, _, rfl⟩, gX, gY, o, by omega, hX, hY, st⟩
  obtain ⟨f, ef, X, Y, ds, ss, Z, hf, gX, gY, o, hl, hX, hY, st⟩ := L
  have hr := srcD_rng m (show m ≤ 16777216 by omega) Z0
  have kf : evS F (.fr (.nm 6) .rng1 [(.var 3)] b_row) [some (.loc a), some (encN N), some (encR s), some (.int (m : Nat)), some (.loc S.length), some (.loc (S.length + 1)), none, none, none, none, none, none] Z0 = .ok f := by
    generalize b_row = bb at ef ⊢
    generalize (List.range m).map encI = P at ef hr
    generalize encN N = EN at *
    generalize encR s = RS at *
    simp only [evS_fr, evL_cons, evL_nil, ev_var, List.getElem?_cons_succ, List.getElem?_cons_zero, opt_some, bi_ok, hr, ef]
  have stp : evSs F p_row [some (.loc a), some (encN N), some (encR s), some (.int (m : Nat)), none, none, none, none, none, none, none, none] S = .ok (.rt (.tup [.loc X, .loc Y]) Z) := by
    unfold p_row
    rw [evSs_cons, k0, bi_ok]
    show evSs F _ _ Z0 = _
    rw [evSs_cons, kf, bi_ok]
    rcases hf with rfl | ⟨y6, y7, y8, y9, y10, y11, rfl⟩
    · rfl
    · show evSs F _ _ Z = _
      generalize encN N = EN
      generalize encR s = RS
      simp
  rw [stp, Rs_ok]
  have tn : trim S Z (.tup [.loc X, .loc Y]) = Z := trim_no (by simp [D.und, D.undL]; omega)
  simp only [tn]
  exact ⟨X, Y, ds, ss, rfl, gX, gY, o, hl, hX, hY, st⟩
end
end Lng
end Ev
set_option autoImplicit false
set_option linter.all false
namespace Ev
open PySem
namespace Lng
open K11m K09m
def nxR (h u : Nat) : Nat := (u + 1) % h
theorem nxR_ok {h u : Nat} (h2 : 2 ≤ h) (hu : u < h) : nxR h u < h ∧ nxR h u ≠ u := by
  unfold nxR
  refine ⟨Nat.mod_lt _ (by omega), ?_⟩
  by_cases z : u + 1 < h
  · rw [Nat.mod_eq_of_lt z]; omega
  · rw [show u + 1 = h by omega, Nat.mod_self]; omega
def entR (h u d : Nat) : List Nat := if d = nxR h u then [u] else []
def ringU (h : Nat) : Net := ⟨h, (List.range h).map fun u => (u, nxR h u, 1), (List.range h).map fun u => (List.range h).map fun d => entR h u d⟩
section
variable {h : Nat}
theorem ring_lane {k : Nat} (hk : k < h) : (ringU h).lane k = (k, nxR h k, 1) := by
  unfold Net.lane ringU
  simp only
  rw [List.getD_eq_getElem?_getD, List.getElem?_map, List.getElem?_range hk]; rfl
theorem ring_len : (ringU h).lanes.length = h := by unfold ringU; simp
theorem ring_ent (u d : Nat) : (ringU h).ent u d = if u < h ∧ d < h then entR h u d else [] := by
  unfold Net.ent Net.row ringU
  simp only
  rw [List.getD_eq_getElem?_getD (l := (List.range h).map _), List.getElem?_map]
  by_cases hu : u < h
  · rw [List.getElem?_range hu]
    simp only [Option.map_some, Option.getD_some]
    rw [List.getD_eq_getElem?_getD, List.getElem?_map]
    by_cases hd : d < h
    · rw [List.getElem?_range hd, if_pos ⟨hu, hd⟩]; rfl
    · rw [List.getElem?_eq_none (by simp; omega), if_neg (fun z => hd z.2)]; rfl
  · rw [List.getElem?_eq_none (by simp; omega), if_neg (fun z => hu z.1)]; rfl
theorem ring_in {u d k : Nat} (hk : k ∈ (ringU h).ent u d) : k = u ∧ u < h ∧ d < h ∧ d = nxR h u := by
  rw [ring_ent] at hk
  split at hk
  · rename_i hh
    unfold entR at hk
    split at hk
    · rename_i hd
      exact ⟨List.mem_singleton.mp hk, hh.1, hh.2, hd⟩
    · cases hk
  · cases hk
theorem ring_wf (h2 : 2 ≤ h) (h6 : h ≤ 6) : (ringU h).WF where
  h1 := by show 1 ≤ h; omega
  h6 := h6
  l16 := by rw [ring_len]; omega
  ln := fun k hk => by
    rw [ring_len] at hk
    have e := ring_lane hk
    have q := nxR_ok h2 hk
    have e1 : (ringU h).st k = k := by unfold Net.st; rw [e]
    have e2 : (ringU h).en k = nxR h k := by unfold Net.en; rw [e]
    have e3 : (ringU h).rm k = 1 := by unfold Net.rm; rw [e]
    rw [e1, e2, e3]
    exact ⟨hk, q.1, fun z => q.2 z.symm, Nat.le_refl _, by omega⟩
  tl := by
    show ((List.range h).map _).length = h
    simp
  rl := fun u hu => by
    have hu : u < h := hu
    unfold Net.row ringU
    simp only
    rw [List.getD_eq_getElem?_getD, List.getElem?_map, List.getElem?_range hu]
    simp
  as := fun u d => by
    rw [ring_ent]
    split
    · unfold entR
      split
      · exact List.pairwise_singleton ..
      · exact .nil
    · exact .nil
  es := fun u d k hk => by
    obtain ⟨rfl, hu, _, _⟩ := ring_in hk
    refine ⟨by rw [ring_len]; exact hu, ?_⟩
    unfold Net.st
    rw [ring_lane hu]
  dg := fun u => by
    rw [List.eq_nil_iff_forall_not_mem]
    intro k hk
    obtain ⟨_, hu, _, hd⟩ := ring_in hk
    exact (nxR_ok h2 hu).2 hd.symm
def s0 (h : Nat) : List (List Nat) := List.replicate h []
theorem s0_own (k : Nat) : own (s0 h) k = [] := by
  unfold own s0
  rw [List.getD_eq_getElem?_getD, List.getElem?_replicate]
  split <;> rfl
theorem s0_stand : Stand (ringU h) (s0 h) := ⟨by rw [ring_len]; unfold s0; simp, fun k hk => by rw [s0_own]; exact ⟨by simp, fun a ha => by cases ha⟩⟩
theorem same_own {s t : List (List Nat)} (hl : s.length = t.length) (ho : ∀ k, own s k = own t k) : s = t := by
  refine List.ext_getElem? fun k => ?_
  by_cases hk : k < s.length
  · have := ho k
    unfold own at this
    rw [List.getD_eq_getElem?_getD, List.getD_eq_getElem?_getD, List.getElem?_eq_getElem hk, List.getElem?_eq_getElem (by omega)] at this
    rw [List.getElem?_eq_getElem hk, List.getElem?_eq_getElem (by omega)]
    exact congrArg some this
  · rw [List.getElem?_eq_none (by omega), List.getElem?_eq_none (by omega)]
def dInR (h k : Nat) : Dd := .i k (nxR h k)
theorem in_can {k : Nat} (hk : k < h) (h2 : 2 ≤ h) : canDd (ringU h) (s0 h) (dInR h k) = true := by
  have q := nxR_ok h2 hk
  have e := ring_lane hk
  have e1 : (ringU h).st k = k := by unfold Net.st; rw [e]
  have e3 : (ringU h).rm k = 1 := by unfold Net.rm; rw [e]
  show (decide (k ∈ (ringU h).ent ((ringU h).st k) (nxR h k)) && decide ((own (s0 h) k).length < (ringU h).rm k)) = true
  rw [e1, ring_ent, if_pos ⟨hk, q.1⟩, s0_own, e3]
  unfold entR
  rw [if_pos rfl]
  simp
def s1 (h k : Nat) : List (List Nat) := putL (s0 h) k [nxR h k]
theorem in_do {k : Nat} : doDd (s0 h) (dInR h k) = s1 h k := by
  unfold dInR s1
  show putL (s0 h) k (own (s0 h) k ++ [nxR h k]) = _
  rw [s0_own]; rfl
theorem s1_own {k : Nat} (hk : k < h) : own (s1 h k) k = [nxR h k] := by
  unfold s1
  rw [putL_own (by unfold s0; simp; exact hk), if_pos rfl]
theorem s1_ne {k : Nat} (hk : k < h) : s1 h k ≠ s0 h := fun z => by
  have := s1_own hk
  rw [z, s0_own] at this
  cases this
theorem out_can {k : Nat} (hk : k < h) : canDd (ringU h) (s1 h k) (.u k) = true := by
  have e := ring_lane hk
  have e2 : (ringU h).en k = nxR h k := by unfold Net.en; rw [e]
  show (match own (s1 h k) k with
    | [] => false
    | a :: _ => decide ((ringU h).en k = a)) = true
  rw [s1_own hk, e2]
  simp
theorem out_do {k : Nat} (hk : k < h) : doDd (s1 h k) (.u k) = s0 h := by
  have l0 : (s0 h).length = h := by unfold s0; simp
  have l1 : (s1 h k).length = h := by unfold s1; rw [putL_len (by omega)]; exact l0
  show putL (s1 h k) k ((own (s1 h k) k).drop 1) = _
  refine same_own (by rw [putL_len (by omega), l1, l0]) fun j => ?_
  rw [putL_own (by omega), s1_own hk, s0_own]
  split
  · rfl
  · rename_i hj
    unfold s1
    rw [putL_own (by omega), if_neg hj, s0_own]
theorem out_not {k : Nat} : canDd (ringU h) (s0 h) (.u k) = false := by
  show (match own (s0 h) k with
    | [] => false
    | a :: _ => decide ((ringU h).en k = a)) = false
  rw [s0_own]
theorem try_app {N : Net} : ∀ (xs ys : List Dd) (s t : List (List Nat)), tryD N s xs = .ok t → tryD N s (xs ++ ys) = tryD N t ys
  | [], ys, s, t, e => by
    cases e; rfl
  | x :: xs, ys, s, t, e => by
    rw [List.cons_append, tryD]
    rw [tryD] at e
    by_cases c : canDd N s x = true
    · rw [if_pos c] at e ⊢
      exact try_app xs ys _ t e
    · rw [if_neg c] at e; cases e
def twoR (h k : Nat) : List Dd := [dInR h k, .u k]
def rowR (h k n : Nat) : List Dd := (List.replicate n (twoR h k)).flatten
theorem two_try {k : Nat} (hk : k < h) (h2 : 2 ≤ h) : tryD (ringU h) (s0 h) (twoR h k) = .ok (s0 h) := by
  unfold twoR
  rw [tryD, if_pos (in_can hk h2), in_do, tryD, if_pos (out_can hk), out_do hk]; rfl
theorem row_try {k : Nat} (hk : k < h) (h2 : 2 ≤ h) : ∀ n, tryD (ringU h) (s0 h) (rowR h k n) = .ok (s0 h)
  | 0 => rfl
  | n + 1 => by
    unfold rowR
    rw [List.replicate_succ, List.flatten_cons, try_app _ _ _ _ (two_try hk h2)]
    exact row_try hk h2 n
theorem row_len (k n : Nat) : (rowR h k n).length = 2 * n := by
  unfold rowR
  rw [List.length_flatten, List.map_replicate, List.sum_replicate_nat]
  show n * 2 = 2 * n
  omega
theorem row_split (k i j : Nat) : rowR h k (i + j) = rowR h k i ++ rowR h k j := by
  unfold rowR
  rw [← List.replicate_append_replicate, List.flatten_append]
theorem row_take {k i n : Nat} (hi : i ≤ n) : (rowR h k n).take (2 * i) = rowR h k i := by
  obtain ⟨j, rfl⟩ : ∃ j, n = i + j := ⟨n - i, by omega⟩
  rw [row_split, List.take_append_of_le_length (by rw [row_len]; omega), List.take_of_length_le (by rw [row_len]; omega)]
theorem row_ok1 {k n : Nat} (hk : k < h) (h2 : 2 ≤ h) : ∀ x, x ∈ rowR h k n → okDd (ringU h) x := by
  intro x hx
  unfold rowR at hx
  obtain ⟨l, hl, hx⟩ := List.mem_flatten.mp hx
  rw [(List.mem_replicate.mp hl).2] at hx
  have hkl : k < (ringU h).lanes.length := by rw [ring_len]; exact hk
  rcases List.mem_cons.mp hx with rfl | hx
  · exact ⟨hkl, (nxR_ok h2 hk).1⟩
  · rw [List.mem_singleton.mp hx]
    exact hkl
theorem take_399 (k : Nat) : (rowR h k 200).take 399 = rowR h k 199 ++ [dInR h k] := by
  rw [show (200 : Nat) = 199 + 1 by omega, row_split, List.take_append, List.take_of_length_le (by rw [row_len]; omega), row_len]
  rfl
theorem try_399 {k : Nat} (hk : k < h) (h2 : 2 ≤ h) : tryD (ringU h) (s0 h) ((rowR h k 200).take 399) = .ok (s1 h k) := by
  rw [take_399, try_app _ _ _ _ (row_try hk h2 199), tryD, if_pos (in_can hk h2), in_do]; rfl
theorem try_bad {k j : Nat} (hk : k < h) (h2 : 2 ≤ h) (hj : j ≤ 200) (ys : List Dd) : tryD (ringU h) (s0 h) ((rowR h k 200).take (2 * j) ++ [.u k] ++ ys) = .error (.u k) := by
  rw [row_take hj, List.append_assoc, try_app _ _ _ _ (row_try hk h2 j), List.singleton_append, tryD, out_not]
  rfl
end
end Lng
end Ev
set_option autoImplicit false
set_option linter.all false
namespace Ev
open PySem
namespace Lng
open K11m K09m
theorem eqv_EL (e e' : List Nat) : PyData.eqv (py (encE e)) (py (encE e')) = decide (e = e') := by
  simp only [encE, py, PyData.eqv]
  rw [eqv_ints]
theorem eqv_RL : ∀ r r' : List (List Nat), PyData.eqvAll (pyL (r.map encE)) (pyL (r'.map encE)) = decide (r = r')
  | [], [] => rfl
  | [], _ :: _ => rfl
  | _ :: _, [] => rfl
  | x :: e, y :: e' => by
    simp only [List.map_cons, pyL, PyData.eqvAll, eqv_RL e e', eqv_EL]
    by_cases h : x = y
    · subst h; simp
    · simp [h]
theorem cl_RL {n : Nat} (s : List (List Nat)) : Cl (n + 3) (encR s) := fun x hx => by
  obtain ⟨y, _, rfl⟩ := List.mem_map.mp hx
  exact cl_E y
theorem eq_RL (r r' : List (List Nat)) (S : Sto) : eqD (encR r) (encR r') S = .ok (decide (r = r')) := by
  rw [eq_cl (n := 3) (cl_RL r) (cl_RL r') (by omega)]
  simp only [encR, py, PyData.eqv]
  rw [eqv_RL]
theorem mod_nx (h u : Nat) : ((u : Int) + 1) % (h : Int) = ((nxR h u : Nat) : Int) := by
  unfold nxR
  have := Int.natCast_emod (u + 1) h
  simpa using this.symm
def l1c : St := .asg (.nm 1) (.bin .Add (.cst (.int 2)) (.call 10 [(.var 0), (.cst (.int 3))]))
def x_l2 : C := .lc (.tup [(.var 10), (.bin .Mod (.blt .int [(.bin .Add (.var 10) (.cst (.int 1)))]) (.var 1)), (.cst (.int 1))]) [10] (.nm 10) .rng1 [(.var 1)] (.cst (.bl true))
def l2c : St := .asg (.nm 2) (.blt .tuple [x_l2])
def x_l31 : C := .lc (.ife (.cmp .Eq (.var 12) (.bin .Mod (.blt .int [(.bin .Add (.var 10) (.cst (.int 1)))]) (.var 1))) (.tup [(.var 10)]) (.tup [])) [12] (.nm 12) .rng1 [(.var 1)] (.cst (.bl true))
def x_l3 : C := .lc (.blt .tuple [x_l31]) [10] (.nm 10) .rng1 [(.var 1)] (.cst (.bl true))
def l3c : St := .asg (.nm 3) (.blt .tuple [x_l3])
def l4c : St := .par 4 5 (.tup [(.var 1), (.var 2), (.var 3)]) (.call 10 [(.var 0), (.var 1)])
def l5c : St := .asg (.nm 6) (.bin .Mult (.tup [(.tup [(.cst (.str (Str.ofString "in"))), (.var 5), (.bin .Mod (.blt .int [(.bin .Add (.var 5) (.cst (.int 1)))]) (.var 1))]), (.tup [(.cst (.str (Str.ofString "out"))), (.var 5)])]) (.cst (.int 200)))
def x_l6 : C := .lc (.tup []) [11] (.nm 11) .seq [(.var 2)] (.cst (.bl true))
def l6c : St := .par 7 8 (.blt .tuple [x_l6]) (.bin .Mult (.cst (.int 2)) (.call 10 [(.var 0), (.cst (.int 190))]))
def l7c : St := .iff (.or (.cmp .NotEq (.call 8 [(.var 4), (.var 7), (.var 6)]) (.var 7)) (.cmp .Eq (.call 8 [(.var 4), (.var 7), (.slc (.var 6) false (.cst .non) true (.cst (.int 399)))]) (.var 7))) [(.ret (.cst (.bl false)))] []
def l8c : Sx := .trc [(.exp (.call 8 [(.var 4), (.var 7), (.bin .Add (.bin .Add (.slc (.var 6) false (.cst .non) true (.var 8)) (.tup [(.tup [(.cst (.str (Str.ofString "out"))), (.var 5)])])) (.slc (.var 6) true (.var 8) true (.cst (.int 399))))]))] (Str.ofString "Refused") 9 (Str.ofString "deed") (Str.ofString "out") 5
def q_long : List Sx := [.pln l1c, .pln l2c, .pln l3c, .pln l4c, .pln l5c, .pln l6c, .pln l7c, l8c, .pln (.ret (.cst (.bl false)))]
def IsLongC (f : List D → Sto → R (D × Sto)) : Prop := ∀ (a b : Nat) (S : Sto), DeckAt S a b → Rs (f [.loc a] S) fun p => p.1 = .bl true ∧ Stp a b S p.2
section
variable {F : Nat → List D → Sto → R (D × Sto)}
theorem plnN {s : St} {r r' : Env} {S S' : Sto} (h : evS F s r S = .ok (.nx r' S')) : evX F (.pln s) r S = .ok (.nx r' S') := by
  rw [evX_pln, h]; rfl
theorem l2_ok {h : Nat} {x0 x2 x3 x4 x5 x6 x7 x8 x9 x10 x11 x12 : Option D} {Z : Sto} (h2 : 2 ≤ h) (h6 : h ≤ 6) : ∃ T, evS F l2c [x0, some (.int (h : Nat)), x2, x3, x4, x5, x6, x7, x8, x9, x10, x11, x12] Z = .ok (.nx [x0, some (.int (h : Nat)), some (.tup ((ringU h).lanes.map encL)), x3, x4, x5, x6, x7, x8, x9, x10, x11, x12] (Z ++ T)) := by
  have hp : (0 : Int) < (h : Int) := by omega
  have hp' : 0 < h := by omega
  have l1 := lc_range (n := h) (S := Z) (step := lcStep F [x0, some (.int (h : Nat)), x2, x3, x4, x5, x6, x7, x8, x9, x10, x11, x12] (.tup [(.var 10), (.bin .Mod (.blt .int [(.bin .Add (.var 10) (.cst (.int 1)))]) (.var 1)), (.cst (.int 1))]) [10] (.nm 10) (.cst (.bl true)))
    (fun u => some (encL (u, nxR h u, 1))) (by omega) (fun u hu acc => by
      have e : D.int (((u : Int) + 1) % (h : Int)) = encI (nxR h u) := by rw [mod_nx]; rfl
      unfold encL
      simp only
      rw [← e, show encI u = D.int (u : Int) from rfl, show encI 1 = D.int 1 from rfl]
      simp [lcStep, hp, hp'])
  have hm : (List.range h).filterMap (fun u => some (encL (u, nxR h u, 1))) = (ringU h).lanes.map encL := by
    unfold ringU
    rw [List.map_map]
    exact congrFun (List.filterMap_eq_map (f := fun u : Nat => encL (u, nxR h u, 1))) _
  rw [hm] at l1
  have hr := srcD_rng h (show h ≤ 16777216 by omega) Z
  refine ⟨[.lst ((ringU h).lanes.map encL)], ?_⟩
  have ex : ev F x_l2 [x0, some (.int (h : Nat)), x2, x3, x4, x5, x6, x7, x8, x9, x10, x11, x12] Z = .ok (.loc Z.length, Z ++ [.lst ((ringU h).lanes.map encL)]) := by
    unfold x_l2
    generalize (ringU h).lanes.map encL = Q at l1 ⊢
    generalize (List.range h).map encI = P at l1 hr
    simp only [ev_lc, evL_cons, evL_nil, ev_var, List.getElem?_cons_succ, List.getElem?_cons_zero, opt_some, bi_ok, hr, l1]
  have g : (Z ++ [Cell.lst ((ringU h).lanes.map encL)])[Z.length]? = some (.lst ((ringU h).lanes.map encL)) := at_last
  unfold l2c
  generalize (ringU h).lanes.map encL = Q at ex g ⊢
  generalize x_l2 = c at ex ⊢
  simp [ex, g]
theorem l3_ok {h : Nat} {x0 x2 x3 x4 x5 x6 x7 x8 x9 x10 x11 x12 : Option D} {Z : Sto} (h2 : 2 ≤ h) (h6 : h ≤ 6) : ∃ T, evS F l3c [x0, some (.int (h : Nat)), x2, x3, x4, x5, x6, x7, x8, x9, x10, x11, x12] Z = .ok (.nx [x0, some (.int (h : Nat)), x2, some (.tup ((ringU h).tab.map encR)), x4, x5, x6, x7, x8, x9, x10, x11, x12] (Z ++ T)) := by
  have hp : (0 : Int) < (h : Int) := by omega
  have hp' : 0 < h := by omega
  have inner : ∀ (u : Nat) (Y : Sto), u < h → ev F (.blt .tuple [x_l31]) [x0, some (.int (h : Nat)), x2, x3, x4, x5, x6, x7, x8, x9, some (encI u), x11, x12] Y = .ok (encR ((List.range h).map fun d => entR h u d), Y ++ [.lst (((List.range h).map fun d => entR h u d).map encE)]) := fun u Y hu => by
    have l1 := lc_range (n := h) (S := Y) (step := lcStep F [x0, some (.int (h : Nat)), x2, x3, x4, x5, x6, x7, x8, x9, some (encI u), x11, x12] (.ife (.cmp .Eq (.var 12) (.bin .Mod (.blt .int [(.bin .Add (.var 10) (.cst (.int 1)))]) (.var 1))) (.tup [(.var 10)]) (.tup [])) [12] (.nm 12) (.cst (.bl true)))
      (fun d => some (encE (entR h u d))) (by omega) (fun d hd acc => by
        have e := mod_nx h u
        have e2 : encI u = D.int (u : Int) := rfl
        by_cases z : d = nxR h u
        · have hE : encE (entR h u d) = .tup [D.int (u : Int)] := by unfold entR; rw [if_pos z]; rfl
          have z' : (d : Int) = ((nxR h u : Nat) : Int) := by omega
          rw [hE, e2]
          generalize ((nxR h u : Nat) : Int) = M at e z'
          simp [lcStep, hp, hp', e, z']
        · have hE : encE (entR h u d) = .tup [] := by unfold entR; rw [if_neg z]; rfl
          have z' : ¬ (d : Int) = ((nxR h u : Nat) : Int) := by omega
          rw [hE, e2]
          generalize ((nxR h u : Nat) : Int) = M at e z'
          simp [lcStep, hp, hp', e, z'])
    have hm : (List.range h).filterMap (fun d => some (encE (entR h u d))) = ((List.range h).map fun d => entR h u d).map encE := by
      rw [List.map_map]
      exact congrFun (List.filterMap_eq_map (f := fun d : Nat => encE (entR h u d))) _
    rw [hm] at l1
    have hr := srcD_rng h (show h ≤ 16777216 by omega) Y
    have g : (Y ++ [Cell.lst (((List.range h).map fun d => entR h u d).map encE)])[Y.length]? = some (.lst (((List.range h).map fun d => entR h u d).map encE)) := at_last
    unfold x_l31 encR
    generalize ((List.range h).map fun d => entR h u d).map encE = Q at l1 g ⊢
    generalize (List.range h).map encI = P at l1 hr
    generalize encI u = IU at l1 ⊢
    simp only [ev_blt, ev_lc, evL_cons, evL_nil, ev_var, List.getElem?_cons_succ, List.getElem?_cons_zero, opt_some, bi_ok, hr, l1]
    simp [g]
  obtain ⟨T, l2⟩ := lc_grow (g := .no) (en := encI) (xs := List.range h) (S := Z) (step := lcStep F [x0, some (.int (h : Nat)), x2, x3, x4, x5, x6, x7, x8, x9, x10, x11, x12] (.blt .tuple [x_l31]) [10] (.nm 10) (.cst (.bl true)))
    (fun u => some (encR ((List.range h).map fun d => entR h u d))) trivial (by simp; omega) (fun u hu acc T => by
      have hul := List.mem_range.mp hu
      have e := inner u (Z ++ .lst acc :: T) hul
      refine ⟨T ++ [.lst (((List.range h).map fun d => entR h u d).map encE)], ?_⟩
      have hT : Z ++ Cell.lst acc :: T ++ [Cell.lst (((List.range h).map fun d => entR h u d).map encE)] = Z ++ Cell.lst acc :: (T ++ [Cell.lst (((List.range h).map fun d => entR h u d).map encE)]) := by simp
      rw [hT] at e
      generalize C.blt .tuple [x_l31] = c at e ⊢
      generalize encR ((List.range h).map fun d => entR h u d) = RR at e ⊢
      generalize encI u = IU at e ⊢
      simp [lcStep, e])
  have hm : (List.range h).filterMap (fun u => some (encR ((List.range h).map fun d => entR h u d))) = (ringU h).tab.map encR := by
    unfold ringU
    rw [List.map_map]
    exact congrFun (List.filterMap_eq_map (f := fun u : Nat => encR ((List.range h).map fun d => entR h u d))) _
  rw [hm] at l2
  have hr := srcD_rng h (show h ≤ 16777216 by omega) Z
  refine ⟨.lst ((ringU h).tab.map encR) :: T, ?_⟩
  have ex : ev F x_l3 [x0, some (.int (h : Nat)), x2, x3, x4, x5, x6, x7, x8, x9, x10, x11, x12] Z = .ok (.loc Z.length, Z ++ .lst ((ringU h).tab.map encR) :: T) := by
    unfold x_l3
    generalize C.blt .tuple [x_l31] = c at l2 ⊢
    generalize (ringU h).tab.map encR = Q at l2 ⊢
    generalize (List.range h).map encI = P at l2 hr
    simp only [ev_lc, evL_cons, evL_nil, ev_var, List.getElem?_cons_succ, List.getElem?_cons_zero, opt_some, bi_ok, hr, l2]
  have g : (Z ++ Cell.lst ((ringU h).tab.map encR) :: T)[Z.length]? = some (.lst ((ringU h).tab.map encR)) := by simp
  unfold l3c
  generalize (ringU h).tab.map encR = Q at ex g ⊢
  generalize x_l3 = c at ex ⊢
  generalize Z ++ Cell.lst Q :: T = Y at ex g ⊢
  simp [ex, g]
theorem mul_row {h k : Nat} (S : Sto) : binD .Mult (encT (twoR h k)) (.int 200) S = .ok (encT (rowR h k 200), S) := by
  have hl : ((twoR h k).map encDd).length ≤ 1000 := by rw [List.length_map]; show 2 ≤ 1000; omega
  show when (-(2 ^ 63) ≤ (200 : Int) ∧ (200 : Int) ≤ 1000 ∧ ((twoR h k).map encDd).length ≤ 1000) _ = _
  rw [when_pos ⟨by omega, by omega, hl⟩]
  unfold encT rowR
  rw [List.map_flatten, List.map_replicate]; rfl
theorem isLong_ok (hd : DrawC (F 10)) (hld : LedX (F 8)) : IsLongC (runX F ⟨1, 13, q_long⟩) := by
  intro a b S hS
  obtain ⟨⟨d1, S1⟩, e1, v, hv, rfl, st1, _⟩ := hd a b S 3 hS (by omega) (by omega)
  have e1' : F 10 [.loc a, .int 3] S = .ok (.int (v : Int), S1) := e1
  obtain ⟨h, hh⟩ : ∃ h, h = 2 + v := ⟨_, rfl⟩
  have hc : (2 : Int) + (v : Int) = ((h : Nat) : Int) := by omega
  have k1 : evS F l1c [some (.loc a), none, none, none, none, none, none, none, none, none, none, none, none] S = .ok (.nx [some (.loc a), some (.int (h : Nat)), none, none, none, none, none, none, none, none, none, none, none] S1) := by
    simp [l1c, e1', hc]
  obtain ⟨T2, k2⟩ := l2_ok (F := F) (h := h) (x0 := some (.loc a)) (x2 := none) (x3 := none) (x4 := none) (x5 := none) (x6 := none) (x7 := none) (x8 := none) (x9 := none) (x10 := none) (x11 := none) (x12 := none) (Z := S1) (by omega) (by omega)
  obtain ⟨S2, hS2⟩ : ∃ S2, S2 = S1 ++ T2 := ⟨_, rfl⟩
  rw [← hS2] at k2
  obtain ⟨T3, k3⟩ := l3_ok (F := F) (h := h) (x0 := some (.loc a)) (x2 := some (.tup ((ringU h).lanes.map encL))) (x3 := none) (x4 := none) (x5 := none) (x6 := none) (x7 := none) (x8 := none) (x9 := none) (x10 := none) (x11 := none) (x12 := none) (Z := S2) (by omega) (by omega)
  obtain ⟨S3, hS3⟩ : ∃ S3, S3 = S2 ++ T3 := ⟨_, rfl⟩
  rw [← hS3] at k3
  have st3 : Stp a b S1 S3 := by rw [hS3, hS2]; exact ((Stp.self st1.dk).app _).app _
  obtain ⟨⟨d4, S4⟩, e4, k, hk, rfl, st4, _⟩ := hd a b S3 h st3.dk (by omega) (by omega)
  have e4' : F 10 [.loc a, .int (h : Nat)] S3 = .ok (.int (k : Int), S4) := e4
  have eN : D.tup [.int (h : Nat), .tup ((ringU h).lanes.map encL), .tup ((ringU h).tab.map encR)] = encN (ringU h) := rfl
  have w := ring_wf (h := h) (by omega) (by omega)
  have k4 : evS F l4c [some (.loc a), some (.int (h : Nat)), some (.tup ((ringU h).lanes.map encL)), some (.tup ((ringU h).tab.map encR)), none, none, none, none, none, none, none, none, none] S3 = .ok (.nx [some (.loc a), some (.int (h : Nat)), some (.tup ((ringU h).lanes.map encL)), some (.tup ((ringU h).tab.map encR)), some (encN (ringU h)), some (.int (k : Nat)), none, none, none, none, none, none, none] S4) := by
    rw [← eN]
    generalize D.tup ((ringU h).lanes.map encL) = TL
    generalize D.tup ((ringU h).tab.map encR) = TT
    simp [l4c, e4']
  have k5 : evS F l5c [some (.loc a), some (.int (h : Nat)), some (.tup ((ringU h).lanes.map encL)), some (.tup ((ringU h).tab.map encR)), some (encN (ringU h)), some (.int (k : Nat)), none, none, none, none, none, none, none] S4 = .ok (.nx [some (.loc a), some (.int (h : Nat)), some (.tup ((ringU h).lanes.map encL)), some (.tup ((ringU h).tab.map encR)), some (encN (ringU h)), some (.int (k : Nat)), some (encT (rowR h k 200)), none, none, none, none, none, none] S4) := by
    have hp : (0 : Int) < (h : Int) := by omega
    have hp' : 0 < h := by omega
    have em := mul_row (h := h) (k := k) S4
    have et : encT (twoR h k) = .tup [.tup [.str (Str.ofString "in"), .int (k : Nat), .int ((nxR h k : Nat) : Int)], .tup [.str (Str.ofString "out"), .int (k : Nat)]] := rfl
    rw [et] at em
    have e := mod_nx h k
    unfold l5c
    generalize ((nxR h k : Nat) : Int) = M at e em
    generalize encT (rowR h k 200) = RW at em ⊢
    generalize encN (ringU h) = EN
    generalize D.tup ((ringU h).lanes.map encL) = TL
    generalize D.tup ((ringU h).tab.map encR) = TT
    generalize Str.ofString "in" = TI at em ⊢
    generalize Str.ofString "out" = TO at em ⊢
    have ex : ev F (.tup [(.tup [(.cst (.str TI)), (.var 5), (.bin .Mod (.blt .int [(.bin .Add (.var 5) (.cst (.int 1)))]) (.var 1))]), (.tup [(.cst (.str TO)), (.var 5)])]) [some (.loc a), some (.int (h : Nat)), some TL, some TT, some EN, some (.int (k : Nat)), none, none, none, none, none, none, none] S4 = .ok (.tup [.tup [.str TI, .int (k : Nat), .int M], .tup [.str TO, .int (k : Nat)]], S4) := by
      simp [hp, hp', e]
    generalize C.tup [(.tup [(.cst (.str TI)), (.var 5), (.bin .Mod (.blt .int [(.bin .Add (.var 5) (.cst (.int 1)))]) (.var 1))]), (.tup [(.cst (.str TO)), (.var 5)])] = c at ex ⊢
    rw [evS_asg, ev_bin, ex, bi_ok, ev_cst, bi_ok, em]
    rfl
  obtain ⟨⟨d6, S6⟩, e6, j, hj, rfl, st6, _⟩ := hd a b (S4 ++ [.lst ((s0 h).map encE)]) 190 ((st4.app _).dk) (by omega) (by omega)
  have e6' : F 10 [.loc a, .int 190] (S4 ++ [.lst ((s0 h).map encE)]) = .ok (.int (j : Int), S6) := e6
  have k6 : evS F l6c [some (.loc a), some (.int (h : Nat)), some (.tup ((ringU h).lanes.map encL)), some (.tup ((ringU h).tab.map encR)), some (encN (ringU h)), some (.int (k : Nat)), some (encT (rowR h k 200)), none, none, none, none, none, none] S4 = .ok (.nx [some (.loc a), some (.int (h : Nat)), some (.tup ((ringU h).lanes.map encL)), some (.tup ((ringU h).tab.map encR)), some (encN (ringU h)), some (.int (k : Nat)), some (encT (rowR h k 200)), some (encR (s0 h)), some (.int (2 * (j : Int))), none, none, none, none] S6) := by
    have l1 := lc_map (g := .no) (en := encL) (xs := (ringU h).lanes) (S := S4) (step := lcStep F [some (.loc a), some (.int (h : Nat)), some (.tup ((ringU h).lanes.map encL)), some (.tup ((ringU h).tab.map encR)), some (encN (ringU h)), some (.int (k : Nat)), some (encT (rowR h k 200)), none, none, none, none, none, none] (.tup []) [11] (.nm 11) (.cst (.bl true)))
      (fun _ => some (.tup [])) trivial (by rw [ring_len]; omega) (fun l hl acc => by
        generalize encL l = EL
        generalize encT (rowR h k 200) = RW
        generalize encN (ringU h) = EN
        generalize D.tup ((ringU h).lanes.map encL) = TL
        generalize D.tup ((ringU h).tab.map encR) = TT
        simp [lcStep])
    rw [fm_some] at l1
    have hm : ((ringU h).lanes.map fun _ => D.tup []) = (s0 h).map encE := by
      unfold s0
      rw [List.map_replicate, List.map_const', ring_len]; rfl
    rw [hm] at l1
    have es : srcD .seq [.tup ((ringU h).lanes.map encL)] S4 = .ok ((ringU h).lanes.map encL, .no) := rfl
    have ex : ev F x_l6 [some (.loc a), some (.int (h : Nat)), some (.tup ((ringU h).lanes.map encL)), some (.tup ((ringU h).tab.map encR)), some (encN (ringU h)), some (.int (k : Nat)), some (encT (rowR h k 200)), none, none, none, none, none, none] S4 = .ok (.loc S4.length, S4 ++ [.lst ((s0 h).map encE)]) := by
      unfold x_l6
      generalize (s0 h).map encE = Q at l1 ⊢
      generalize encT (rowR h k 200) = RW at l1 ⊢
      generalize encN (ringU h) = EN at l1 ⊢
      generalize D.tup ((ringU h).tab.map encR) = TT at l1 ⊢
      generalize (ringU h).lanes.map encL = P at es l1 ⊢
      simp only [ev_lc, evL_cons, evL_nil, ev_var, List.getElem?_cons_succ, List.getElem?_cons_zero, opt_some, bi_ok, es, l1]
    have g : (S4 ++ [Cell.lst ((s0 h).map encE)])[S4.length]? = some (.lst ((s0 h).map encE)) := at_last
    have s2 : small 2 := by unfold small; omega
    have hR : encR (s0 h) = .tup ((s0 h).map encE) := rfl
    rw [hR]
    unfold l6c
    generalize (s0 h).map encE = Q at ex g e6' ⊢
    generalize encT (rowR h k 200) = RW at ex ⊢
    generalize encN (ringU h) = EN at ex ⊢
    generalize D.tup ((ringU h).tab.map encR) = TT at ex ⊢
    generalize D.tup ((ringU h).lanes.map encL) = TL at ex ⊢
    generalize x_l6 = c at ex ⊢
    simp [ex, g, e6', s2]
  obtain ⟨r6, hr6⟩ : ∃ r6 : Env, r6 = [some (.loc a), some (.int (h : Nat)), some (.tup ((ringU h).lanes.map encL)), some (.tup ((ringU h).tab.map encR)), some (encN (ringU h)), some (.int (k : Nat)), some (encT (rowR h k 200)), some (encR (s0 h)), some (.int (2 * (j : Int))), none, none, none, none] := ⟨_, rfl⟩
  rw [← hr6] at k6
  have okR := row_ok1 (h := h) (k := k) (n := 200) hk (by omega)
  have led1 : F 8 [encN (ringU h), encR (s0 h), encT (rowR h k 200)] S6 = .ok (encR (s0 h), S6) := by
    have := hld (ringU h) (s0 h) (rowR h k 200) S6 w s0_stand okR
    rw [row_try hk (by omega)] at this
    exact this
  have led2 : F 8 [encN (ringU h), encR (s0 h), encT ((rowR h k 200).take 399)] S6 = .ok (encR (s1 h k), S6) := by
    have := hld (ringU h) (s0 h) ((rowR h k 200).take 399) S6 w s0_stand (fun x hx => okR x (List.mem_of_mem_take hx))
    rw [try_399 hk (by omega)] at this
    exact this
  obtain ⟨ys, hys⟩ : ∃ ys, ys = cut (rowR h k 200) (some (2 * (j : Int))) (some 399) := ⟨_, rfl⟩
  have okY : ∀ x, x ∈ ys → okDd (ringU h) x := fun x hx => by
    rw [hys] at hx
    unfold cut at hx
    exact okR x (List.mem_of_mem_drop (List.mem_of_mem_take hx))
  have lY : ys.length ≤ 400 := by
    rw [hys]
    unfold cut
    rw [List.length_take, List.length_drop, row_len]
    omega
  have led3 : F 8 [encN (ringU h), encR (s0 h), encT ((rowR h k 200).take (2 * j) ++ [.u k] ++ ys)] S6 = .err (refused (.u k)) S6 := by
    have hkl : k < (ringU h).lanes.length := by rw [ring_len]; exact hk
    have := hld (ringU h) (s0 h) ((rowR h k 200).take (2 * j) ++ [.u k] ++ ys) S6 w s0_stand (fun x hx => by
      rcases List.mem_append.mp hx with hx | hx
      · rcases List.mem_append.mp hx with hx | hx
        · exact okR x (List.mem_of_mem_take hx)
        · rw [List.mem_singleton.mp hx]; exact hkl
      · exact okY x hx)
    rw [try_bad hk (by omega) (by omega)] at this
    exact this
  have q1 := eq_RL (s0 h) (s0 h) S6
  have q2 := eq_RL (s1 h k) (s0 h) S6
  rw [decide_eq_true rfl] at q1
  rw [decide_eq_false (s1_ne hk)] at q2
  have c1 : slcD (encT (rowR h k 200)) none (some 399) S6 = .ok (encT ((rowR h k 200).take 399), S6) := by
    rw [slcT]
    have : cut (rowR h k 200) none (some 399) = (rowR h k 200).take 399 := cut_hi _ 399
    rw [this]
  have c2 : slcD (encT (rowR h k 200)) none (some (2 * (j : Int))) S6 = .ok (encT ((rowR h k 200).take (2 * j)), S6) := by
    rw [slcT]
    have : cut (rowR h k 200) none (some (2 * (j : Int))) = (rowR h k 200).take (2 * j) := cut_hi _ (2 * j)
    rw [this]
  have c3 : slcD (encT (rowR h k 200)) (some (2 * (j : Int))) (some 399) S6 = .ok (encT ys, S6) := by
    rw [slcT, hys]
  have k7 : evS F l7c r6 S6 = .ok (.nx r6 S6) := by
    rw [hr6]
    unfold l7c
    generalize encT (rowR h k 200) = RW at led1 c1 ⊢
    generalize encT ((rowR h k 200).take 399) = RW2 at led2 c1
    generalize encR (s0 h) = R0 at led1 led2 q1 q2 ⊢
    generalize encR (s1 h k) = R1 at led2 q2
    generalize encN (ringU h) = EN at led1 led2 ⊢
    generalize D.tup ((ringU h).lanes.map encL) = TL
    generalize D.tup ((ringU h).tab.map encR) = TT
    simp [led1, led2, q1, q2, c1, partD]
  have b1 : binD .Add (encT ((rowR h k 200).take (2 * j))) (.tup [.tup [.str (Str.ofString "out"), .int (k : Nat)]]) S6 = .ok (encT ((rowR h k 200).take (2 * j) ++ [.u k]), S6) := by
    have e : (D.tup [.tup [.str (Str.ofString "out"), .int (k : Nat)]]) = encT [.u k] := rfl
    rw [e]
    exact addT _ _ _ (by rw [List.length_take, row_len]; simp; omega)
  have b2 : binD .Add (encT ((rowR h k 200).take (2 * j) ++ [.u k])) (encT ys) S6 = .ok (encT ((rowR h k 200).take (2 * j) ++ [.u k] ++ ys), S6) := addT _ _ _ (by rw [List.length_append, List.length_take, row_len]; simp; omega)
  have ebody : evXs F [(.exp (.call 8 [(.var 4), (.var 7), (.bin .Add (.bin .Add (.slc (.var 6) false (.cst .non) true (.var 8)) (.tup [(.tup [(.cst (.str (Str.ofString "out"))), (.var 5)])])) (.slc (.var 6) true (.var 8) true (.cst (.int 399))))]))] r6 S6 = .ex (refused (.u k)) r6 S6 := by
    rw [hr6]
    generalize encT (rowR h k 200) = RW at c2 c3 ⊢
    generalize encT ys = EY at c3 b2
    generalize encT ((rowR h k 200).take (2 * j) ++ [.u k] ++ ys) = RW3 at led3 b2
    generalize encT ((rowR h k 200).take (2 * j) ++ [.u k]) = RW2 at b1 b2
    generalize encT ((rowR h k 200).take (2 * j)) = RW1 at c2 b1
    generalize encR (s0 h) = R0 at led3 ⊢
    generalize encN (ringU h) = EN at led3 ⊢
    generalize D.tup ((ringU h).lanes.map encL) = TL
    generalize D.tup ((ringU h).tab.map encR) = TT
    generalize refused (.u k) = RF at led3 ⊢
    generalize Str.ofString "out" = TO at b1 ⊢
    rw [evXs_cons, evX_exp, evXe_call]
    simp [led3, c2, c3, b1, b2, partD]
  have k8 : evX F l8c r6 S6 = .ok (.rt (.bl true) S6) := by
    unfold l8c
    rw [evX_trc, ebody]
    have h1 : (refused (.u k)).cls = Str.ofString "Refused" ∧ 9 < r6.length ∧ 5 ≠ 9 := ⟨rfl, by rw [hr6]; simp, by decide⟩
    dsimp only
    rw [if_pos h1]
    have h2 : cmpFld (refused (.u k)) r6 S6 (Str.ofString "deed") (Str.ofString "out") 5 = some true := by
      unfold cmpFld
      have h3 : (refused (.u k)).fs.lookup (Str.ofString "deed") = some (encDd (.u k)) := by
        unfold refused
        simp [List.lookup]
      have h4 : r6[5]? = some (some (.int (k : Nat))) := by rw [hr6]; rfl
      have h5 : eqD (encDd (.u k)) (.tup [.str (Str.ofString "out"), .int (k : Nat)]) S6 = .ok true := by
        have e : encDd (.u k) = .tup [.str (Str.ofString "out"), .int (k : Nat)] := rfl
        have hcl : Cl 2 (encDd (.u k)) := cl_out k
        rw [← e, eq_cl hcl hcl (by omega), eqv_self]
      rw [h3, h4]
      dsimp only
      rw [h5]
    rw [h2]
  have fin : evXs F q_long [some (.loc a), none, none, none, none, none, none, none, none, none, none, none, none] S = .ok (.rt (.bl true) S6) := by
    unfold q_long
    rw [evXs_cons, plnN k1]
    show evXs F _ _ S1 = _
    rw [evXs_cons, plnN k2]
    show evXs F _ _ S2 = _
    rw [evXs_cons, plnN k3]
    show evXs F _ _ S3 = _
    rw [evXs_cons, plnN k4]
    show evXs F _ _ S4 = _
    rw [evXs_cons, plnN k5]
    show evXs F _ _ S4 = _
    rw [evXs_cons, plnN k6]
    show evXs F _ r6 S6 = _
    rw [evXs_cons, plnN k7]
    show evXs F _ r6 S6 = _
    rw [evXs_cons, k8]
  have st : Stp a b S S6 := ((st1.trans st3).trans (st4.app _)).trans st6
  have e := runX_ret (F := F) (S := S) (f := ⟨1, 13, q_long⟩) (ds := [.loc a]) (S1 := S6) (d := .bl true) rfl fin
  rw [e, Rs_ok]
  exact ⟨rfl, (st.trim hS rfl).1⟩
end
end Lng
end Ev
set_option autoImplicit false
set_option linter.all false
namespace Ev
open PySem
namespace Lng
open K11m K09m
structure Tells (F : Nat → List D → Sto → R (D × Sto)) : Prop where
  ld : LedX (F 8)
  dk : DeckC (F 9)
  dr : DrawC (F 10)
  pk : PickC (F 11)
  nt : NetC (F 13)
  sn : StandC (F 17)
  rw_ : RowC (F 23)
  ct : CountC (F 24)
  lg : IsLongC (F 25)
def t1 : St := .asg (.nm 3) (.call 13 [(.var 1), (.bin .Add (.cst (.int 2)) (.call 10 [(.var 1), (.cst (.int 4))])), (.ife (.cmp .Eq (.var 2) (.cst (.int 0))) (.cst (.int 6)) (.cst (.int 8))), (.cst (.int 1))])
def x_em : C := .lc (.tup []) [13] (.nm 13) .seq [(.sub (.var 3) (.cst (.int 1)))] (.cst (.bl true))
def t2 : St := .asg (.nm 4) (.ife (.cmp .Eq (.var 2) (.cst (.int 0))) (.blt .tuple [x_em]) (.call 17 [(.var 1), (.var 3), (.call 10 [(.var 1), (.cst (.int 2))])]))
def t3 : St := .asg (.nm 5) (.blt .repr [(.lst [(.var 3), (.var 4)])])
def t4 : St := .asg (.tp [(.nm 6), (.nm 7)]) (.call 23 [(.var 1), (.var 3), (.var 4), (.call 11 [(.var 1), (.lst [(.cst (.int 8)), (.cst (.int 20)), (.cst (.int 30))])])])
def t5 : St := .iff (.cmp .Is (.var 6) (.cst .non)) [(.ret (.cst (.bl false)))] []
def t6 : St := .asg (.nm 8) (.call 10 [(.var 1), (.bin .Add (.blt .len [(.var 6)]) (.cst (.int 1)))])
def t7 : St := .asg (.nm 9) (.lst [(.call 8 [(.var 3), (.var 4), (.blt .tuple [(.var 6)])]), (.calk 8 [] [(.blt .tuple [(.var 6)]), (.var 3), (.var 4)] [1, 2, 0])])
def t8 : St := .iff (.cmp .NotEq (.blt .repr [(.var 9)]) (.blt .repr [(.bin .Mult (.lst [(.sub (.var 7) (.una .USub (.cst (.int 1))))]) (.cst (.int 2)))])) [(.ret (.cst (.bl false)))] []
def t9 : St := .iff (.or (.cmp .NotEq (.call 8 [(.var 3), (.var 4), (.blt .tuple [(.slc (.var 6) false (.cst .non) true (.var 8))])]) (.sub (.var 7) (.var 8))) (.cmp .NotEq (.call 8 [(.var 3), (.sub (.var 7) (.var 8)), (.blt .tuple [(.slc (.var 6) true (.var 8) false (.cst .non))])]) (.sub (.var 7) (.una .USub (.cst (.int 1)))))) [(.ret (.cst (.bl false)))] []
def b_zp : List St := [(.iff (.cmp .NotEq (.bin .Sub (.call 24 [(.var 12)]) (.call 24 [(.var 11)])) (.ife (.cmp .Eq (.sub (.var 10) (.cst (.int 0))) (.cst (.str (Str.ofString "in")))) (.cst (.int 1)) (.ife (.cmp .Eq (.sub (.var 10) (.cst (.int 0))) (.cst (.str (Str.ofString "out")))) (.una .USub (.cst (.int 1))) (.cst (.int 0))))) [(.ret (.cst (.bl false)))] [])]
def t10 : St := .fr (.tp [(.nm 10), (.nm 11), (.nm 12)]) .zip [(.var 6), (.var 7), (.slc (.var 7) true (.cst (.int 1)) false (.cst .non))] b_zp
def t11 : St := .iff (.or (.cmp .NotEq (.blt .repr [(.lst [(.var 3), (.var 4)])]) (.var 5)) (.cmp .NotEq (.call 8 [(.var 3), (.var 4), (.tup [])]) (.var 4))) [(.ret (.cst (.bl false)))] []
def b_tu : List St := [t1, t2, t3, t4, t5, t6, t7, t8, t9, t10, t11]
def x_lg : C := .and (.cmp .Eq (.call 10 [(.var 1), (.cst (.int 6))]) (.cst (.int 0))) (.not (.call 25 [(.var 1)]))
def p_law : List St := [(.asg (.nm 1) (.call 9 [(.var 0)])), (.iff x_lg [(.ret (.cst (.bl false)))] []), (.fr (.nm 2) .rng1 [(.cst (.int 2))] b_tu), (.ret (.cst (.bl true)))]
section
variable {F : Nat → List D → Sto → R (D × Sto)} {N : Net} {s : List (List Nat)} {ds : List Dd} {ss : List (List (List Nat))}
theorem rp_pair (w : N.WF) (hs : Stand N s) : ∃ W, ∀ (S : Sto) (p : Nat), S[p]? = some (.lst [encN N, encR s]) → reprD (.loc p) S = .ok W := ⟨_, fun S p hp => repr_loc (n := 44) (b := 200000) hp (fun z hz => by
  simp only [List.mem_cons, List.not_mem_nil, or_false] at hz
  rcases hz with rfl | rfl
  · exact fit_N w
  · exact fit_R w hs) (by omega) (by show 2 * _ + 3 ≤ _; omega)⟩
theorem rp_twice (w : N.WF) (hs : Stand N s) : ∃ W, ∀ (S : Sto) (p : Nat), S[p]? = some (.lst [encR s, encR s]) → reprD (.loc p) S = .ok W := ⟨_, fun S p hp => repr_loc (n := 44) (b := 200000) hp (fun z hz => by
  simp only [List.mem_cons, List.not_mem_nil, or_false] at hz
  rcases hz with rfl | rfl <;> exact fit_R w hs) (by omega) (by show 2 * _ + 3 ≤ _; omega)⟩
theorem tup_dd {X : Nat} {Z : Sto} (g : Z[X]? = some (.lst (ds.map encDd))) : bltD .tuple [.loc X] Z = .ok (encT ds, Z) := by
  unfold encT
  generalize ds.map encDd = P at g ⊢
  simp [g]
/-- the net and the stand -/
theorem pre_ok (T : Tells F) {a b : Nat} {S : Sto} (dk : DeckAt S a b) (i : Nat) (x0 x3 x4 x5 x6 x7 x8 x9 x10 x11 x12 x13 : Option D) :
    ∃ (N : Net) (s : List (List Nat)) (Z : Sto), N.WF ∧ Stand N s ∧ evSs F [t1, t2] [x0, some (.loc a), some (.int (i : Nat)), x3, x4, x5, x6, x7, x8, x9, x10, x11, x12, x13] S = .ok (.nx [x0, some (.loc a), some (.int (i : Nat)), some (encN N), some (encR s), x5, x6, x7, x8, x9, x10, x11, x12, x13] Z) ∧ Stp a b S Z := by
  obtain ⟨⟨d1, S1⟩, e1, v, hv, rfl, st1, _⟩ := T.dr a b S 4 dk (by omega) (by omega)
  have e1' : F 10 [.loc a, .int 4] S = .ok (.int (v : Int), S1) := e1
  obtain ⟨h, hh⟩ : ∃ h, h = 2 + v := ⟨_, rfl⟩
  have hc : (2 : Int) + (v : Int) = ((h : Nat) : Int) := by omega
  obtain ⟨mo, hmo⟩ : ∃ mo : Nat, mo = if i = 0 then 6 else 8 := ⟨_, rfl⟩
  have hmo8 : 1 ≤ mo ∧ mo ≤ 16 := by rw [hmo]; split <;> omega
  obtain ⟨⟨d2, S2⟩, e2, N, w, hNh, hNl, hN1, hd2, st2, _⟩ := T.nt a b S1 h mo 1 st1.dk (by omega) (by omega) (by omega) (by omega)
  simp only at hd2 st2
  subst hd2
  have e2' : F 13 [.loc a, .int (h : Int), .int (mo : Int), .int 1] S1 = .ok (encN N, S2) := e2
  have k1 : evS F t1 [x0, some (.loc a), some (.int (i : Nat)), x3, x4, x5, x6, x7, x8, x9, x10, x11, x12, x13] S = .ok (.nx [x0, some (.loc a), some (.int (i : Nat)), some (encN N), x4, x5, x6, x7, x8, x9, x10, x11, x12, x13] S2) := by
    generalize encN N = EN at e2' ⊢
    by_cases z : i = 0
    · subst z
      rw [if_pos rfl] at hmo
      rw [hmo] at e2'
      have e2'' : F 13 [.loc a, .int (h : Int), .int 6, .int 1] S1 = .ok (EN, S2) := e2'
      simp [t1, e1', hc, e2'']
    · rw [if_neg z] at hmo
      rw [hmo] at e2'
      have e2'' : F 13 [.loc a, .int (h : Int), .int 8, .int 1] S1 = .ok (EN, S2) := e2'
      have z' : ¬ (i : Int) = 0 := by omega
      simp [t1, e1', hc, e2'', z]
  have hll := w.l16
  by_cases z : i = 0
  · obtain ⟨s, hs⟩ : ∃ s, s = List.replicate N.lanes.length ([] : List Nat) := ⟨_, rfl⟩
    have so : ∀ k, own s k = [] := fun k => by
      rw [hs]
      unfold own
      rw [List.getD_eq_getElem?_getD, List.getElem?_replicate]
      split <;> rfl
    have hst : Stand N s := ⟨by rw [hs]; simp, fun k hk => by rw [so]; exact ⟨by simp, fun a ha => by cases ha⟩⟩
    have l1 := lc_map (g := .no) (en := encL) (xs := N.lanes) (S := S2) (step := lcStep F [x0, some (.loc a), some (.int (i : Nat)), some (encN N), x4, x5, x6, x7, x8, x9, x10, x11, x12, x13] (.tup []) [13] (.nm 13) (.cst (.bl true)))
      (fun _ => some (.tup [])) trivial (by omega) (fun l hl acc => by
        generalize encL l = EL
        generalize encN N = EN
        simp [lcStep])
    rw [fm_some] at l1
    have hm : (N.lanes.map fun _ => D.tup []) = s.map encE := by
      rw [hs, List.map_replicate, List.map_const']; rfl
    rw [hm] at l1
    have a1 : subX (encN N) (.int 1) S2 = .ok (.tup (N.lanes.map encL)) := rfl
    have es : srcD .seq [.tup (N.lanes.map encL)] S2 = .ok (N.lanes.map encL, .no) := rfl
    have ex : ev F x_em [x0, some (.loc a), some (.int (i : Nat)), some (encN N), x4, x5, x6, x7, x8, x9, x10, x11, x12, x13] S2 = .ok (.loc S2.length, S2 ++ [.lst (s.map encE)]) := by
      unfold x_em
      generalize s.map encE = Q at l1 ⊢
      generalize encN N = EN at a1 l1 ⊢
      have e0 : ev F (.sub (.var 3) (.cst (.int 1))) [x0, some (.loc a), some (.int (i : Nat)), some EN, x4, x5, x6, x7, x8, x9, x10, x11, x12, x13] S2 = .ok (.tup (N.lanes.map encL), S2) := by simp [a1, -subX_loc]
      generalize N.lanes.map encL = P at es l1 e0
      simp only [ev_lc, evL_cons, evL_nil, e0, bi_ok, es, l1]
    have g : (S2 ++ [Cell.lst (s.map encE)])[S2.length]? = some (.lst (s.map encE)) := at_last
    refine ⟨N, s, S2 ++ [.lst (s.map encE)], w, hst, ?_, (st1.trans st2).app _⟩
    have k2 : evS F t2 [x0, some (.loc a), some (.int (i : Nat)), some (encN N), x4, x5, x6, x7, x8, x9, x10, x11, x12, x13] S2 = .ok (.nx [x0, some (.loc a), some (.int (i : Nat)), some (encN N), some (encR s), x5, x6, x7, x8, x9, x10, x11, x12, x13] (S2 ++ [.lst (s.map encE)])) := by
      have hR : encR s = .tup (s.map encE) := rfl
      rw [hR]
      unfold t2
      generalize s.map encE = Q at ex g ⊢
      generalize encN N = EN at ex ⊢
      generalize x_em = c at ex ⊢
      subst z
      simp at ex
      simp [ex, g]
    rw [evSs_cons, k1, bi_ok]
    show evSs F _ _ S2 = _
    rw [evSs_cons, k2, bi_ok]
    rfl
  · obtain ⟨⟨d3, S3⟩, e3, v3, hv3, rfl, st3, _⟩ := T.dr a b S2 2 st2.dk (by omega) (by omega)
    have e3' : F 10 [.loc a, .int 2] S2 = .ok (.int (v3 : Int), S3) := e3
    obtain ⟨⟨d4, S4⟩, e4, s, hst, hd4, st4, _⟩ := T.sn a b v3 S3 N st3.dk w
    simp only at hd4 st4
    subst hd4
    refine ⟨N, s, S4, w, hst, ?_, ((st1.trans st2).trans st3).trans st4⟩
    have k2 : evS F t2 [x0, some (.loc a), some (.int (i : Nat)), some (encN N), x4, x5, x6, x7, x8, x9, x10, x11, x12, x13] S2 = .ok (.nx [x0, some (.loc a), some (.int (i : Nat)), some (encN N), some (encR s), x5, x6, x7, x8, x9, x10, x11, x12, x13] S4) := by
      have z' : ¬ (i : Int) = 0 := by omega
      generalize encN N = EN at e4 ⊢
      generalize encR s = RS at e4 ⊢
      simp [t2, z, e3', e4]
    rw [evSs_cons, k1, bi_ok]
    show evSs F _ _ S2 = _
    rw [evSs_cons, k2, bi_ok]
    rfl
/-- how many letters there are, deed by deed -/
theorem zp_ok (T : Tells F) (w : N.WF) (hs : Stand N s) (o : RowOk N s ds ss) {X Y W : Nat} {Z : Sto} (gX : Z[X]? = some (.lst (ds.map encDd))) (gY : Z[Y]? = some (.lst (ss.map encR))) (gW : Z[W]? = some (.lst ((ss.drop 1).map encR))) (x0 x1 x2 x3 x4 x5 x6 x7 x8 x9 x10 x11 x12 x13 : Option D) :
    Rs (frGo (.thr (X, ds.map encDd) (Y, ss.map encR) (W, (ss.drop 1).map encR)) (.tp [(.nm 10), (.nm 11), (.nm 12)]) (evSs F b_zp) (zip3T (ds.map encDd) (ss.map encR) ((ss.drop 1).map encR)) [x0, x1, x2, x3, x4, x5, x6, x7, x8, x9, x10, x11, x12, x13] Z) fun f => ∃ y10 y11 y12, f = .nx [x0, x1, x2, x3, x4, x5, x6, x7, x8, x9, y10, y11, y12, x13] Z := by
  refine frGo_by (g := .thr (X, ds.map encDd) (Y, ss.map encR) (W, (ss.drop 1).map encR)) (fun i r Z' => ∃ y10 y11 y12, r = [x0, x1, x2, x3, x4, x5, x6, x7, x8, x9, y10, y11, y12, x13] ∧ Z' = Z) ⟨_, _, _, rfl, rfl⟩ (fun i r Z' _ ⟨_, _, _, _, hz⟩ => by rw [hz]; exact ⟨gX, gY, gW⟩) ?_ ?_
  · rintro i d r Z' hi ⟨y10, y11, y12, rfl, rfl⟩
    obtain ⟨p, q, u, h1, h2, h3, rfl⟩ := zip3T_get hi
    rw [List.getElem?_map] at h1 h2 h3
    obtain ⟨x, hx, rfl⟩ := Option.map_eq_some_iff.mp h1
    obtain ⟨t, ht, rfl⟩ := Option.map_eq_some_iff.mp h2
    obtain ⟨v, hv, rfl⟩ := Option.map_eq_some_iff.mp h3
    obtain ⟨t', q1, q2, q3, q4, q5⟩ := o.nx i x hx
    rw [ht] at q1
    cases q1
    rw [List.getElem?_drop, Nat.add_comm] at hv
    rw [q5] at hv
    cases hv
    have hsn := do_stand w q2 q3 q4
    refine ⟨[x0, x1, x2, x3, x4, x5, x6, x7, x8, x9, some (encDd x), some (encR t), some (encR (doDd t x)), x13], by simp [bindP, bindPs], ?_⟩
    have small_ : ∀ {s : List (List Nat)}, Stand N s → s.length ≤ 1000 ∧ ∀ e, e ∈ s → e.length ≤ 16777216 := fun {s} h => by
      have h16 := w.l16
      refine ⟨by rw [h.len]; omega, fun e he => ?_⟩
      obtain ⟨k, hk, hke⟩ := List.mem_iff_getElem.mp he
      have hk' : k < N.lanes.length := by rw [← h.len]; exact hk
      have h1 := (h.ow k hk').1
      have h2 := (w.ln k hk').2.2.2.2
      have h3 := stand_at h hk'
      rw [List.getElem?_eq_getElem hk, hke] at h3
      rw [Option.some.inj h3]
      omega
    have c1 := T.ct t Z' (small_ q2).1 (small_ q2).2
    have c2 := T.ct (doDd t x) Z' (small_ hsn).1 (small_ hsn).2
    have hd := nLet_do q2 q3 q4
    have e : evSs F b_zp [x0, x1, x2, x3, x4, x5, x6, x7, x8, x9, some (encDd x), some (encR t), some (encR (doDd t x)), x13] Z' = .ok (.nx [x0, x1, x2, x3, x4, x5, x6, x7, x8, x9, some (encDd x), some (encR t), some (encR (doDd t x)), x13] Z') := by
      have er : ev F (.ife (.cmp .Eq (.sub (.var 10) (.cst (.int 0))) (.cst (.str (Str.ofString "in")))) (.cst (.int 1)) (.ife (.cmp .Eq (.sub (.var 10) (.cst (.int 0))) (.cst (.str (Str.ofString "out")))) (.una .USub (.cst (.int 1))) (.cst (.int 0)))) [x0, x1, x2, x3, x4, x5, x6, x7, x8, x9, some (encDd x), some (encR t), some (encR (doDd t x)), x13] Z' = .ok (.int (dLet x), Z') := by
        generalize encR (doDd t x) = R2
        generalize encR t = R1
        have u1 : unaD .USub (.int 1) = .ok (.int (-1)) := rfl
        cases x with
        | i k d =>
          have a1 : subX (encDd (.i k d)) (.int 0) Z' = .ok (.str (Str.ofString "in")) := rfl
          have a2 : eqD (.str (Str.ofString "in")) (.str (Str.ofString "in")) Z' = .ok true := by
            show R.ok (Str.ofString "in" == Str.ofString "in") = _
            rw [show (Str.ofString "in" == Str.ofString "in") = true by decide +kernel]
          generalize encDd (.i k d) = DX at a1 ⊢
          generalize Str.ofString "in" = TI at a1 a2 ⊢
          simp [a1, a2, dLet, -subX_loc]
        | o k j =>
          have a1 : subX (encDd (.o k j)) (.int 0) Z' = .ok (.str (Str.ofString "on")) := rfl
          have a2 : eqD (.str (Str.ofString "on")) (.str (Str.ofString "in")) Z' = .ok false := by
            show R.ok (Str.ofString "on" == Str.ofString "in") = _
            rw [show (Str.ofString "on" == Str.ofString "in") = false by decide +kernel]
          have a3 : eqD (.str (Str.ofString "on")) (.str (Str.ofString "out")) Z' = .ok false := by
            show R.ok (Str.ofString "on" == Str.ofString "out") = _
            rw [show (Str.ofString "on" == Str.ofString "out") = false by decide +kernel]
          generalize encDd (.o k j) = DX at a1 ⊢
          generalize Str.ofString "in" = TI at a2 ⊢
          generalize Str.ofString "out" = TO at a3 ⊢
          generalize Str.ofString "on" = TN at a1 a2 a3
          simp [a1, a2, a3, dLet, -subX_loc]
        | u k =>
          have a1 : subX (encDd (.u k)) (.int 0) Z' = .ok (.str (Str.ofString "out")) := rfl
          have a2 : eqD (.str (Str.ofString "out")) (.str (Str.ofString "in")) Z' = .ok false := by
            show R.ok (Str.ofString "out" == Str.ofString "in") = _
            rw [show (Str.ofString "out" == Str.ofString "in") = false by decide +kernel]
          have a3 : eqD (.str (Str.ofString "out")) (.str (Str.ofString "out")) Z' = .ok true := by
            show R.ok (Str.ofString "out" == Str.ofString "out") = _
            rw [show (Str.ofString "out" == Str.ofString "out") = true by decide +kernel]
          generalize encDd (.u k) = DX at a1 ⊢
          generalize Str.ofString "in" = TI at a2 ⊢
          generalize Str.ofString "out" = TO at a1 a2 a3 ⊢
          simp [a1, a2, a3, u1, dLet, -subX_loc]
      unfold b_zp
      generalize C.ife (.cmp .Eq (.sub (.var 10) (.cst (.int 0))) (.cst (.str (Str.ofString "in")))) (.cst (.int 1)) (.ife (.cmp .Eq (.sub (.var 10) (.cst (.int 0))) (.cst (.str (Str.ofString "out")))) (.una .USub (.cst (.int 1))) (.cst (.int 0))) = c at er ⊢
      generalize encR (doDd t x) = R2 at c2 er ⊢
      generalize encR t = R1 at c1 er ⊢
      generalize encDd x = DX at er ⊢
      simp [c1, c2, er, hd]
    rw [e, Rs_ok]
    exact ⟨_, _, _, rfl, rfl⟩
  · rintro r Z' ⟨y10, y11, y12, rfl, rfl⟩
    exact ⟨_, _, _, rfl⟩
end
end Lng
end Ev
set_option autoImplicit false
set_option linter.all false
namespace Ev
open PySem
namespace Lng
open K11m K09m
section
variable {F : Nat → List D → Sto → R (D × Sto)} {N : Net} {s : List (List Nat)} {ds : List Dd} {ss : List (List (List Nat))}
theorem evSs_app2 {F : Nat → List D → Sto → R (D × Sto)} {r' : Env} {S' : Sto} (b : List St) : ∀ (a : List St) (r : Env) (S : Sto), evSs F a r S = .ok (.nx r' S') → evSs F (a ++ b) r S = evSs F b r' S'
  | [], r, S, h => by
    rw [evSs_nil] at h
    cases h; rfl
  | s :: a, r, S, h => by
    rw [List.cons_append, evSs_cons]
    rw [evSs_cons] at h
    obtain ⟨f, e, h⟩ := bi_eq_ok h
    rw [e, bi_ok]
    cases f with
    | nx r1 S1 => exact evSs_app2 b a r1 S1 h
    | ct r1 S1 => cases h
    | bk r1 S1 => cases h
    | rt d S1 => cases h
theorem cut_loL {α : Type} (xs : List α) (n : Nat) : cut xs (some (n : Int)) none = xs.drop n := cut_from xs n
theorem at_nat {xs : List D} {n : Nat} {d : D} (h : xs[n]? = some d) {Y : Nat} {Z : Sto} (g : Z[Y]? = some (.lst xs)) : subX (.loc Y) (.int (n : Nat)) Z = .ok d := by
  simp [g, h]
theorem post_ok (T : Tells F) {a b : Nat} {S : Sto} (dk : DeckAt S a b) (w : N.WF) (hs : Stand N s) (x0 x2 x5 x6 x7 x8 x9 x10 x11 x12 x13 : Option D) :
    ∃ (y5 y6 y7 y8 y9 y10 y11 y12 : Option D) (Z : Sto), evSs F [t3, t4, t5, t6, t7, t8, t9, t10, t11] [x0, some (.loc a), x2, some (encN N), some (encR s), x5, x6, x7, x8, x9, x10, x11, x12, x13] S = .ok (.nx [x0, some (.loc a), x2, some (encN N), some (encR s), y5, y6, y7, y8, y9, y10, y11, y12, x13] Z) ∧ Stp a b S Z := by
  have la := dk.la
  have lb := dk.lb
  obtain ⟨W, hW⟩ := rp_pair w hs
  obtain ⟨S1, hS1⟩ : ∃ S1, S1 = S ++ [Cell.lst [encN N, encR s]] := ⟨_, rfl⟩
  have w1 := hW S1 S.length (by rw [hS1]; exact at_last)
  have st1 : Stp a b S S1 := by rw [hS1]; exact (Stp.self dk).app _
  have k3 : evS F t3 [x0, some (.loc a), x2, some (encN N), some (encR s), x5, x6, x7, x8, x9, x10, x11, x12, x13] S = .ok (.nx [x0, some (.loc a), x2, some (encN N), some (encR s), some (.str W), x6, x7, x8, x9, x10, x11, x12, x13] S1) := by
    rw [hS1] at w1 ⊢
    generalize encN N = EN at w1 ⊢
    generalize encR s = RS at w1 ⊢
    simp [t3, w1]
  -- the row
  obtain ⟨S2, hS2⟩ : ∃ S2, S2 = S1 ++ [Cell.lst [.int 8, .int 20, .int 30]] := ⟨_, rfl⟩
  have st2 : Stp a b S S2 := by rw [hS2]; exact st1.app _
  have l1 : S1.length = S.length + 1 := by rw [hS1]; simp
  obtain ⟨⟨d3, S3⟩, e3, hd3, st3, _⟩ := T.pk a b S2 (.loc S1.length) [.int 8, .int 20, .int 30] st2.dk (Keeps.loc (by rw [hS2]; exact at_last) (by omega) (by omega)) (by simp) (by simp) (fun x hx => by
    simp only [List.mem_cons, List.not_mem_nil, or_false] at hx
    rcases hx with rfl | rfl | rfl <;> rfl)
  obtain ⟨m, hm, hm3⟩ : ∃ m : Nat, d3 = .int (m : Nat) ∧ m ≤ 1000 := by
    simp only [List.mem_cons, List.not_mem_nil, or_false] at hd3
    rcases hd3 with rfl | rfl | rfl
    · exact ⟨8, rfl, by omega⟩
    · exact ⟨20, rfl, by omega⟩
    · exact ⟨30, rfl, by omega⟩
  subst hm
  simp only at st3
  obtain ⟨⟨d4, S4⟩, e4, X, Y, ds, ss, hd4, gX, gY, o, hdl, hX, hY, st4⟩ := T.rw_ a b m N s S3 st3.dk w hs hm3
  simp only at hd4 gX gY st4
  subst hd4
  have l3 := st3.len
  have l2 : S2.length = S.length + 2 := by rw [hS2]; simp [l1]
  have k4 : evS F t4 [x0, some (.loc a), x2, some (encN N), some (encR s), some (.str W), x6, x7, x8, x9, x10, x11, x12, x13] S1 = .ok (.nx [x0, some (.loc a), x2, some (encN N), some (encR s), some (.str W), some (.loc X), some (.loc Y), x8, x9, x10, x11, x12, x13] S4) := by
    rw [hS2] at e3
    generalize encN N = EN at e4 ⊢
    generalize encR s = RS at e4 ⊢
    simp [t4, e3, e4, bindP, bindPs]
  have k5 : evS F t5 [x0, some (.loc a), x2, some (encN N), some (encR s), some (.str W), some (.loc X), some (.loc Y), x8, x9, x10, x11, x12, x13] S4 = .ok (.nx [x0, some (.loc a), x2, some (encN N), some (encR s), some (.str W), some (.loc X), some (.loc Y), x8, x9, x10, x11, x12, x13] S4) := by
    have q : cmpD .Is (.loc X) .non S4 = .ok false := rfl
    generalize encN N = EN
    generalize encR s = RS
    simp [t5, q]
  obtain ⟨⟨d6, S6⟩, e6, c, hc, rfl, st6, _⟩ := T.dr a b S4 (ds.length + 1) st4.dk (by omega) (by omega)
  have e6' : F 10 [.loc a, .int ((ds.length : Int) + 1)] S4 = .ok (.int (c : Int), S6) := e6
  have k6 : evS F t6 [x0, some (.loc a), x2, some (encN N), some (encR s), some (.str W), some (.loc X), some (.loc Y), x8, x9, x10, x11, x12, x13] S4 = .ok (.nx [x0, some (.loc a), x2, some (encN N), some (encR s), some (.str W), some (.loc X), some (.loc Y), some (.int (c : Nat)), x9, x10, x11, x12, x13] S6) := by
    have hl : (ds.map encDd).length ≤ 16777216 := by rw [List.length_map]; omega
    have hl2 : (ds.map encDd).length = ds.length := List.length_map _
    rw [← hl2] at e6'
    generalize ds.map encDd = P at gX hl e6'
    generalize encN N = EN
    generalize encR s = RS
    simp [t6, gX, hl, e6']
  have gX6 : S6[X]? = some (.lst (ds.map encDd)) := (st6.fr _ (lt_of_at gX) (by omega) (by omega)).trans gX
  have gY6 : S6[Y]? = some (.lst (ss.map encR)) := (st6.fr _ (lt_of_at gY) (by omega) (by omega)).trans gY
  have l4 := st4.len
  have l6 := st6.len
  have lX6 := lt_of_at gX6
  have lY6 := lt_of_at gY6
  -- led
  obtain ⟨t, ht⟩ := o.last
  have hst := o.all w hs _ _ ht
  have okx := o.okx
  have led1 : ∀ Z, F 8 [encN N, encR s, encT ds] Z = .ok (encR t, Z) := fun Z => by
    have h1 := T.ld N s ds Z w hs okx
    have h2 := o.leads ds.length 0 s t (by omega) o.st (by rw [Nat.zero_add]; exact ht)
    rw [List.drop_zero, List.take_length] at h2
    rw [h2] at h1
    exact h1
  obtain ⟨S7, hS7⟩ : ∃ S7, S7 = S6 ++ [Cell.lst [encR t, encR t]] := ⟨_, rfl⟩
  have k7 : evS F t7 [x0, some (.loc a), x2, some (encN N), some (encR s), some (.str W), some (.loc X), some (.loc Y), some (.int (c : Nat)), x9, x10, x11, x12, x13] S6 = .ok (.nx [x0, some (.loc a), x2, some (encN N), some (encR s), some (.str W), some (.loc X), some (.loc Y), some (.int (c : Nat)), some (.loc S6.length), x10, x11, x12, x13] S7) := by
    have q1 := tup_dd gX6
    have q2 := led1 S6
    rw [hS7]
    generalize encT ds = TD at q1 q2
    generalize encR t = RT at q2 ⊢
    generalize encN N = EN at q2 ⊢
    generalize encR s = RS at q2 ⊢
    have eb : ev F (.blt .tuple [(.var 6)]) [x0, some (.loc a), x2, some EN, some RS, some (.str W), some (.loc X), some (.loc Y), some (.int (c : Nat)), x9, x10, x11, x12, x13] S6 = .ok (TD, S6) := by
      simp only [ev_blt, evL_cons, evL_nil, ev_var, List.getElem?_cons_succ, List.getElem?_cons_zero, opt_some, bi_ok, q1]
    unfold t7
    generalize C.blt .tuple [(.var 6)] = cc at eb ⊢
    simp [eb, q2, perm, mapO]
  obtain ⟨W2, hW2⟩ := rp_twice w hst
  have gY7 : S7[Y]? = some (.lst (ss.map encR)) := by rw [hS7]; exact at_app gY6 _
  have gX7 : S7[X]? = some (.lst (ds.map encDd)) := by rw [hS7]; exact at_app gX6 _
  have n1 : ∀ {Z : Sto}, Z[Y]? = some (.lst (ss.map encR)) → subX (.loc Y) (.int (-1)) Z = .ok (encR t) := fun g => at_neg (n := ds.length) (by rw [List.length_map, o.len]) (by rw [List.getElem?_map, ht]; rfl) g
  have u1 : unaD .USub (.int 1) = .ok (.int (-1)) := rfl
  obtain ⟨S8, hS8⟩ : ∃ S8, S8 = S7 ++ [Cell.lst [encR t], .lst [encR t, encR t]] := ⟨_, rfl⟩
  have k8 : evS F t8 [x0, some (.loc a), x2, some (encN N), some (encR s), some (.str W), some (.loc X), some (.loc Y), some (.int (c : Nat)), some (.loc S6.length), x10, x11, x12, x13] S7 = .ok (.nx [x0, some (.loc a), x2, some (encN N), some (encR s), some (.str W), some (.loc X), some (.loc Y), some (.int (c : Nat)), some (.loc S6.length), x10, x11, x12, x13] S8) := by
    have q1 := hW2 S7 S6.length (by rw [hS7]; exact at_last)
    have q2 := hW2 S8 (S7.length + 1) (by
      rw [hS8, List.getElem?_append_right (by omega), show S7.length + 1 - S7.length = 1 by omega]; rfl)
    have q3 := n1 gY7
    rw [hS8] at q2 ⊢
    generalize encR t = RT at q1 q2 q3 ⊢
    generalize encN N = EN
    generalize encR s = RS
    simp [t8, q1, u1, q3, -subX_loc]
    simp [q2]
  have gY8 : S8[Y]? = some (.lst (ss.map encR)) := by rw [hS8]; exact at_app gY7 _
  have gX8 : S8[X]? = some (.lst (ds.map encDd)) := by rw [hS8]; exact at_app gX7 _
  have hcl : c ≤ ds.length := by omega
  obtain ⟨v, hv⟩ : ∃ v, ss[c]? = some v := ⟨_, List.getElem?_eq_getElem (by rw [o.len]; omega)⟩
  have hsv := o.all w hs _ _ hv
  obtain ⟨S9, hS9⟩ : ∃ S9, S9 = S8 ++ [Cell.lst ((ds.take c).map encDd)] := ⟨_, rfl⟩
  obtain ⟨S10, hS10⟩ : ∃ S10, S10 = S9 ++ [Cell.lst ((ds.drop c).map encDd)] := ⟨_, rfl⟩
  have gY9 : S9[Y]? = some (.lst (ss.map encR)) := by rw [hS9]; exact at_app gY8 _
  have gX9 : S9[X]? = some (.lst (ds.map encDd)) := by rw [hS9]; exact at_app gX8 _
  have gY10 : S10[Y]? = some (.lst (ss.map encR)) := by rw [hS10]; exact at_app gY9 _
  have gX10 : S10[X]? = some (.lst (ds.map encDd)) := by rw [hS10]; exact at_app gX9 _
  have led2 : F 8 [encN N, encR s, encT (ds.take c)] S9 = .ok (encR v, S9) := by
    have h1 := T.ld N s (ds.take c) S9 w hs (fun x hx => okx x (List.mem_of_mem_take hx))
    have h2 := o.leads c 0 s v (by omega) o.st (by rw [Nat.zero_add]; exact hv)
    rw [List.drop_zero] at h2
    rw [h2] at h1
    exact h1
  have led3 : F 8 [encN N, encR v, encT (ds.drop c)] S10 = .ok (encR t, S10) := by
    have h1 := T.ld N v (ds.drop c) S10 w hsv (fun x hx => okx x (List.mem_of_mem_drop hx))
    have h2 := o.leads (ds.length - c) c v t (by omega) hv (by rw [show c + (ds.length - c) = ds.length by omega]; exact ht)
    rw [List.take_of_length_le (by rw [List.length_drop]; omega)] at h2
    rw [h2] at h1
    exact h1
  have k9 : evS F t9 [x0, some (.loc a), x2, some (encN N), some (encR s), some (.str W), some (.loc X), some (.loc Y), some (.int (c : Nat)), some (.loc S6.length), x10, x11, x12, x13] S8 = .ok (.nx [x0, some (.loc a), x2, some (encN N), some (encR s), some (.str W), some (.loc X), some (.loc Y), some (.int (c : Nat)), some (.loc S6.length), x10, x11, x12, x13] S10) := by
    have c1 : cut (ds.map encDd) none (some (c : Int)) = (ds.take c).map encDd := by rw [cut_hi, List.map_take]
    have c2 : cut (ds.map encDd) (some (c : Int)) none = (ds.drop c).map encDd := by rw [cut_loL, List.map_drop]
    have b1 := tup_dd (Z := S9) (X := S8.length) (ds := ds.take c) (by rw [hS9]; exact at_last)
    have b2 := tup_dd (Z := S10) (X := S9.length) (ds := ds.drop c) (by rw [hS10]; exact at_last)
    have p1 : subX (.loc Y) (.int (c : Nat)) S9 = .ok (encR v) := at_nat (by rw [List.getElem?_map, hv]; rfl) gY9
    have p2 := n1 gY10
    have q1 := eq_RL v v S9
    have q2 := eq_RL t t S10
    rw [decide_eq_true rfl] at q1 q2
    have e1 : ev F (.slc (.var 6) false (.cst .non) true (.var 8)) [x0, some (.loc a), x2, some (encN N), some (encR s), some (.str W), some (.loc X), some (.loc Y), some (.int (c : Nat)), some (.loc S6.length), x10, x11, x12, x13] S8 = .ok (.loc S8.length, S9) := by
      rw [hS9, ← c1]
      generalize ds.map encDd = P at gX8 ⊢
      generalize encN N = EN
      generalize encR s = RS
      simp [partD, gX8]
    have e2 : ev F (.slc (.var 6) true (.var 8) false (.cst .non)) [x0, some (.loc a), x2, some (encN N), some (encR s), some (.str W), some (.loc X), some (.loc Y), some (.int (c : Nat)), some (.loc S6.length), x10, x11, x12, x13] S9 = .ok (.loc S9.length, S10) := by
      rw [hS10, ← c2]
      generalize ds.map encDd = P at gX9 ⊢
      generalize encN N = EN
      generalize encR s = RS
      simp [partD, gX9]
    have p3 : subX (.loc Y) (.int (c : Nat)) S9 = .ok (encR v) := p1
    unfold t9
    generalize C.slc (.var 6) false (.cst .non) true (.var 8) = m1 at e1 ⊢
    generalize C.slc (.var 6) true (.var 8) false (.cst .non) = m2 at e2 ⊢
    generalize encT (ds.take c) = T1 at b1 led2
    generalize encT (ds.drop c) = T2 at b2 led3
    generalize encR v = RV at *
    generalize encR t = RT at *
    generalize encN N = EN at *
    generalize encR s = RS at *
    simp [e1, b1, led2, p1, q1, -subX_loc]
    simp [e2, b2, led3, u1, p2, q2, -subX_loc]
  -- the letters
  obtain ⟨S11, hS11⟩ : ∃ S11, S11 = S10 ++ [Cell.lst ((ss.drop 1).map encR)] := ⟨_, rfl⟩
  have gY11 : S11[Y]? = some (.lst (ss.map encR)) := by rw [hS11]; exact at_app gY10 _
  have gX11 : S11[X]? = some (.lst (ds.map encDd)) := by rw [hS11]; exact at_app gX10 _
  have gW11 : S11[S10.length]? = some (.lst ((ss.drop 1).map encR)) := by rw [hS11]; exact at_last
  obtain ⟨f, ef, y10, y11, y12, rfl⟩ := zp_ok T w hs o gX11 gY11 gW11 x0 (some (.loc a)) x2 (some (encN N)) (some (encR s)) (some (.str W)) (some (.loc X)) (some (.loc Y)) (some (.int (c : Nat))) (some (.loc S6.length)) x10 x11 x12 x13
  have k10 : evS F t10 [x0, some (.loc a), x2, some (encN N), some (encR s), some (.str W), some (.loc X), some (.loc Y), some (.int (c : Nat)), some (.loc S6.length), x10, x11, x12, x13] S10 = .ok (.nx [x0, some (.loc a), x2, some (encN N), some (encR s), some (.str W), some (.loc X), some (.loc Y), some (.int (c : Nat)), some (.loc S6.length), y10, y11, y12, x13] S11) := by
    have c1 : cut (ss.map encR) (some 1) none = (ss.drop 1).map encR := by
      have := cut_loL (ss.map encR) 1
      rw [List.map_drop]
      exact this
    have es := srcD_zip3 gX11 gY11 gW11
    have e1 : ev F (.slc (.var 7) true (.cst (.int 1)) false (.cst .non)) [x0, some (.loc a), x2, some (encN N), some (encR s), some (.str W), some (.loc X), some (.loc Y), some (.int (c : Nat)), some (.loc S6.length), x10, x11, x12, x13] S10 = .ok (.loc S10.length, S11) := by
      rw [hS11, ← c1]
      generalize ss.map encR = P at gY10 ⊢
      generalize encN N = EN
      generalize encR s = RS
      simp [partD, gY10]
    unfold t10
    generalize b_zp = bb at ef ⊢
    generalize C.slc (.var 7) true (.cst (.int 1)) false (.cst .non) = m1 at e1 ⊢
    generalize (ss.drop 1).map encR = P3 at es ef
    generalize ss.map encR = P2 at es ef
    generalize ds.map encDd = P1 at es ef
    generalize encN N = EN at *
    generalize encR s = RS at *
    simp only [evS_fr, evL_cons, evL_nil, ev_var, List.getElem?_cons_succ, List.getElem?_cons_zero, opt_some, bi_ok, e1, es, ef]
  obtain ⟨S12, hS12⟩ : ∃ S12, S12 = S11 ++ [Cell.lst [encN N, encR s]] := ⟨_, rfl⟩
  have w12 := hW S12 S11.length (by rw [hS12]; exact at_last)
  have led4 : F 8 [encN N, encR s, .tup []] S12 = .ok (encR s, S12) := T.ld N s [] S12 w hs (fun x hx => by cases hx)
  have q12 := eq_RL s s S12
  rw [decide_eq_true rfl] at q12
  have k11 : evS F t11 [x0, some (.loc a), x2, some (encN N), some (encR s), some (.str W), some (.loc X), some (.loc Y), some (.int (c : Nat)), some (.loc S6.length), y10, y11, y12, x13] S11 = .ok (.nx [x0, some (.loc a), x2, some (encN N), some (encR s), some (.str W), some (.loc X), some (.loc Y), some (.int (c : Nat)), some (.loc S6.length), y10, y11, y12, x13] S12) := by
    have qs : eqD (.str W) (.str W) S12 = .ok true := by
      show R.ok (W == W) = _
      rw [beq_self_eq_true]
    rw [hS12] at *
    generalize encN N = EN at *
    generalize encR s = RS at *
    simp [t11, w12, qs, led4, q12]
  refine ⟨some (.str W), some (.loc X), some (.loc Y), some (.int (c : Nat)), some (.loc S6.length), y10, y11, y12, S12, ?_, ?_⟩
  · rw [evSs_cons, k3, bi_ok]
    show evSs F _ _ S1 = _
    rw [evSs_cons, k4, bi_ok]
    show evSs F _ _ S4 = _
    rw [evSs_cons, k5, bi_ok]
    show evSs F _ _ S4 = _
    rw [evSs_cons, k6, bi_ok]
    show evSs F _ _ S6 = _
    rw [evSs_cons, k7, bi_ok]
    show evSs F _ _ S7 = _
    rw [evSs_cons, k8, bi_ok]
    show evSs F _ _ S8 = _
    rw [evSs_cons, k9, bi_ok]
    show evSs F _ _ S10 = _
    rw [evSs_cons, k10, bi_ok]
    show evSs F _ _ S11 = _
    rw [evSs_cons, k11, bi_ok]
    rfl
  · have st : Stp a b S S6 := ((st2.trans st3).trans st4).trans st6
    rw [hS12, hS11, hS10, hS9, hS8, hS7]
    exact (((((st.app _).app _).app _).app _).app _).app _
theorem law_ok (T : Tells F) (ns : List Int) : Rs (runFn F ⟨1, 14, p_law⟩ [.frz (ns.map .int)] []) fun p => p.1 = .bl true := by
  refine runFn_by rfl ?_
  show Rs (evSs F p_law [some (.frz (ns.map .int)), none, none, none, none, none, none, none, none, none, none, none, none, none] []) _
  obtain ⟨⟨d0, S0⟩, e0, a, b, hd0, dk0⟩ := T.dk ns []
  simp only at hd0 dk0
  subst hd0
  obtain ⟨x0, hx0⟩ : ∃ x0 : Option D, x0 = some (.frz (ns.map .int)) := ⟨_, rfl⟩
  -- long rows at times
  have L1 : ∃ S1, evT F x_lg [x0, some (.loc a), none, none, none, none, none, none, none, none, none, none, none, none] S0 = .ok (false, S1) ∧ DeckAt S1 a b := by
    obtain ⟨⟨d1, S1⟩, e1, v, hv, rfl, st1, _⟩ := T.dr a b S0 6 dk0 (by omega) (by omega)
    have e1' : F 10 [.loc a, .int 6] S0 = .ok (.int (v : Int), S1) := e1
    by_cases z : v = 0
    · subst z
      obtain ⟨⟨d2, S2⟩, e2, hd2, st2⟩ := T.lg a b S1 st1.dk
      simp only at hd2 st2
      subst hd2
      refine ⟨S2, ?_, st2.dk⟩
      simp [x_lg, e1', e2]
    · have z' : ¬ (v : Int) = 0 := by omega
      exact ⟨S1, by simp [x_lg, e1', z], st1.dk⟩
  obtain ⟨S1, eT, dk1⟩ := L1
  have L : Rs (frGo .no (.nm 2) (evSs F b_tu) ((List.range 2).map encI) [x0, some (.loc a), none, none, none, none, none, none, none, none, none, none, none, none] S1) fun f => ∃ (r : Env) (Z : Sto), f = .nx r Z := by
    refine frGo_by (g := .no) (fun i r Z => ∃ (y2 y3 y4 y5 y6 y7 y8 y9 y10 y11 y12 y13 : Option D), r = [x0, some (.loc a), y2, y3, y4, y5, y6, y7, y8, y9, y10, y11, y12, y13] ∧ DeckAt Z a b)
      ⟨_, _, _, _, _, _, _, _, _, _, _, _, rfl, dk1⟩ (fun _ _ _ _ _ => trivial) ?_ ?_
    · rintro i dd r Z hi ⟨y2, y3, y4, y5, y6, y7, y8, y9, y10, y11, y12, y13, rfl, dk⟩
      obtain ⟨_, rfl⟩ := range_at hi
      refine ⟨[x0, some (.loc a), some (.int (i : Nat)), y3, y4, y5, y6, y7, y8, y9, y10, y11, y12, y13], by simp, ?_⟩
      obtain ⟨N, s, Z1, w, hs, e1, st1⟩ := pre_ok T dk i x0 y3 y4 y5 y6 y7 y8 y9 y10 y11 y12 y13
      obtain ⟨z5, z6, z7, z8, z9, z10, z11, z12, Z2, e2, st2⟩ := post_ok T st1.dk w hs x0 (some (.int (i : Nat))) y5 y6 y7 y8 y9 y10 y11 y12 y13
      have e : evSs F b_tu [x0, some (.loc a), some (.int (i : Nat)), y3, y4, y5, y6, y7, y8, y9, y10, y11, y12, y13] Z = .ok (.nx [x0, some (.loc a), some (.int (i : Nat)), some (encN N), some (encR s), z5, z6, z7, z8, z9, z10, z11, z12, y13] Z2) := by
        have hb : b_tu = [t1, t2] ++ [t3, t4, t5, t6, t7, t8, t9, t10, t11] := rfl
        rw [hb, evSs_app2 _ _ _ _ e1]
        exact e2
      rw [e, Rs_ok]
      exact ⟨_, _, _, _, _, _, _, _, _, _, _, _, rfl, st2.dk⟩
    · rintro r Z ⟨_, _, _, _, _, _, _, _, _, _, _, _, rfl, _⟩
      exact ⟨_, Z, rfl⟩
  obtain ⟨f, ef, r, Z, rfl⟩ := L
  have hr : srcD .rng1 [.int 2] S1 = .ok ((List.range 2).map encI, .no) := srcD_rng 2 (by omega) S1
  have k0 : evS F (.asg (.nm 1) (.call 9 [(.var 0)])) [x0, none, none, none, none, none, none, none, none, none, none, none, none, none] [] = .ok (.nx [x0, some (.loc a), none, none, none, none, none, none, none, none, none, none, none, none] S0) := by
    rw [hx0]; simp [e0]
  have k1 : evS F (.iff x_lg [(.ret (.cst (.bl false)))] []) [x0, some (.loc a), none, none, none, none, none, none, none, none, none, none, none, none] S0 = .ok (.nx [x0, some (.loc a), none, none, none, none, none, none, none, none, none, none, none, none] S1) := by
    rw [evS_iff, eT]; rfl
  have kf : evS F (.fr (.nm 2) .rng1 [(.cst (.int 2))] b_tu) [x0, some (.loc a), none, none, none, none, none, none, none, none, none, none, none, none] S1 = .ok (.nx r Z) := by
    generalize b_tu = bb at ef ⊢
    generalize (List.range 2).map encI = P at ef hr
    simp only [evS_fr, evL_cons, evL_nil, ev_cst, bi_ok, hr, ef]
  have stp : evSs F p_law [some (.frz (ns.map .int)), none, none, none, none, none, none, none, none, none, none, none, none, none] [] = .ok (.rt (.bl true) Z) := by
    rw [← hx0]
    unfold p_law
    rw [evSs_cons, k0, bi_ok]
    show evSs F _ _ S0 = _
    rw [evSs_cons, k1, bi_ok]
    show evSs F _ _ S1 = _
    rw [evSs_cons, kf, bi_ok]
    show evSs F _ r Z = _
    simp
  rw [stp, Rs_ok]
end
end Lng
end Ev
set_option autoImplicit false
set_option linter.all false
set_option maxRecDepth 100000
set_option Elab.async false
namespace K08
open PySem
open L2
open PySem.Spec
open PyProof.Rows
open Ev
def top (i : Nat) : Stmt := PySem.Challenge.pw_roomahead_k08_whole_long_rows_of_deeds.main.body.getD i (.Pass ⟨0, 0, 0, 0⟩)
def c_serves : List Ev.St := [(.ret (.cmp .In (.var 1) (.sub (.sub (.sub (.var 0) (.cst (.int 2))) (.sub (.sub (.sub (.var 0) (.cst (.int 1))) (.var 1)) (.cst (.int 0)))) (.var 2))))]
def d_serves : DefY := { x := "serves", st := top 4, ps := ["net", "lane", "aim"], ns := ["net", "lane", "aim"], body := .pl c_serves }
def c_ahead : List Ev.St := [(.ret (.sub (.sub (.sub (.var 0) (.cst (.int 2))) (.sub (.sub (.sub (.var 0) (.cst (.int 1))) (.var 1)) (.cst (.int 1)))) (.var 2)))]
def d_ahead : DefY := { x := "ahead", st := top 5, ps := ["net", "lane", "aim"], ns := ["net", "lane", "aim"], body := .pl c_ahead }
def c_has_room : List Ev.St := [(.ret (.cmp .Lt (.blt .len [(.sub (.var 1) (.var 2))]) (.sub (.sub (.sub (.var 0) (.cst (.int 1))) (.var 2)) (.cst (.int 2)))))]
def d_has_room : DefY := { x := "has_room", st := top 7, ps := ["net", "stand", "lane"], ns := ["net", "stand", "lane"], body := .pl c_has_room }
def c_is_home : List Ev.St := [(.ret (.cmp .Eq (.sub (.sub (.sub (.var 0) (.cst (.int 1))) (.var 1)) (.cst (.int 1))) (.var 2)))]
def d_is_home : DefY := { x := "is_home", st := top 9, ps := ["net", "lane", "letter"], ns := ["net", "lane", "letter"], body := .pl c_is_home }
def c_can_be_done : List Ev.St := [(.asg (.nm 3) (.sub (.var 2) (.cst (.int 1)))), (.iff (.cmp .Eq (.sub (.var 2) (.cst (.int 0))) (.cst (.str (Str.ofString "in")))) [(.ret (.and (.call 0 [(.var 0), (.var 3), (.sub (.var 2) (.cst (.int 2)))]) (.call 2 [(.var 0), (.var 1), (.var 3)])))] []), (.iff (.cmp .Eq (.sub (.var 1) (.var 3)) (.tup [])) [(.ret (.cst (.bl false)))] []), (.asg (.nm 4) (.sub (.sub (.var 1) (.var 3)) (.cst (.int 0)))), (.iff (.cmp .Eq (.sub (.var 2) (.cst (.int 0))) (.cst (.str (Str.ofString "out")))) [(.ret (.call 3 [(.var 0), (.var 3), (.var 4)]))] []), (.ret (.and (.cmp .In (.sub (.var 2) (.cst (.int 2))) (.call 1 [(.var 0), (.var 3), (.var 4)])) (.call 2 [(.var 0), (.var 1), (.sub (.var 2) (.cst (.int 2)))])))]
def d_can_be_done : DefY := { x := "can_be_done", st := top 10, ps := ["net", "stand", "deed"], ns := ["net", "stand", "deed", "lane", "letter"], body := .pl c_can_be_done }
def c_with_letter : List Ev.St := [(.ret (.bin .Add (.bin .Add (.slc (.var 0) false (.cst .non) true (.var 1)) (.tup [(.bin .Add (.sub (.var 0) (.var 1)) (.tup [(.var 2)]))])) (.slc (.var 0) true (.bin .Add (.var 1) (.cst (.int 1))) false (.cst .non))))]
def d_with_letter : DefY := { x := "with_letter", st := top 11, ps := ["stand", "lane", "letter"], ns := ["stand", "lane", "letter"], body := .pl c_with_letter }
def c_without_first : List Ev.St := [(.ret (.bin .Add (.bin .Add (.slc (.var 0) false (.cst .non) true (.var 1)) (.tup [(.slc (.sub (.var 0) (.var 1)) true (.cst (.int 1)) false (.cst .non))])) (.slc (.var 0) true (.bin .Add (.var 1) (.cst (.int 1))) false (.cst .non))))]
def d_without_first : DefY := { x := "without_first", st := top 12, ps := ["stand", "lane"], ns := ["stand", "lane"], body := .pl c_without_first }
def c_done : List Ev.Sx := [(.iff (.not (.call 4 [(.var 0), (.var 1), (.var 2)])) [(.rse (Str.ofString "Refused") (some (Str.ofString "deed")) [(.var 2)])] []), (.pln (.iff (.cmp .Eq (.sub (.var 2) (.cst (.int 0))) (.cst (.str (Str.ofString "in")))) [(.ret (.call 5 [(.var 1), (.sub (.var 2) (.cst (.int 1))), (.sub (.var 2) (.cst (.int 2)))]))] [])), (.pln (.asg (.nm 3) (.call 6 [(.var 1), (.sub (.var 2) (.cst (.int 1)))]))), (.pln (.ret (.ife (.cmp .Eq (.sub (.var 2) (.cst (.int 0))) (.cst (.str (Str.ofString "on")))) (.call 5 [(.var 3), (.sub (.var 2) (.cst (.int 2))), (.sub (.sub (.var 1) (.sub (.var 2) (.cst (.int 1)))) (.cst (.int 0)))]) (.var 3))))]
def d_done : DefY := { x := "done", st := top 13, ps := ["net", "stand", "deed"], ns := ["net", "stand", "deed", "fresh"], body := .xs c_done }
def c_led : List Ev.Sx := [(.pln (.asg (.nm 3) (.var 1))), (.fr (.nm 4) .seq [(.var 2)] [(.asg 3 (.call 7 [(.var 0), (.var 3), (.var 4)]))]), (.pln (.ret (.var 3)))]
def d_led : DefY := { x := "led", st := top 14, ps := ["net", "stand", "deeds"], ns := ["net", "stand", "deeds", "found", "deed"], body := .xs c_led }
def c__law_deck : List Ev.St := [(.par 1 2 (.lc (.bin .Add (.bin .Mult (.cst (.int 2)) (.blt .abs [(.var 3)])) (.blt .int [(.cmp .Lt (.var 3) (.cst (.int 0)))])) [3] (.nm 3) .seq [(.slc (.var 0) false (.cst .non) true (.cst (.int 63)))] (.cst (.bl true))) (.bin .Add (.cst (.int 90533)) (.blt .len [(.var 0)]))), (.fr (.nm 3) .seq [(.var 1)] [(.asg (.nm 2) (.bin .Mod (.blt .int [(.bin .Add (.bin .Add (.bin .Mult (.var 2) (.cst (.int 16807))) (.var 3)) (.cst (.int 11)))]) (.cst (.int 4294967291))))]), (.ret (.lst [(.lc (.var 3) [3] (.nm 3) .seq [(.var 1)] (.cmp .Gt (.var 3) (.bin .Pow (.cst (.int 10)) (.cst (.int 15))))), (.var 2), (.cst (.int 0))]))]
def d__law_deck : DefY := { x := "_law_deck", st := top 16, ps := ["script"], ns := ["script", "cells", "mixed", "cell"], body := .pl c__law_deck }
def c__law_draw : List Ev.St := [(.iff (.and (.cmp .NotEq (.sub (.var 0) (.cst (.int 0))) (.lst [])) (.cmp .Gt (.var 1) (.cst (.int 1)))) [(.asg (.nm 2) (.mth .pop (.sub (.var 0) (.cst (.int 0))) [(.cst (.int 0))])), (.iff (.cmp .GtE (.var 2) (.var 1)) [(.exp (.mth .insert (.sub (.var 0) (.cst (.int 0))) [(.cst (.int 0)), (.bin .FloorDiv (.var 2) (.var 1))]))] []), (.ret (.bin .Mod (.blt .int [(.var 2)]) (.var 1)))] []), (.sset (.var 0) (.cst (.int 2)) (.bin .Add (.sub (.var 0) (.cst (.int 2))) (.cst (.int 1)))), (.asg (.nm 3) (.bin .Mod (.blt .int [(.bin .Add (.sub (.var 0) (.cst (.int 1))) (.bin .Mult (.cst (.int 2654435761)) (.sub (.var 0) (.cst (.int 2)))))]) (.cst (.int 4294967291)))), (.fr (.nm 4) .rng1 [(.cst (.int 2))] [(.asg (.nm 3) (.bin .Mod (.blt .int [(.bin .Add (.bin .Add (.bin .Add (.bin .Mult (.var 3) (.var 3)) (.bin .Mult (.cst (.int 48271)) (.sub (.var 0) (.cst (.int 2))))) (.cst (.int 29))) (.var 4))]) (.cst (.int 4294967279))))]), (.ret (.bin .Mod (.blt .int [(.bin .FloorDiv (.var 3) (.cst (.int 512)))]) (.var 1)))]
def d__law_draw : DefY := { x := "_law_draw", st := top 17, ps := ["deck", "many"], ns := ["deck", "many", "cell", "found", "turn"], body := .pl c__law_draw }
def c__law_pick : List Ev.St := [(.ret (.sub (.var 1) (.call 10 [(.var 0), (.blt .len [(.var 1)])])))]
def d__law_pick : DefY := { x := "_law_pick", st := top 18, ps := ["deck", "items"], ns := ["deck", "items"], body := .pl c__law_pick }
def c__law_mixed : List Ev.St := [(.par 2 3 (.blt .list [(.var 1)]) (.lst [])), (.whl (.cmp .NotEq (.var 2) (.lst [])) [(.exp (.mth .append (.var 3) [(.mth .pop (.var 2) [(.call 10 [(.var 0), (.blt .len [(.var 2)])])])]))]), (.ret (.var 3))]
def d__law_mixed : DefY := { x := "_law_mixed", st := top 19, ps := ["deck", "items"], ns := ["deck", "items", "left", "found"], body := .pl c__law_mixed }
def c__law_net : List Ev.St := [(.asg (.nm 4) (.lst [])), (.fr (.nm 5) .rng1 [(.ife (.cmp .Gt (.var 1) (.cst (.int 1))) (.bin .Add (.var 3) (.call 10 [(.var 0), (.bin .Add (.bin .Sub (.var 2) (.var 3)) (.cst (.int 1)))])) (.cst (.int 0)))] [(.asg (.nm 6) (.call 10 [(.var 0), (.var 1)])), (.asg (.nm 7) (.bin .Mod (.blt .int [(.bin .Add (.bin .Add (.var 6) (.cst (.int 1))) (.call 10 [(.var 0), (.bin .Sub (.var 1) (.cst (.int 1)))]))]) (.var 1))), (.exp (.mth .append (.var 4) [(.tup [(.var 6), (.var 7), (.call 11 [(.var 0), (.lst [(.cst (.int 1)), (.cst (.int 1)), (.cst (.int 2)), (.cst (.int 3)), (.cst (.int 4))])])])])), (.iff (.and (.cmp .Lt (.blt .len [(.var 4)]) (.var 2)) (.cmp .Eq (.call 10 [(.var 0), (.cst (.int 3))]) (.cst (.int 0)))) [(.exp (.mth .append (.var 4) [(.tup [(.var 7), (.var 6), (.call 11 [(.var 0), (.lst [(.cst (.int 1)), (.cst (.int 2)), (.cst (.int 4))])])])]))] [])]), (.asg (.nm 8) (.lst [])), (.fr (.nm 9) .rng1 [(.var 1)] [(.exp (.mth .append (.var 8) [(.blt .tuple [(.lc (.ife (.cmp .NotEq (.var 10) (.var 9)) (.call 14 [(.var 0), (.var 4), (.var 9)]) (.tup [])) [10] (.nm 10) .rng1 [(.var 1)] (.cst (.bl true)))])]))]), (.ret (.tup [(.var 1), (.blt .tuple [(.slc (.var 4) false (.cst .non) true (.var 2))]), (.ife (.cmp .LtE (.blt .len [(.var 4)]) (.var 2)) (.blt .tuple [(.var 8)]) (.call 15 [(.var 8), (.var 2)]))]))]
def d__law_net : DefY := { x := "_law_net", st := top 20, ps := ["deck", "houses", "most", "least"], ns := ["deck", "houses", "most", "least", "lanes", "turn", "start", "end", "rows", "u", "d"], body := .pl c__law_net }
def c__law_entry : List Ev.St := [(.asg (.nm 3) (.call 12 [(.var 0), (.lc (.var 5) [5, 6] (.tp [(.nm 5), (.nm 6)]) .enum [(.var 1)] (.cmp .Eq (.sub (.var 6) (.cst (.int 0))) (.var 2)))])), (.asg (.nm 4) (.call 11 [(.var 0), (.lst [(.cst (.int 1)), (.cst (.int 1)), (.cst (.int 1)), (.cst (.int 1)), (.cst (.int 2)), (.cst (.int 2)), (.blt .len [(.var 3)]), (.cst (.int 0))])])), (.ret (.blt .tuple [(.blt .sorted [(.slc (.var 3) false (.cst .non) true (.var 4))])]))]
def d__law_entry : DefY := { x := "_law_entry", st := top 21, ps := ["deck", "lanes", "u"], ns := ["deck", "lanes", "u", "here", "many", "k", "lane"], body := .pl c__law_entry }
def c__law_cut : List Ev.St := [(.ret (.blt .tuple [(.lc (.blt .tuple [(.lc (.blt .tuple [(.lc (.var 4) [4] (.nm 4) .seq [(.var 3)] (.cmp .Lt (.var 4) (.var 1)))]) [3] (.nm 3) .seq [(.var 2)] (.cst (.bl true)))]) [2] (.nm 2) .seq [(.var 0)] (.cst (.bl true)))]))]
def d__law_cut : DefY := { x := "_law_cut", st := top 22, ps := ["rows", "most"], ns := ["rows", "most", "row", "own", "k"], body := .pl c__law_cut }
def c__law_served : List Ev.St := [(.ret (.lc (.var 2) [2] (.nm 2) .rng1 [(.sub (.var 0) (.cst (.int 0)))] (.cmp .In (.var 1) (.sub (.sub (.sub (.var 0) (.cst (.int 2))) (.sub (.sub (.sub (.var 0) (.cst (.int 1))) (.var 1)) (.cst (.int 0)))) (.var 2)))))]
def d__law_served : DefY := { x := "_law_served", st := top 23, ps := ["net", "k"], ns := ["net", "k", "d"], body := .pl c__law_served }
def c__law_stand : List Ev.St := [(.asg (.nm 3) (.lst [])), (.fr (.tp [(.nm 4), (.tp [(.nm 5), (.nm 6), (.nm 7)])]) .enum [(.sub (.var 1) (.cst (.int 1)))] [(.asg (.nm 8) (.call 16 [(.var 1), (.var 4)])), (.asg (.nm 9) (.ife (.and (.cmp .Eq (.var 2) (.cst (.int 1))) (.cmp .Gt (.call 10 [(.var 0), (.cst (.int 6))]) (.cst (.int 0)))) (.var 7) (.call 10 [(.var 0), (.bin .Add (.var 7) (.cst (.int 1)))]))), (.asg (.nm 10) (.lc (.var 11) [11] (.nm 11) .seq [(.var 8)] (.cmp .NotEq (.var 11) (.var 6)))), (.asg (.nm 8) (.ife (.and (.cmp .Eq (.var 2) (.cst (.int 1))) (.and (.cmp .NotEq (.var 10) (.lst [])) (.cmp .Gt (.call 10 [(.var 0), (.cst (.int 5))]) (.cst (.int 0))))) (.var 10) (.var 8))), (.exp (.mth .append (.var 3) [(.ife (.cmp .NotEq (.var 8) (.lst [])) (.blt .tuple [(.lc (.call 11 [(.var 0), (.var 8)]) [12] (.nm 12) .rng1 [(.var 9)] (.cst (.bl true)))]) (.tup []))]))]), (.ret (.blt .tuple [(.var 3)]))]
def d__law_stand : DefY := { x := "_law_stand", st := top 24, ps := ["deck", "net", "way"], ns := ["deck", "net", "way", "found", "k", "start", "end", "room", "menu", "many", "far", "d", "turn"], body := .pl c__law_stand }
def c__law_can : List Ev.St := [(.asg (.tp [(.nm 3), (.nm 4), (.nm 5)]) (.sub (.sub (.var 0) (.cst (.int 1))) (.sub (.var 2) (.cst (.int 1))))), (.asg (.nm 6) (.sub (.var 1) (.sub (.var 2) (.cst (.int 1))))), (.iff (.cmp .Eq (.sub (.var 2) (.cst (.int 0))) (.cst (.str (Str.ofString "in")))) [(.ret (.and (.cmp .In (.sub (.var 2) (.cst (.int 1))) (.sub (.sub (.sub (.var 0) (.cst (.int 2))) (.var 3)) (.sub (.var 2) (.cst (.int 2))))) (.cmp .Lt (.blt .len [(.var 6)]) (.var 5))))] []), (.iff (.cmp .Eq (.var 6) (.tup [])) [(.ret (.cst (.bl false)))] []), (.iff (.cmp .Eq (.sub (.var 2) (.cst (.int 0))) (.cst (.str (Str.ofString "out")))) [(.ret (.cmp .Eq (.sub (.var 6) (.cst (.int 0))) (.var 4)))] []), (.ret (.and (.cmp .In (.sub (.var 2) (.cst (.int 2))) (.sub (.sub (.sub (.var 0) (.cst (.int 2))) (.var 4)) (.sub (.var 6) (.cst (.int 0))))) (.cmp .Lt (.blt .len [(.sub (.var 1) (.sub (.var 2) (.cst (.int 2))))]) (.sub (.sub (.sub (.var 0) (.cst (.int 1))) (.sub (.var 2) (.cst (.int 2)))) (.cst (.int 2))))))]
def d__law_can : DefY := { x := "_law_can", st := top 25, ps := ["net", "stand", "deed"], ns := ["net", "stand", "deed", "start", "end", "room", "here"], body := .pl c__law_can }
def c__law_behind : List Ev.St := [(.par 2 3 (.lc (.blt .list [(.var 5)]) [5] (.nm 5) .seq [(.var 0)] (.cst (.bl true))) (.sub (.var 1) (.cst (.int 1)))), (.iff (.cmp .Eq (.sub (.var 1) (.cst (.int 0))) (.cst (.str (Str.ofString "in")))) [(.exp (.mth .append (.sub (.var 2) (.var 3)) [(.sub (.var 1) (.cst (.int 2)))]))] [(.asg (.nm 4) (.mth .pop (.sub (.var 2) (.var 3)) [(.cst (.int 0))])), (.iff (.cmp .Eq (.sub (.var 1) (.cst (.int 0))) (.cst (.str (Str.ofString "on")))) [(.exp (.mth .append (.sub (.var 2) (.sub (.var 1) (.cst (.int 2)))) [(.var 4)]))] [])]), (.ret (.blt .tuple [(.lc (.blt .tuple [(.var 5)]) [5] (.nm 5) .seq [(.var 2)] (.cst (.bl true)))]))]
def d__law_behind : DefY := { x := "_law_behind", st := top 26, ps := ["stand", "deed"], ns := ["stand", "deed", "found", "k", "letter", "own"], body := .pl c__law_behind }
def c__law_all_deeds : List Ev.St := [(.par 1 2 (.lst []) (.blt .len [(.sub (.var 0) (.cst (.int 1)))])), (.fr (.nm 3) .rng1 [(.var 2)] [(.asg (.nm 1) (.bin .Add (.var 1) (.lc (.tup [(.cst (.str (Str.ofString "in"))), (.var 3), (.var 4)]) [4] (.nm 4) .rng1 [(.sub (.var 0) (.cst (.int 0)))] (.cst (.bl true)))))]), (.fr (.nm 3) .rng1 [(.var 2)] [(.asg (.nm 1) (.bin .Add (.var 1) (.lc (.tup [(.cst (.str (Str.ofString "on"))), (.var 3), (.var 5)]) [5] (.nm 5) .rng1 [(.var 2)] (.cst (.bl true)))))]), (.ret (.bin .Add (.var 1) (.lc (.tup [(.cst (.str (Str.ofString "out"))), (.var 3)]) [3] (.nm 3) .rng1 [(.var 2)] (.cst (.bl true)))))]
def d__law_all_deeds : DefY := { x := "_law_all_deeds", st := top 27, ps := ["net"], ns := ["net", "found", "many", "k", "d", "j"], body := .pl c__law_all_deeds }
def c__law_heard : List Ev.Sx := [(.tri [(.ret (.lst [(.cst (.str (Str.ofString "told")))] (.ife (.var 3) (.calk 7 [] [(.var 0), (.var 2), (.var 1)] [0, 2, 1]) (.call 7 [(.var 0), (.var 1), (.var 2)]))))] (Str.ofString "Refused") 4 [(.str (Str.ofString "refused")), (.fld (Str.ofString "deed"))])]
def d__law_heard : DefY := { x := "_law_heard", st := top 28, ps := ["net", "stand", "deed", "is_named"], ns := ["net", "stand", "deed", "is_named", "refused"], body := .xs c__law_heard }
def c__law_drawn : List Ev.St := [(.asg (.nm 3) (.lc (.var 5) [5] (.nm 5) .seq [(.call 20 [(.var 1)])] (.call 18 [(.var 1), (.var 2), (.var 5)]))), (.asg (.nm 4) (.lc (.var 5) [5] (.nm 5) .seq [(.var 3)] (.cmp .NotEq (.sub (.var 5) (.cst (.int 0))) (.cst (.str (Str.ofString "in")))))), (.asg (.nm 3) (.ife (.and (.cmp .NotEq (.var 4) (.lst [])) (.cmp .Gt (.call 10 [(.var 0), (.cst (.int 3))]) (.cst (.int 0)))) (.var 4) (.var 3))), (.ret (.ife (.cmp .NotEq (.var 3) (.lst [])) (.call 11 [(.var 0), (.var 3)]) (.cst .non)))]
def d__law_drawn : DefY := { x := "_law_drawn", st := top 29, ps := ["deck", "net", "stand"], ns := ["deck", "net", "stand", "menu", "some", "deed"], body := .pl c__law_drawn }
def c__law_row : List Ev.St := [(.par 4 5 (.lst []) (.lst [(.var 2)])), (.fr (.nm 6) .rng1 [(.var 3)] [(.asg (.nm 7) (.sub (.var 5) (.una .USub (.cst (.int 1))))), (.asg (.nm 8) (.call 22 [(.var 0), (.var 1), (.var 7)])), (.iff (.cmp .Is (.var 8) (.cst .non)) [(.ret (.tup [(.var 4), (.var 5)]))] []), (.asg (.nm 9) (.call 19 [(.var 7), (.var 8)])), (.iff (.cmp .NotEq (.blt .repr [(.call 21 [(.var 1), (.var 7), (.var 8), (.cmp .Eq (.bin .Mod (.var 6) (.cst (.int 5))) (.cst (.int 1)))])]) (.blt .repr [(.lst [(.cst (.str (Str.ofString "told"))), (.var 9)])])) [(.ret (.tup [(.cst .non), (.var 5)]))] []), (.iff (.cmp .Eq (.bin .Mod (.var 6) (.cst (.int 4))) (.cst (.int 0))) [(.asg (.nm 10) (.call 11 [(.var 0), (.call 20 [(.var 1)])])), (.asg (.nm 11) (.ife (.call 18 [(.var 1), (.var 7), (.var 10)]) (.lst [(.cst (.str (Str.ofString "told"))), (.call 19 [(.var 7), (.var 10)])]) (.lst [(.cst (.str (Str.ofString "refused"))), (.var 10)]))), (.iff (.cmp .NotEq (.blt .repr [(.call 21 [(.var 1), (.var 7), (.var 10), (.cst (.bl false))])]) (.blt .repr [(.var 11)])) [(.ret (.tup [(.cst .non), (.var 5)]))] [])] []), (.par 4 5 (.bin .Add (.var 4) (.lst [(.var 8)])) (.bin .Add (.var 5) (.lst [(.var 9)])))]), (.ret (.tup [(.var 4), (.var 5)]))]
def d__law_row : DefY := { x := "_law_row", st := top 30, ps := ["deck", "net", "stand", "many"], ns := ["deck", "net", "stand", "many", "deeds", "found", "turn", "here", "deed", "behind", "bad", "due"], body := .pl c__law_row }
def c__law_count : List Ev.St := [(.ret (.blt .sum [(.lc (.blt .len [(.var 1)]) [1] (.nm 1) .seq [(.var 0)] (.cst (.bl true)))]))]
def d__law_count : DefY := { x := "_law_count", st := top 31, ps := ["stand"], ns := ["stand", "own"], body := .pl c__law_count }
def c__law_is_long : List Ev.Sx := [(.pln (.asg (.nm 1) (.bin .Add (.cst (.int 2)) (.call 10 [(.var 0), (.cst (.int 3))])))), (.pln (.asg (.nm 2) (.blt .tuple [(.lc (.tup [(.var 10), (.bin .Mod (.blt .int [(.bin .Add (.var 10) (.cst (.int 1)))]) (.var 1)), (.cst (.int 1))]) [10] (.nm 10) .rng1 [(.var 1)] (.cst (.bl true)))]))), (.pln (.asg (.nm 3) (.blt .tuple [(.lc (.blt .tuple [(.lc (.ife (.cmp .Eq (.var 12) (.bin .Mod (.blt .int [(.bin .Add (.var 10) (.cst (.int 1)))]) (.var 1))) (.tup [(.var 10)]) (.tup [])) [12] (.nm 12) .rng1 [(.var 1)] (.cst (.bl true)))]) [10] (.nm 10) .rng1 [(.var 1)] (.cst (.bl true)))]))), (.pln (.par 4 5 (.tup [(.var 1), (.var 2), (.var 3)]) (.call 10 [(.var 0), (.var 1)]))), (.pln (.asg (.nm 6) (.bin .Mult (.tup [(.tup [(.cst (.str (Str.ofString "in"))), (.var 5), (.bin .Mod (.blt .int [(.bin .Add (.var 5) (.cst (.int 1)))]) (.var 1))]), (.tup [(.cst (.str (Str.ofString "out"))), (.var 5)])]) (.cst (.int 200))))), (.pln (.par 7 8 (.blt .tuple [(.lc (.tup []) [11] (.nm 11) .seq [(.var 2)] (.cst (.bl true)))]) (.bin .Mult (.cst (.int 2)) (.call 10 [(.var 0), (.cst (.int 190))])))), (.pln (.iff (.or (.cmp .NotEq (.call 8 [(.var 4), (.var 7), (.var 6)]) (.var 7)) (.cmp .Eq (.call 8 [(.var 4), (.var 7), (.slc (.var 6) false (.cst .non) true (.cst (.int 399)))]) (.var 7))) [(.ret (.cst (.bl false)))] [])), (.trc [(.exp (.call 8 [(.var 4), (.var 7), (.bin .Add (.bin .Add (.slc (.var 6) false (.cst .non) true (.var 8)) (.tup [(.tup [(.cst (.str (Str.ofString "out"))), (.var 5)])])) (.slc (.var 6) true (.var 8) true (.cst (.int 399))))]))] (Str.ofString "Refused") 9 (Str.ofString "deed") (Str.ofString "out") 5), (.pln (.ret (.cst (.bl false))))]
def d__law_is_long : DefY := { x := "_law_is_long", st := top 32, ps := ["deck"], ns := ["deck", "houses", "lanes", "rows", "net", "k", "deeds", "plain", "bad", "refused", "u", "lane", "d"], body := .xs c__law_is_long }
def c_law : List Ev.St := [(.asg (.nm 1) (.call 9 [(.var 0)])), (.iff (.and (.cmp .Eq (.call 10 [(.var 1), (.cst (.int 6))]) (.cst (.int 0))) (.not (.call 25 [(.var 1)]))) [(.ret (.cst (.bl false)))] []), (.fr (.nm 2) .rng1 [(.cst (.int 2))] [(.asg (.nm 3) (.call 13 [(.var 1), (.bin .Add (.cst (.int 2)) (.call 10 [(.var 1), (.cst (.int 4))])), (.ife (.cmp .Eq (.var 2) (.cst (.int 0))) (.cst (.int 6)) (.cst (.int 8))), (.cst (.int 1))])), (.asg (.nm 4) (.ife (.cmp .Eq (.var 2) (.cst (.int 0))) (.blt .tuple [(.lc (.tup []) [13] (.nm 13) .seq [(.sub (.var 3) (.cst (.int 1)))] (.cst (.bl true)))]) (.call 17 [(.var 1), (.var 3), (.call 10 [(.var 1), (.cst (.int 2))])]))), (.asg (.nm 5) (.blt .repr [(.lst [(.var 3), (.var 4)])])), (.asg (.tp [(.nm 6), (.nm 7)]) (.call 23 [(.var 1), (.var 3), (.var 4), (.call 11 [(.var 1), (.lst [(.cst (.int 8)), (.cst (.int 20)), (.cst (.int 30))])])])), (.iff (.cmp .Is (.var 6) (.cst .non)) [(.ret (.cst (.bl false)))] []), (.asg (.nm 8) (.call 10 [(.var 1), (.bin .Add (.blt .len [(.var 6)]) (.cst (.int 1)))])), (.asg (.nm 9) (.lst [(.call 8 [(.var 3), (.var 4), (.blt .tuple [(.var 6)])]), (.calk 8 [] [(.blt .tuple [(.var 6)]), (.var 3), (.var 4)] [1, 2, 0])])), (.iff (.cmp .NotEq (.blt .repr [(.var 9)]) (.blt .repr [(.bin .Mult (.lst [(.sub (.var 7) (.una .USub (.cst (.int 1))))]) (.cst (.int 2)))])) [(.ret (.cst (.bl false)))] []), (.iff (.or (.cmp .NotEq (.call 8 [(.var 3), (.var 4), (.blt .tuple [(.slc (.var 6) false (.cst .non) true (.var 8))])]) (.sub (.var 7) (.var 8))) (.cmp .NotEq (.call 8 [(.var 3), (.sub (.var 7) (.var 8)), (.blt .tuple [(.slc (.var 6) true (.var 8) false (.cst .non))])]) (.sub (.var 7) (.una .USub (.cst (.int 1)))))) [(.ret (.cst (.bl false)))] []), (.fr (.tp [(.nm 10), (.nm 11), (.nm 12)]) .zip [(.var 6), (.var 7), (.slc (.var 7) true (.cst (.int 1)) false (.cst .non))] [(.iff (.cmp .NotEq (.bin .Sub (.call 24 [(.var 12)]) (.call 24 [(.var 11)])) (.ife (.cmp .Eq (.sub (.var 10) (.cst (.int 0))) (.cst (.str (Str.ofString "in")))) (.cst (.int 1)) (.ife (.cmp .Eq (.sub (.var 10) (.cst (.int 0))) (.cst (.str (Str.ofString "out")))) (.una .USub (.cst (.int 1))) (.cst (.int 0))))) [(.ret (.cst (.bl false)))] [])]), (.iff (.or (.cmp .NotEq (.blt .repr [(.lst [(.var 3), (.var 4)])]) (.var 5)) (.cmp .NotEq (.call 8 [(.var 3), (.var 4), (.tup [])]) (.var 4))) [(.ret (.cst (.bl false)))] [])]), (.ret (.cst (.bl true)))]
def d_law : DefY := { x := "law", st := top 33, ps := ["script"], ns := ["script", "deck", "turn", "net", "stand", "before", "deeds", "found", "cut", "told", "deed", "one", "other", "lane"], body := .pl c_law }
def dl : List DefY := [d_serves, d_ahead, d_has_room, d_is_home, d_can_be_done, d_with_letter, d_without_first, d_done, d_led, d__law_deck, d__law_draw, d__law_pick, d__law_mixed, d__law_net, d__law_entry, d__law_cut, d__law_served, d__law_stand, d__law_can, d__law_behind, d__law_all_deeds, d__law_heard, d__law_drawn, d__law_row, d__law_count, d__law_is_long, d_law]
def defs (i : Nat) : Option DefY := dl[i]?
def xf : List Nat := [7, 8]
def xc : List (Str × Option Str) := [(("Refused" : Str), some ("deed" : Str))]
def gl : List (Str × Gn) := [(("len" : Str), Gn.blt),
  (("has_room" : Str), Gn.fn 2 ["net", "stand", "lane"]),
  (("serves" : Str), Gn.fn 0 ["net", "lane", "aim"]),
  (("is_home" : Str), Gn.fn 3 ["net", "lane", "letter"]),
  (("ahead" : Str), Gn.fn 1 ["net", "lane", "aim"]),
  (("can_be_done" : Str), Gn.fn 4 ["net", "stand", "deed"]),
  (("with_letter" : Str), Gn.fn 5 ["stand", "lane", "letter"]),
  (("without_first" : Str), Gn.fn 6 ["stand", "lane"]),
  (("done" : Str), Gn.fn 7 ["net", "stand", "deed"]),
  (("abs" : Str), Gn.blt),
  (("int" : Str), Gn.blt),
  (("range" : Str), Gn.blt),
  (("_law_draw" : Str), Gn.fn 10 ["deck", "many"]),
  (("list" : Str), Gn.blt),
  (("_law_pick" : Str), Gn.fn 11 ["deck", "items"]),
  (("tuple" : Str), Gn.blt),
  (("_law_entry" : Str), Gn.fn 14 ["deck", "lanes", "u"]),
  (("_law_cut" : Str), Gn.fn 15 ["rows", "most"]),
  (("_law_mixed" : Str), Gn.fn 12 ["deck", "items"]),
  (("enumerate" : Str), Gn.blt),
  (("sorted" : Str), Gn.blt),
  (("_law_served" : Str), Gn.fn 16 ["net", "k"]),
  (("_law_all_deeds" : Str), Gn.fn 20 ["net"]),
  (("_law_can" : Str), Gn.fn 18 ["net", "stand", "deed"]),
  (("_law_drawn" : Str), Gn.fn 22 ["deck", "net", "stand"]),
  (("_law_behind" : Str), Gn.fn 19 ["stand", "deed"]),
  (("repr" : Str), Gn.blt),
  (("_law_heard" : Str), Gn.fn 21 ["net", "stand", "deed", "is_named"]),
  (("sum" : Str), Gn.blt),
  (("led" : Str), Gn.fn 8 ["net", "stand", "deeds"]),
  (("_law_deck" : Str), Gn.fn 9 ["script"]),
  (("_law_is_long" : Str), Gn.fn 25 ["deck"]),
  (("_law_net" : Str), Gn.fn 13 ["deck", "houses", "most", "least"]),
  (("_law_stand" : Str), Gn.fn 17 ["deck", "net", "way"]),
  (("_law_row" : Str), Gn.fn 23 ["deck", "net", "stand", "many"]),
  (("zip" : Str), Gn.blt),
  (("_law_count" : Str), Gn.fn 24 ["stand"])]
def kw : List (Nat × Nat × List Str) := [(7, 0, ["net", "deed", "stand"]), (8, 0, ["deeds", "net", "stand"])]
noncomputable abbrev CF : Nat → Nat → List Ev.D → Ev.Sto → Ev.R (Ev.D × Ev.Sto) := callX (tabX defs)
theorem call_serves (l : Nat) (ds : List Ev.D) (S : Ev.Sto) : CF (l + 1) 0 ds S = runFn (CF l) ⟨3, 3, c_serves⟩ ds S := rfl
theorem call_ahead (l : Nat) (ds : List Ev.D) (S : Ev.Sto) : CF (l + 1) 1 ds S = runFn (CF l) ⟨3, 3, c_ahead⟩ ds S := rfl
theorem call_has_room (l : Nat) (ds : List Ev.D) (S : Ev.Sto) : CF (l + 1) 2 ds S = runFn (CF l) ⟨3, 3, c_has_room⟩ ds S := rfl
theorem call_is_home (l : Nat) (ds : List Ev.D) (S : Ev.Sto) : CF (l + 1) 3 ds S = runFn (CF l) ⟨3, 3, c_is_home⟩ ds S := rfl
theorem call_can_be_done (l : Nat) (ds : List Ev.D) (S : Ev.Sto) : CF (l + 1) 4 ds S = runFn (CF l) ⟨3, 5, c_can_be_done⟩ ds S := rfl
theorem call_with_letter (l : Nat) (ds : List Ev.D) (S : Ev.Sto) : CF (l + 1) 5 ds S = runFn (CF l) ⟨3, 3, c_with_letter⟩ ds S := rfl
theorem call_without_first (l : Nat) (ds : List Ev.D) (S : Ev.Sto) : CF (l + 1) 6 ds S = runFn (CF l) ⟨2, 2, c_without_first⟩ ds S := rfl
theorem call_done (l : Nat) (ds : List Ev.D) (S : Ev.Sto) : CF (l + 1) 7 ds S = runX (CF l) ⟨3, 4, c_done⟩ ds S := rfl
theorem call_led (l : Nat) (ds : List Ev.D) (S : Ev.Sto) : CF (l + 1) 8 ds S = runX (CF l) ⟨3, 5, c_led⟩ ds S := rfl
theorem call__law_deck (l : Nat) (ds : List Ev.D) (S : Ev.Sto) : CF (l + 1) 9 ds S = runFn (CF l) ⟨1, 4, c__law_deck⟩ ds S := rfl
theorem call__law_draw (l : Nat) (ds : List Ev.D) (S : Ev.Sto) : CF (l + 1) 10 ds S = runFn (CF l) ⟨2, 5, c__law_draw⟩ ds S := rfl
theorem call__law_pick (l : Nat) (ds : List Ev.D) (S : Ev.Sto) : CF (l + 1) 11 ds S = runFn (CF l) ⟨2, 2, c__law_pick⟩ ds S := rfl
theorem call__law_mixed (l : Nat) (ds : List Ev.D) (S : Ev.Sto) : CF (l + 1) 12 ds S = runFn (CF l) ⟨2, 4, c__law_mixed⟩ ds S := rfl
theorem call__law_net (l : Nat) (ds : List Ev.D) (S : Ev.Sto) : CF (l + 1) 13 ds S = runFn (CF l) ⟨4, 11, c__law_net⟩ ds S := rfl
theorem call__law_entry (l : Nat) (ds : List Ev.D) (S : Ev.Sto) : CF (l + 1) 14 ds S = runFn (CF l) ⟨3, 7, c__law_entry⟩ ds S := rfl
theorem call__law_cut (l : Nat) (ds : List Ev.D) (S : Ev.Sto) : CF (l + 1) 15 ds S = runFn (CF l) ⟨2, 5, c__law_cut⟩ ds S := rfl
theorem call__law_served (l : Nat) (ds : List Ev.D) (S : Ev.Sto) : CF (l + 1) 16 ds S = runFn (CF l) ⟨2, 3, c__law_served⟩ ds S := rfl
theorem call__law_stand (l : Nat) (ds : List Ev.D) (S : Ev.Sto) : CF (l + 1) 17 ds S = runFn (CF l) ⟨3, 13, c__law_stand⟩ ds S := rfl
theorem call__law_can (l : Nat) (ds : List Ev.D) (S : Ev.Sto) : CF (l + 1) 18 ds S = runFn (CF l) ⟨3, 7, c__law_can⟩ ds S := rfl
theorem call__law_behind (l : Nat) (ds : List Ev.D) (S : Ev.Sto) : CF (l + 1) 19 ds S = runFn (CF l) ⟨2, 6, c__law_behind⟩ ds S := rfl
theorem call__law_all_deeds (l : Nat) (ds : List Ev.D) (S : Ev.Sto) : CF (l + 1) 20 ds S = runFn (CF l) ⟨1, 6, c__law_all_deeds⟩ ds S := rfl
theorem call__law_heard (l : Nat) (ds : List Ev.D) (S : Ev.Sto) : CF (l + 1) 21 ds S = runX (CF l) ⟨4, 5, c__law_heard⟩ ds S := rfl
theorem call__law_drawn (l : Nat) (ds : List Ev.D) (S : Ev.Sto) : CF (l + 1) 22 ds S = runFn (CF l) ⟨3, 6, c__law_drawn⟩ ds S := rfl
theorem call__law_row (l : Nat) (ds : List Ev.D) (S : Ev.Sto) : CF (l + 1) 23 ds S = runFn (CF l) ⟨4, 12, c__law_row⟩ ds S := rfl
theorem call__law_count (l : Nat) (ds : List Ev.D) (S : Ev.Sto) : CF (l + 1) 24 ds S = runFn (CF l) ⟨1, 2, c__law_count⟩ ds S := rfl
theorem call__law_is_long (l : Nat) (ds : List Ev.D) (S : Ev.Sto) : CF (l + 1) 25 ds S = runX (CF l) ⟨1, 13, c__law_is_long⟩ ds S := rfl
theorem call_law (l : Nat) (ds : List Ev.D) (S : Ev.Sto) : CF (l + 1) 26 ds S = runFn (CF l) ⟨1, 14, c_law⟩ ds S := rfl
theorem sc_serves : FnScope d_serves.ns d_serves.ps (defScope d_serves.st) := ⟨rfl, rfl, rfl, by decide +kernel, rfl, by decide +kernel, by decide +kernel⟩
theorem cc_serves : mapO (cS ⟨d_serves.ns, gl, kw⟩ 40 (defScope d_serves.st)) (defBody d_serves.st) = some c_serves := by kernel_rfl
theorem sc_ahead : FnScope d_ahead.ns d_ahead.ps (defScope d_ahead.st) := ⟨rfl, rfl, rfl, by decide +kernel, rfl, by decide +kernel, by decide +kernel⟩
theorem cc_ahead : mapO (cS ⟨d_ahead.ns, gl, kw⟩ 40 (defScope d_ahead.st)) (defBody d_ahead.st) = some c_ahead := by kernel_rfl
theorem sc_has_room : FnScope d_has_room.ns d_has_room.ps (defScope d_has_room.st) := ⟨rfl, rfl, rfl, by decide +kernel, rfl, by decide +kernel, by decide +kernel⟩
theorem cc_has_room : mapO (cS ⟨d_has_room.ns, gl, kw⟩ 40 (defScope d_has_room.st)) (defBody d_has_room.st) = some c_has_room := by kernel_rfl
theorem sc_is_home : FnScope d_is_home.ns d_is_home.ps (defScope d_is_home.st) := ⟨rfl, rfl, rfl, by decide +kernel, rfl, by decide +kernel, by decide +kernel⟩
theorem cc_is_home : mapO (cS ⟨d_is_home.ns, gl, kw⟩ 40 (defScope d_is_home.st)) (defBody d_is_home.st) = some c_is_home := by kernel_rfl
theorem sc_can_be_done : FnScope d_can_be_done.ns d_can_be_done.ps (defScope d_can_be_done.st) := ⟨rfl, rfl, rfl, by decide +kernel, rfl, by decide +kernel, by decide +kernel⟩
theorem cc_can_be_done : mapO (cS ⟨d_can_be_done.ns, gl, kw⟩ 40 (defScope d_can_be_done.st)) (defBody d_can_be_done.st) = some c_can_be_done := by kernel_rfl
theorem sc_with_letter : FnScope d_with_letter.ns d_with_letter.ps (defScope d_with_letter.st) := ⟨rfl, rfl, rfl, by decide +kernel, rfl, by decide +kernel, by decide +kernel⟩
theorem cc_with_letter : mapO (cS ⟨d_with_letter.ns, gl, kw⟩ 40 (defScope d_with_letter.st)) (defBody d_with_letter.st) = some c_with_letter := by kernel_rfl
theorem sc_without_first : FnScope d_without_first.ns d_without_first.ps (defScope d_without_first.st) := ⟨rfl, rfl, rfl, by decide +kernel, rfl, by decide +kernel, by decide +kernel⟩
theorem cc_without_first : mapO (cS ⟨d_without_first.ns, gl, kw⟩ 40 (defScope d_without_first.st)) (defBody d_without_first.st) = some c_without_first := by kernel_rfl
theorem sc_done : FnScope d_done.ns d_done.ps (defScope d_done.st) := ⟨rfl, rfl, rfl, by decide +kernel, rfl, by decide +kernel, by decide +kernel⟩
theorem cc_done : mapO (cX ⟨d_done.ns, gl, kw⟩ xf xc 40 (defScope d_done.st)) (defBody d_done.st) = some c_done := by kernel_rfl
theorem sc_led : FnScope d_led.ns d_led.ps (defScope d_led.st) := ⟨rfl, rfl, rfl, by decide +kernel, rfl, by decide +kernel, by decide +kernel⟩
theorem cc_led : mapO (cX ⟨d_led.ns, gl, kw⟩ xf xc 40 (defScope d_led.st)) (defBody d_led.st) = some c_led := by kernel_rfl
theorem sc__law_deck : FnScope d__law_deck.ns d__law_deck.ps (defScope d__law_deck.st) := ⟨rfl, rfl, rfl, by decide +kernel, rfl, by decide +kernel, by decide +kernel⟩
theorem cc__law_deck : mapO (cS ⟨d__law_deck.ns, gl, kw⟩ 40 (defScope d__law_deck.st)) (defBody d__law_deck.st) = some c__law_deck := by kernel_rfl
theorem sc__law_draw : FnScope d__law_draw.ns d__law_draw.ps (defScope d__law_draw.st) := ⟨rfl, rfl, rfl, by decide +kernel, rfl, by decide +kernel, by decide +kernel⟩
theorem cc__law_draw : mapO (cS ⟨d__law_draw.ns, gl, kw⟩ 40 (defScope d__law_draw.st)) (defBody d__law_draw.st) = some c__law_draw := by kernel_rfl
theorem sc__law_pick : FnScope d__law_pick.ns d__law_pick.ps (defScope d__law_pick.st) := ⟨rfl, rfl, rfl, by decide +kernel, rfl, by decide +kernel, by decide +kernel⟩
theorem cc__law_pick : mapO (cS ⟨d__law_pick.ns, gl, kw⟩ 40 (defScope d__law_pick.st)) (defBody d__law_pick.st) = some c__law_pick := by kernel_rfl
theorem sc__law_mixed : FnScope d__law_mixed.ns d__law_mixed.ps (defScope d__law_mixed.st) := ⟨rfl, rfl, rfl, by decide +kernel, rfl, by decide +kernel, by decide +kernel⟩
theorem cc__law_mixed : mapO (cS ⟨d__law_mixed.ns, gl, kw⟩ 40 (defScope d__law_mixed.st)) (defBody d__law_mixed.st) = some c__law_mixed := by kernel_rfl
theorem sc__law_net : FnScope d__law_net.ns d__law_net.ps (defScope d__law_net.st) := ⟨rfl, rfl, rfl, by decide +kernel, rfl, by decide +kernel, by decide +kernel⟩
theorem cc__law_net : mapO (cS ⟨d__law_net.ns, gl, kw⟩ 40 (defScope d__law_net.st)) (defBody d__law_net.st) = some c__law_net := by kernel_rfl
theorem sc__law_entry : FnScope d__law_entry.ns d__law_entry.ps (defScope d__law_entry.st) := ⟨rfl, rfl, rfl, by decide +kernel, rfl, by decide +kernel, by decide +kernel⟩
theorem cc__law_entry : mapO (cS ⟨d__law_entry.ns, gl, kw⟩ 40 (defScope d__law_entry.st)) (defBody d__law_entry.st) = some c__law_entry := by kernel_rfl
theorem sc__law_cut : FnScope d__law_cut.ns d__law_cut.ps (defScope d__law_cut.st) := ⟨rfl, rfl, rfl, by decide +kernel, rfl, by decide +kernel, by decide +kernel⟩
theorem cc__law_cut : mapO (cS ⟨d__law_cut.ns, gl, kw⟩ 40 (defScope d__law_cut.st)) (defBody d__law_cut.st) = some c__law_cut := by kernel_rfl
theorem sc__law_served : FnScope d__law_served.ns d__law_served.ps (defScope d__law_served.st) := ⟨rfl, rfl, rfl, by decide +kernel, rfl, by decide +kernel, by decide +kernel⟩
theorem cc__law_served : mapO (cS ⟨d__law_served.ns, gl, kw⟩ 40 (defScope d__law_served.st)) (defBody d__law_served.st) = some c__law_served := by kernel_rfl
theorem sc__law_stand : FnScope d__law_stand.ns d__law_stand.ps (defScope d__law_stand.st) := ⟨rfl, rfl, rfl, by decide +kernel, rfl, by decide +kernel, by decide +kernel⟩
theorem cc__law_stand : mapO (cS ⟨d__law_stand.ns, gl, kw⟩ 40 (defScope d__law_stand.st)) (defBody d__law_stand.st) = some c__law_stand := by kernel_rfl
theorem sc__law_can : FnScope d__law_can.ns d__law_can.ps (defScope d__law_can.st) := ⟨rfl, rfl, rfl, by decide +kernel, rfl, by decide +kernel, by decide +kernel⟩
theorem cc__law_can : mapO (cS ⟨d__law_can.ns, gl, kw⟩ 40 (defScope d__law_can.st)) (defBody d__law_can.st) = some c__law_can := by kernel_rfl
theorem sc__law_behind : FnScope d__law_behind.ns d__law_behind.ps (defScope d__law_behind.st) := ⟨rfl, rfl, rfl, by decide +kernel, rfl, by decide +kernel, by decide +kernel⟩
theorem cc__law_behind : mapO (cS ⟨d__law_behind.ns, gl, kw⟩ 40 (defScope d__law_behind.st)) (defBody d__law_behind.st) = some c__law_behind := by kernel_rfl
theorem sc__law_all_deeds : FnScope d__law_all_deeds.ns d__law_all_deeds.ps (defScope d__law_all_deeds.st) := ⟨rfl, rfl, rfl, by decide +kernel, rfl, by decide +kernel, by decide +kernel⟩
theorem cc__law_all_deeds : mapO (cS ⟨d__law_all_deeds.ns, gl, kw⟩ 40 (defScope d__law_all_deeds.st)) (defBody d__law_all_deeds.st) = some c__law_all_deeds := by kernel_rfl
theorem sc__law_heard : FnScope d__law_heard.ns d__law_heard.ps (defScope d__law_heard.st) := ⟨rfl, rfl, rfl, by decide +kernel, rfl, by decide +kernel, by decide +kernel⟩
theorem cc__law_heard : mapO (cX ⟨d__law_heard.ns, gl, kw⟩ xf xc 40 (defScope d__law_heard.st)) (defBody d__law_heard.st) = some c__law_heard := by kernel_rfl
theorem sc__law_drawn : FnScope d__law_drawn.ns d__law_drawn.ps (defScope d__law_drawn.st) := ⟨rfl, rfl, rfl, by decide +kernel, rfl, by decide +kernel, by decide +kernel⟩
theorem cc__law_drawn : mapO (cS ⟨d__law_drawn.ns, gl, kw⟩ 40 (defScope d__law_drawn.st)) (defBody d__law_drawn.st) = some c__law_drawn := by kernel_rfl
theorem sc__law_row : FnScope d__law_row.ns d__law_row.ps (defScope d__law_row.st) := ⟨rfl, rfl, rfl, by decide +kernel, rfl, by decide +kernel, by decide +kernel⟩
theorem cc__law_row : mapO (cS ⟨d__law_row.ns, gl, kw⟩ 40 (defScope d__law_row.st)) (defBody d__law_row.st) = some c__law_row := by kernel_rfl
theorem sc__law_count : FnScope d__law_count.ns d__law_count.ps (defScope d__law_count.st) := ⟨rfl, rfl, rfl, by decide +kernel, rfl, by decide +kernel, by decide +kernel⟩
theorem cc__law_count : mapO (cS ⟨d__law_count.ns, gl, kw⟩ 40 (defScope d__law_count.st)) (defBody d__law_count.st) = some c__law_count := by kernel_rfl
theorem sc__law_is_long : FnScope d__law_is_long.ns d__law_is_long.ps (defScope d__law_is_long.st) := ⟨rfl, rfl, rfl, by decide +kernel, rfl, by decide +kernel, by decide +kernel⟩
theorem cc__law_is_long : mapO (cX ⟨d__law_is_long.ns, gl, kw⟩ xf xc 40 (defScope d__law_is_long.st)) (defBody d__law_is_long.st) = some c__law_is_long := by kernel_rfl
theorem sc_law : FnScope d_law.ns d_law.ps (defScope d_law.st) := ⟨rfl, rfl, rfl, by decide +kernel, rfl, by decide +kernel, by decide +kernel⟩
theorem cc_law : mapO (cS ⟨d_law.ns, gl, kw⟩ 40 (defScope d_law.st)) (defBody d_law.st) = some c_law := by kernel_rfl
set_option maxHeartbeats 0 in
theorem facts {w : World} {K : PySem.W.Frag} {h : Heap} {mg : Str → Option Value} {fa : Addr} (X : K.In h) (G : h.Ns mainGlobals mg) (hfa : mg "law" = some (.ref fa))
    (hcl : ∀ x f, xc.lookup x = some f → ∃ C fI, ClsX PySem.Challenge.rw_roomahead_k08_whole_long_rows_of_deeds.prog K mg x f C fI)
    {f0 f1 f2 f3 f4 f5 f6 f7 f8 f9 f10 f11 f12 f13 f14 f15 f16 f17 f18 f19 f20 f21 f22 f23 f24 f25 f26 : Addr} {od0 an0 od1 an1 od2 an2 od3 an3 od4 an4 od5 an5 od6 an6 od7 an7 od8 an8 od9 an9 od10 an10 od11 an11 od12 an12 od13 an13 od14 an14 od15 an15 od16 an16 od17 an17 od18 an18 od19 an19 od20 an20 od21 an21 od22 an22 od23 an23 od24 an24 od25 an25 od26 an26 : Option Addr} {sl0 sl1 sl2 sl3 sl4 sl5 sl6 sl7 sl8 sl9 sl10 sl11 sl12 sl13 sl14 sl15 sl16 sl17 sl18 sl19 sl20 sl21 sl22 sl23 sl24 sl25 sl26 : Array (Option Value)} {oc0 kV0 dc0 pm0 cd0 ct0 oc1 kV1 dc1 pm1 cd1 ct1 oc2 kV2 dc2 pm2 cd2 ct2 oc3 kV3 dc3 pm3 cd3 ct3 oc4 kV4 dc4 pm4 cd4 ct4 oc5 kV5 dc5 pm5 cd5 ct5 oc6 kV6 dc6 pm6 cd6 ct6 oc7 kV7 dc7 pm7 cd7 ct7 oc8 kV8 dc8 pm8 cd8 ct8 oc9 kV9 dc9 pm9 cd9 ct9 oc10 kV10 dc10 pm10 cd10 ct10 oc11 kV11 dc11 pm11 cd11 ct11 oc12 kV12 dc12 pm12 cd12 ct12 oc13 kV13 dc13 pm13 cd13 ct13 oc14 kV14 dc14 pm14 cd14 ct14 oc15 kV15 dc15 pm15 cd15 ct15 oc16 kV16 dc16 pm16 cd16 ct16 oc17 kV17 dc17 pm17 cd17 ct17 oc18 kV18 dc18 pm18 cd18 ct18 oc19 kV19 dc19 pm19 cd19 ct19 oc20 kV20 dc20 pm20 cd20 ct20 oc21 kV21 dc21 pm21 cd21 ct21 oc22 kV22 dc22 pm22 cd22 ct22 oc23 kV23 dc23 pm23 cd23 ct23 oc24 kV24 dc24 pm24 cd24 ct24 oc25 kV25 dc25 pm25 cd25 ct25 oc26 kV26 dc26 pm26 cd26 ct26 : Value}
    (a0 : PySem.W.nsIn K mainGlobals "serves" = some (some (.ref f0))) (l0 : K.lookup f0 = some ⟨oc0, od0, .func (PySem.W.fnOf "serves" "serves" (defArgs (top 4)) (defBody (top 4)) (defScope (top 4)) .none kV0 dc0 pm0 an0 cd0 ct0), sl0⟩) (c0 : PySem.W.codeIn K cd0 "serves" = true) (k0 : PySem.W.keepIn K (.ref f0) = true)
    (a1 : PySem.W.nsIn K mainGlobals "ahead" = some (some (.ref f1))) (l1 : K.lookup f1 = some ⟨oc1, od1, .func (PySem.W.fnOf "ahead" "ahead" (defArgs (top 5)) (defBody (top 5)) (defScope (top 5)) .none kV1 dc1 pm1 an1 cd1 ct1), sl1⟩) (c1 : PySem.W.codeIn K cd1 "ahead" = true) (k1 : PySem.W.keepIn K (.ref f1) = true)
    (a2 : PySem.W.nsIn K mainGlobals "has_room" = some (some (.ref f2))) (l2 : K.lookup f2 = some ⟨oc2, od2, .func (PySem.W.fnOf "has_room" "has_room" (defArgs (top 7)) (defBody (top 7)) (defScope (top 7)) .none kV2 dc2 pm2 an2 cd2 ct2), sl2⟩) (c2 : PySem.W.codeIn K cd2 "has_room" = true) (k2 : PySem.W.keepIn K (.ref f2) = true)
    (a3 : PySem.W.nsIn K mainGlobals "is_home" = some (some (.ref f3))) (l3 : K.lookup f3 = some ⟨oc3, od3, .func (PySem.W.fnOf "is_home" "is_home" (defArgs (top 9)) (defBody (top 9)) (defScope (top 9)) .none kV3 dc3 pm3 an3 cd3 ct3), sl3⟩) (c3 : PySem.W.codeIn K cd3 "is_home" = true) (k3 : PySem.W.keepIn K (.ref f3) = true)
    (a4 : PySem.W.nsIn K mainGlobals "can_be_done" = some (some (.ref f4))) (l4 : K.lookup f4 = some ⟨oc4, od4, .func (PySem.W.fnOf "can_be_done" "can_be_done" (defArgs (top 10)) (defBody (top 10)) (defScope (top 10)) .none kV4 dc4 pm4 an4 cd4 ct4), sl4⟩) (c4 : PySem.W.codeIn K cd4 "can_be_done" = true) (k4 : PySem.W.keepIn K (.ref f4) = true)
    (a5 : PySem.W.nsIn K mainGlobals "with_letter" = some (some (.ref f5))) (l5 : K.lookup f5 = some ⟨oc5, od5, .func (PySem.W.fnOf "with_letter" "with_letter" (defArgs (top 11)) (defBody (top 11)) (defScope (top 11)) .none kV5 dc5 pm5 an5 cd5 ct5), sl5⟩) (c5 : PySem.W.codeIn K cd5 "with_letter" = true) (k5 : PySem.W.keepIn K (.ref f5) = true)
    (a6 : PySem.W.nsIn K mainGlobals "without_first" = some (some (.ref f6))) (l6 : K.lookup f6 = some ⟨oc6, od6, .func (PySem.W.fnOf "without_first" "without_first" (defArgs (top 12)) (defBody (top 12)) (defScope (top 12)) .none kV6 dc6 pm6 an6 cd6 ct6), sl6⟩) (c6 : PySem.W.codeIn K cd6 "without_first" = true) (k6 : PySem.W.keepIn K (.ref f6) = true)
    (a7 : PySem.W.nsIn K mainGlobals "done" = some (some (.ref f7))) (l7 : K.lookup f7 = some ⟨oc7, od7, .func (PySem.W.fnOf "done" "done" (defArgs (top 13)) (defBody (top 13)) (defScope (top 13)) .none kV7 dc7 pm7 an7 cd7 ct7), sl7⟩) (c7 : PySem.W.codeIn K cd7 "done" = true) (k7 : PySem.W.keepIn K (.ref f7) = true)
    (a8 : PySem.W.nsIn K mainGlobals "led" = some (some (.ref f8))) (l8 : K.lookup f8 = some ⟨oc8, od8, .func (PySem.W.fnOf "led" "led" (defArgs (top 14)) (defBody (top 14)) (defScope (top 14)) .none kV8 dc8 pm8 an8 cd8 ct8), sl8⟩) (c8 : PySem.W.codeIn K cd8 "led" = true) (k8 : PySem.W.keepIn K (.ref f8) = true)
    (a9 : PySem.W.nsIn K mainGlobals "_law_deck" = some (some (.ref f9))) (l9 : K.lookup f9 = some ⟨oc9, od9, .func (PySem.W.fnOf "_law_deck" "_law_deck" (defArgs (top 16)) (defBody (top 16)) (defScope (top 16)) .none kV9 dc9 pm9 an9 cd9 ct9), sl9⟩) (c9 : PySem.W.codeIn K cd9 "_law_deck" = true) (k9 : PySem.W.keepIn K (.ref f9) = true)
    (a10 : PySem.W.nsIn K mainGlobals "_law_draw" = some (some (.ref f10))) (l10 : K.lookup f10 = some ⟨oc10, od10, .func (PySem.W.fnOf "_law_draw" "_law_draw" (defArgs (top 17)) (defBody (top 17)) (defScope (top 17)) .none kV10 dc10 pm10 an10 cd10 ct10), sl10⟩) (c10 : PySem.W.codeIn K cd10 "_law_draw" = true) (k10 : PySem.W.keepIn K (.ref f10) = true)
    (a11 : PySem.W.nsIn K mainGlobals "_law_pick" = some (some (.ref f11))) (l11 : K.lookup f11 = some ⟨oc11, od11, .func (PySem.W.fnOf "_law_pick" "_law_pick" (defArgs (top 18)) (defBody (top 18)) (defScope (top 18)) .none kV11 dc11 pm11 an11 cd11 ct11), sl11⟩) (c11 : PySem.W.codeIn K cd11 "_law_pick" = true) (k11 : PySem.W.keepIn K (.ref f11) = true)
    (a12 : PySem.W.nsIn K mainGlobals "_law_mixed" = some (some (.ref f12))) (l12 : K.lookup f12 = some ⟨oc12, od12, .func (PySem.W.fnOf "_law_mixed" "_law_mixed" (defArgs (top 19)) (defBody (top 19)) (defScope (top 19)) .none kV12 dc12 pm12 an12 cd12 ct12), sl12⟩) (c12 : PySem.W.codeIn K cd12 "_law_mixed" = true) (k12 : PySem.W.keepIn K (.ref f12) = true)
    (a13 : PySem.W.nsIn K mainGlobals "_law_net" = some (some (.ref f13))) (l13 : K.lookup f13 = some ⟨oc13, od13, .func (PySem.W.fnOf "_law_net" "_law_net" (defArgs (top 20)) (defBody (top 20)) (defScope (top 20)) .none kV13 dc13 pm13 an13 cd13 ct13), sl13⟩) (c13 : PySem.W.codeIn K cd13 "_law_net" = true) (k13 : PySem.W.keepIn K (.ref f13) = true)
    (a14 : PySem.W.nsIn K mainGlobals "_law_entry" = some (some (.ref f14))) (l14 : K.lookup f14 = some ⟨oc14, od14, .func (PySem.W.fnOf "_law_entry" "_law_entry" (defArgs (top 21)) (defBody (top 21)) (defScope (top 21)) .none kV14 dc14 pm14 an14 cd14 ct14), sl14⟩) (c14 : PySem.W.codeIn K cd14 "_law_entry" = true) (k14 : PySem.W.keepIn K (.ref f14) = true)
    (a15 : PySem.W.nsIn K mainGlobals "_law_cut" = some (some (.ref f15))) (l15 : K.lookup f15 = some ⟨oc15, od15, .func (PySem.W.fnOf "_law_cut" "_law_cut" (defArgs (top 22)) (defBody (top 22)) (defScope (top 22)) .none kV15 dc15 pm15 an15 cd15 ct15), sl15⟩) (c15 : PySem.W.codeIn K cd15 "_law_cut" = true) (k15 : PySem.W.keepIn K (.ref f15) = true)
    (a16 : PySem.W.nsIn K mainGlobals "_law_served" = some (some (.ref f16))) (l16 : K.lookup f16 = some ⟨oc16, od16, .func (PySem.W.fnOf "_law_served" "_law_served" (defArgs (top 23)) (defBody (top 23)) (defScope (top 23)) .none kV16 dc16 pm16 an16 cd16 ct16), sl16⟩) (c16 : PySem.W.codeIn K cd16 "_law_served" = true) (k16 : PySem.W.keepIn K (.ref f16) = true)
    (a17 : PySem.W.nsIn K mainGlobals "_law_stand" = some (some (.ref f17))) (l17 : K.lookup f17 = some ⟨oc17, od17, .func (PySem.W.fnOf "_law_stand" "_law_stand" (defArgs (top 24)) (defBody (top 24)) (defScope (top 24)) .none kV17 dc17 pm17 an17 cd17 ct17), sl17⟩) (c17 : PySem.W.codeIn K cd17 "_law_stand" = true) (k17 : PySem.W.keepIn K (.ref f17) = true)
    (a18 : PySem.W.nsIn K mainGlobals "_law_can" = some (some (.ref f18))) (l18 : K.lookup f18 = some ⟨oc18, od18, .func (PySem.W.fnOf "_law_can" "_law_can" (defArgs (top 25)) (defBody (top 25)) (defScope (top 25)) .none kV18 dc18 pm18 an18 cd18 ct18), sl18⟩) (c18 : PySem.W.codeIn K cd18 "_law_can" = true) (k18 : PySem.W.keepIn K (.ref f18) = true)
    (a19 : PySem.W.nsIn K mainGlobals "_law_behind" = some (some (.ref f19))) (l19 : K.lookup f19 = some ⟨oc19, od19, .func (PySem.W.fnOf "_law_behind" "_law_behind" (defArgs (top 26)) (defBody (top 26)) (defScope (top 26)) .none kV19 dc19 pm19 an19 cd19 ct19), sl19⟩) (c19 : PySem.W.codeIn K cd19 "_law_behind" = true) (k19 : PySem.W.keepIn K (.ref f19) = true)
    (a20 : PySem.W.nsIn K mainGlobals "_law_all_deeds" = some (some (.ref f20))) (l20 : K.lookup f20 = some ⟨oc20, od20, .func (PySem.W.fnOf "_law_all_deeds" "_law_all_deeds" (defArgs (top 27)) (defBody (top 27)) (defScope (top 27)) .none kV20 dc20 pm20 an20 cd20 ct20), sl20⟩) (c20 : PySem.W.codeIn K cd20 "_law_all_deeds" = true) (k20 : PySem.W.keepIn K (.ref f20) = true)
    (a21 : PySem.W.nsIn K mainGlobals "_law_heard" = some (some (.ref f21))) (l21 : K.lookup f21 = some ⟨oc21, od21, .func (PySem.W.fnOf "_law_heard" "_law_heard" (defArgs (top 28)) (defBody (top 28)) (defScope (top 28)) .none kV21 dc21 pm21 an21 cd21 ct21), sl21⟩) (c21 : PySem.W.codeIn K cd21 "_law_heard" = true) (k21 : PySem.W.keepIn K (.ref f21) = true)
    (a22 : PySem.W.nsIn K mainGlobals "_law_drawn" = some (some (.ref f22))) (l22 : K.lookup f22 = some ⟨oc22, od22, .func (PySem.W.fnOf "_law_drawn" "_law_drawn" (defArgs (top 29)) (defBody (top 29)) (defScope (top 29)) .none kV22 dc22 pm22 an22 cd22 ct22), sl22⟩) (c22 : PySem.W.codeIn K cd22 "_law_drawn" = true) (k22 : PySem.W.keepIn K (.ref f22) = true)
    (a23 : PySem.W.nsIn K mainGlobals "_law_row" = some (some (.ref f23))) (l23 : K.lookup f23 = some ⟨oc23, od23, .func (PySem.W.fnOf "_law_row" "_law_row" (defArgs (top 30)) (defBody (top 30)) (defScope (top 30)) .none kV23 dc23 pm23 an23 cd23 ct23), sl23⟩) (c23 : PySem.W.codeIn K cd23 "_law_row" = true) (k23 : PySem.W.keepIn K (.ref f23) = true)
    (a24 : PySem.W.nsIn K mainGlobals "_law_count" = some (some (.ref f24))) (l24 : K.lookup f24 = some ⟨oc24, od24, .func (PySem.W.fnOf "_law_count" "_law_count" (defArgs (top 31)) (defBody (top 31)) (defScope (top 31)) .none kV24 dc24 pm24 an24 cd24 ct24), sl24⟩) (c24 : PySem.W.codeIn K cd24 "_law_count" = true) (k24 : PySem.W.keepIn K (.ref f24) = true)
    (a25 : PySem.W.nsIn K mainGlobals "_law_is_long" = some (some (.ref f25))) (l25 : K.lookup f25 = some ⟨oc25, od25, .func (PySem.W.fnOf "_law_is_long" "_law_is_long" (defArgs (top 32)) (defBody (top 32)) (defScope (top 32)) .none kV25 dc25 pm25 an25 cd25 ct25), sl25⟩) (c25 : PySem.W.codeIn K cd25 "_law_is_long" = true) (k25 : PySem.W.keepIn K (.ref f25) = true)
    (a26 : PySem.W.nsIn K mainGlobals "law" = some (some (.ref f26))) (l26 : K.lookup f26 = some ⟨oc26, od26, .func (PySem.W.fnOf "law" "law" (defArgs (top 33)) (defBody (top 33)) (defScope (top 33)) .none kV26 dc26 pm26 an26 cd26 ct26), sl26⟩) (c26 : PySem.W.codeIn K cd26 "law" = true) (k26 : PySem.W.keepIn K (.ref f26) = true)
    (z0 : PySem.W.nsIn K mainGlobals "len" = some none)
    (z9 : PySem.W.nsIn K mainGlobals "abs" = some none)
    (z10 : PySem.W.nsIn K mainGlobals "int" = some none)
    (z11 : PySem.W.nsIn K mainGlobals "range" = some none)
    (z13 : PySem.W.nsIn K mainGlobals "list" = some none)
    (z15 : PySem.W.nsIn K mainGlobals "tuple" = some none)
    (z19 : PySem.W.nsIn K mainGlobals "enumerate" = some none)
    (z20 : PySem.W.nsIn K mainGlobals "sorted" = some none)
    (z26 : PySem.W.nsIn K mainGlobals "repr" = some none)
    (z28 : PySem.W.nsIn K mainGlobals "sum" = some none)
    (z35 : PySem.W.nsIn K mainGlobals "zip" = some none)
    : PFX PySem.Challenge.rw_roomahead_k08_whole_long_rows_of_deeds.prog w.params K mg gl kw xf xc defs ∧ ∃ fd, Fun K d_law.x d_law.x d_law.st fa fd ∧ ∀ (s : Shared) (v : Value), BindsTo s fd ⟨[v], []⟩ [("script", v)] := by
  have F0 := fun_mk (st := top 4) l0 c0 k0
  have B0 := F0.binds (ps := ["net", "lane", "aim"]) fun _ _ _ _ _ _ us hl => match us, hl with | [_, _, _], _ => rfl
  have F1 := fun_mk (st := top 5) l1 c1 k1
  have B1 := F1.binds (ps := ["net", "lane", "aim"]) fun _ _ _ _ _ _ us hl => match us, hl with | [_, _, _], _ => rfl
  have F2 := fun_mk (st := top 7) l2 c2 k2
  have B2 := F2.binds (ps := ["net", "stand", "lane"]) fun _ _ _ _ _ _ us hl => match us, hl with | [_, _, _], _ => rfl
  have F3 := fun_mk (st := top 9) l3 c3 k3
  have B3 := F3.binds (ps := ["net", "lane", "letter"]) fun _ _ _ _ _ _ us hl => match us, hl with | [_, _, _], _ => rfl
  have F4 := fun_mk (st := top 10) l4 c4 k4
  have B4 := F4.binds (ps := ["net", "stand", "deed"]) fun _ _ _ _ _ _ us hl => match us, hl with | [_, _, _], _ => rfl
  have F5 := fun_mk (st := top 11) l5 c5 k5
  have B5 := F5.binds (ps := ["stand", "lane", "letter"]) fun _ _ _ _ _ _ us hl => match us, hl with | [_, _, _], _ => rfl
  have F6 := fun_mk (st := top 12) l6 c6 k6
  have B6 := F6.binds (ps := ["stand", "lane"]) fun _ _ _ _ _ _ us hl => match us, hl with | [_, _], _ => rfl
  have F7 := fun_mk (st := top 13) l7 c7 k7
  have B7 := F7.binds (ps := ["net", "stand", "deed"]) fun _ _ _ _ _ _ us hl => match us, hl with | [_, _, _], _ => rfl
  have F8 := fun_mk (st := top 14) l8 c8 k8
  have B8 := F8.binds (ps := ["net", "stand", "deeds"]) fun _ _ _ _ _ _ us hl => match us, hl with | [_, _, _], _ => rfl
  have F9 := fun_mk (st := top 16) l9 c9 k9
  have B9 := F9.binds (ps := ["script"]) fun _ _ _ _ _ _ us hl => match us, hl with | [_], _ => rfl
  have F10 := fun_mk (st := top 17) l10 c10 k10
  have B10 := F10.binds (ps := ["deck", "many"]) fun _ _ _ _ _ _ us hl => match us, hl with | [_, _], _ => rfl
  have F11 := fun_mk (st := top 18) l11 c11 k11
  have B11 := F11.binds (ps := ["deck", "items"]) fun _ _ _ _ _ _ us hl => match us, hl with | [_, _], _ => rfl
  have F12 := fun_mk (st := top 19) l12 c12 k12
  have B12 := F12.binds (ps := ["deck", "items"]) fun _ _ _ _ _ _ us hl => match us, hl with | [_, _], _ => rfl
  have F13 := fun_mk (st := top 20) l13 c13 k13
  have B13 := F13.binds (ps := ["deck", "houses", "most", "least"]) fun _ _ _ _ _ _ us hl => match us, hl with | [_, _, _, _], _ => rfl
  have F14 := fun_mk (st := top 21) l14 c14 k14
  have B14 := F14.binds (ps := ["deck", "lanes", "u"]) fun _ _ _ _ _ _ us hl => match us, hl with | [_, _, _], _ => rfl
  have F15 := fun_mk (st := top 22) l15 c15 k15
  have B15 := F15.binds (ps := ["rows", "most"]) fun _ _ _ _ _ _ us hl => match us, hl with | [_, _], _ => rfl
  have F16 := fun_mk (st := top 23) l16 c16 k16
  have B16 := F16.binds (ps := ["net", "k"]) fun _ _ _ _ _ _ us hl => match us, hl with | [_, _], _ => rfl
  have F17 := fun_mk (st := top 24) l17 c17 k17
  have B17 := F17.binds (ps := ["deck", "net", "way"]) fun _ _ _ _ _ _ us hl => match us, hl with | [_, _, _], _ => rfl
  have F18 := fun_mk (st := top 25) l18 c18 k18
  have B18 := F18.binds (ps := ["net", "stand", "deed"]) fun _ _ _ _ _ _ us hl => match us, hl with | [_, _, _], _ => rfl
  have F19 := fun_mk (st := top 26) l19 c19 k19
  have B19 := F19.binds (ps := ["stand", "deed"]) fun _ _ _ _ _ _ us hl => match us, hl with | [_, _], _ => rfl
  have F20 := fun_mk (st := top 27) l20 c20 k20
  have B20 := F20.binds (ps := ["net"]) fun _ _ _ _ _ _ us hl => match us, hl with | [_], _ => rfl
  have F21 := fun_mk (st := top 28) l21 c21 k21
  have B21 := F21.binds (ps := ["net", "stand", "deed", "is_named"]) fun _ _ _ _ _ _ us hl => match us, hl with | [_, _, _, _], _ => rfl
  have F22 := fun_mk (st := top 29) l22 c22 k22
  have B22 := F22.binds (ps := ["deck", "net", "stand"]) fun _ _ _ _ _ _ us hl => match us, hl with | [_, _, _], _ => rfl
  have F23 := fun_mk (st := top 30) l23 c23 k23
  have B23 := F23.binds (ps := ["deck", "net", "stand", "many"]) fun _ _ _ _ _ _ us hl => match us, hl with | [_, _, _, _], _ => rfl
  have F24 := fun_mk (st := top 31) l24 c24 k24
  have B24 := F24.binds (ps := ["stand"]) fun _ _ _ _ _ _ us hl => match us, hl with | [_], _ => rfl
  have F25 := fun_mk (st := top 32) l25 c25 k25
  have B25 := F25.binds (ps := ["deck"]) fun _ _ _ _ _ _ us hl => match us, hl with | [_], _ => rfl
  have F26 := fun_mk (st := top 33) l26 c26 k26
  have B26 := F26.binds (ps := ["script"]) fun _ _ _ _ _ _ us hl => match us, hl with | [_], _ => rfl
  refine ⟨⟨?_, ?_, ?_, ?_, ?_, ?_, ?_, hcl⟩, ?_⟩
  · refine fun x i ps hx => look_all (P := fun x v => ∀ i ps, v = Gn.fn i ps → ∃ d f fd, defs i = some d ∧ d.ps = ps ∧ mg x = some (.ref f) ∧ Fun K d.x d.x d.st f fd ∧ Binds K fd ps [] ∧ (∀ np ks, (i, np, ks) ∈ kw → ∀ gp, permOf ps np ks = some gp → ∀ (s : Shared) (us ws : List Value), K.In s.heap → us.length = np → ws.length = ks.length → (pickL gp (us ++ ws)).length = ps.length → BindsTo s fd ⟨us, ks.zip ws⟩ (ps.zip (pickL gp (us ++ ws)))) ∧ (xf.contains i = true → ∃ b, d.body = .xs b)) (fun p hp => ?_) x _ hx i ps rfl
    simp only [gl, List.mem_cons, List.not_mem_nil, or_false] at hp
    rcases hp with rfl | rfl | rfl | rfl | rfl | rfl | rfl | rfl | rfl | rfl | rfl | rfl | rfl | rfl | rfl | rfl | rfl | rfl | rfl | rfl | rfl | rfl | rfl | rfl | rfl | rfl | rfl | rfl | rfl | rfl | rfl | rfl | rfl | rfl | rfl | rfl | rfl
    · first | (intro _ _ e; cases e; done) | (intro _ e; cases e; done) | (intro e; cases e; done)
    · intro i ps e
      cases e
      refine ⟨d_has_room, f2, _, rfl, rfl, PySem.W.mg_of X G a2, F2, B2, fun np ks hm gp hg => ?_, fun hc => absurd hc (by decide)⟩
      simp only [kw, List.mem_cons, List.not_mem_nil, or_false, Prod.mk.injEq] at hm
      rcases hm with ⟨h1, h2, h3⟩ | ⟨h1, h2, h3⟩
      · exact absurd h1 (by decide)
      · exact absurd h1 (by decide)
    · intro i ps e
      cases e
      refine ⟨d_serves, f0, _, rfl, rfl, PySem.W.mg_of X G a0, F0, B0, fun np ks hm gp hg => ?_, fun hc => absurd hc (by decide)⟩
      simp only [kw, List.mem_cons, List.not_mem_nil, or_false, Prod.mk.injEq] at hm
      rcases hm with ⟨h1, h2, h3⟩ | ⟨h1, h2, h3⟩
      · exact absurd h1 (by decide)
      · exact absurd h1 (by decide)
    · intro i ps e
      cases e
      refine ⟨d_is_home, f3, _, rfl, rfl, PySem.W.mg_of X G a3, F3, B3, fun np ks hm gp hg => ?_, fun hc => absurd hc (by decide)⟩
      simp only [kw, List.mem_cons, List.not_mem_nil, or_false, Prod.mk.injEq] at hm
      rcases hm with ⟨h1, h2, h3⟩ | ⟨h1, h2, h3⟩
      · exact absurd h1 (by decide)
      · exact absurd h1 (by decide)
    · intro i ps e
      cases e
      refine ⟨d_ahead, f1, _, rfl, rfl, PySem.W.mg_of X G a1, F1, B1, fun np ks hm gp hg => ?_, fun hc => absurd hc (by decide)⟩
      simp only [kw, List.mem_cons, List.not_mem_nil, or_false, Prod.mk.injEq] at hm
      rcases hm with ⟨h1, h2, h3⟩ | ⟨h1, h2, h3⟩
      · exact absurd h1 (by decide)
      · exact absurd h1 (by decide)
    · intro i ps e
      cases e
      refine ⟨d_can_be_done, f4, _, rfl, rfl, PySem.W.mg_of X G a4, F4, B4, fun np ks hm gp hg => ?_, fun hc => absurd hc (by decide)⟩
      simp only [kw, List.mem_cons, List.not_mem_nil, or_false, Prod.mk.injEq] at hm
      rcases hm with ⟨h1, h2, h3⟩ | ⟨h1, h2, h3⟩
      · exact absurd h1 (by decide)
      · exact absurd h1 (by decide)
    · intro i ps e
      cases e
      refine ⟨d_with_letter, f5, _, rfl, rfl, PySem.W.mg_of X G a5, F5, B5, fun np ks hm gp hg => ?_, fun hc => absurd hc (by decide)⟩
      simp only [kw, List.mem_cons, List.not_mem_nil, or_false, Prod.mk.injEq] at hm
      rcases hm with ⟨h1, h2, h3⟩ | ⟨h1, h2, h3⟩
      · exact absurd h1 (by decide)
      · exact absurd h1 (by decide)
    · intro i ps e
      cases e
      refine ⟨d_without_first, f6, _, rfl, rfl, PySem.W.mg_of X G a6, F6, B6, fun np ks hm gp hg => ?_, fun hc => absurd hc (by decide)⟩
      simp only [kw, List.mem_cons, List.not_mem_nil, or_false, Prod.mk.injEq] at hm
      rcases hm with ⟨h1, h2, h3⟩ | ⟨h1, h2, h3⟩
      · exact absurd h1 (by decide)
      · exact absurd h1 (by decide)
    · intro i ps e
      cases e
      refine ⟨d_done, f7, _, rfl, rfl, PySem.W.mg_of X G a7, F7, B7, fun np ks hm gp hg => ?_, fun _ => ⟨_, rfl⟩⟩
      simp only [kw, List.mem_cons, List.not_mem_nil, or_false, Prod.mk.injEq] at hm
      rcases hm with ⟨h1, h2, h3⟩ | ⟨h1, h2, h3⟩
      · subst h2; subst h3
        have hg2 : permOf ["net", "stand", "deed"] 0 ["net", "deed", "stand"] = some [0, 2, 1] := by kernel_rfl
        rw [hg2] at hg; cases hg
        intro s us ws _ e1 e2 _
        match us, ws, e1, e2 with
        | [], [w0, w1, w2], _, _ => exact .of_eq rfl
      · exact absurd h1 (by decide)
    · first | (intro _ _ e; cases e; done) | (intro _ e; cases e; done) | (intro e; cases e; done)
    · first | (intro _ _ e; cases e; done) | (intro _ e; cases e; done) | (intro e; cases e; done)
    · first | (intro _ _ e; cases e; done) | (intro _ e; cases e; done) | (intro e; cases e; done)
    · intro i ps e
      cases e
      refine ⟨d__law_draw, f10, _, rfl, rfl, PySem.W.mg_of X G a10, F10, B10, fun np ks hm gp hg => ?_, fun hc => absurd hc (by decide)⟩
      simp only [kw, List.mem_cons, List.not_mem_nil, or_false, Prod.mk.injEq] at hm
      rcases hm with ⟨h1, h2, h3⟩ | ⟨h1, h2, h3⟩
      · exact absurd h1 (by decide)
      · exact absurd h1 (by decide)
    · first | (intro _ _ e; cases e; done) | (intro _ e; cases e; done) | (intro e; cases e; done)
    · intro i ps e
      cases e
      refine ⟨d__law_pick, f11, _, rfl, rfl, PySem.W.mg_of X G a11, F11, B11, fun np ks hm gp hg => ?_, fun hc => absurd hc (by decide)⟩
      simp only [kw, List.mem_cons, List.not_mem_nil, or_false, Prod.mk.injEq] at hm
      rcases hm with ⟨h1, h2, h3⟩ | ⟨h1, h2, h3⟩
      · exact absurd h1 (by decide)
      · exact absurd h1 (by decide)
    · first | (intro _ _ e; cases e; done) | (intro _ e; cases e; done) | (intro e; cases e; done)
    · intro i ps e
      cases e
      refine ⟨d__law_entry, f14, _, rfl, rfl, PySem.W.mg_of X G a14, F14, B14, fun np ks hm gp hg => ?_, fun hc => absurd hc (by decide)⟩
      simp only [kw, List.mem_cons, List.not_mem_nil, or_false, Prod.mk.injEq] at hm
      rcases hm with ⟨h1, h2, h3⟩ | ⟨h1, h2, h3⟩
      · exact absurd h1 (by decide)
      · exact absurd h1 (by decide)
    · intro i ps e
      cases e
      refine ⟨d__law_cut, f15, _, rfl, rfl, PySem.W.mg_of X G a15, F15, B15, fun np ks hm gp hg => ?_, fun hc => absurd hc (by decide)⟩
      simp only [kw, List.mem_cons, List.not_mem_nil, or_false, Prod.mk.injEq] at hm
      rcases hm with ⟨h1, h2, h3⟩ | ⟨h1, h2, h3⟩
      · exact absurd h1 (by decide)
      · exact absurd h1 (by decide)
    · intro i ps e
      cases e
      refine ⟨d__law_mixed, f12, _, rfl, rfl, PySem.W.mg_of X G a12, F12, B12, fun np ks hm gp hg => ?_, fun hc => absurd hc (by decide)⟩
      simp only [kw, List.mem_cons, List.not_mem_nil, or_false, Prod.mk.injEq] at hm
      rcases hm with ⟨h1, h2, h3⟩ | ⟨h1, h2, h3⟩
      · exact absurd h1 (by decide)
      · exact absurd h1 (by decide)
    · first | (intro _ _ e; cases e; done) | (intro _ e; cases e; done) | (intro e; cases e; done)
    · first | (intro _ _ e; cases e; done) | (intro _ e; cases e; done) | (intro e; cases e; done)
    · intro i ps e
      cases e
      refine ⟨d__law_served, f16, _, rfl, rfl, PySem.W.mg_of X G a16, F16, B16, fun np ks hm gp hg => ?_, fun hc => absurd hc (by decide)⟩
      simp only [kw, List.mem_cons, List.not_mem_nil, or_false, Prod.mk.injEq] at hm
      rcases hm with ⟨h1, h2, h3⟩ | ⟨h1, h2, h3⟩
      · exact absurd h1 (by decide)
      · exact absurd h1 (by decide)
    · intro i ps e
      cases e
      refine ⟨d__law_all_deeds, f20, _, rfl, rfl, PySem.W.mg_of X G a20, F20, B20, fun np ks hm gp hg => ?_, fun hc => absurd hc (by decide)⟩
      simp only [kw, List.mem_cons, List.not_mem_nil, or_false, Prod.mk.injEq] at hm
      rcases hm with ⟨h1, h2, h3⟩ | ⟨h1, h2, h3⟩
      · exact absurd h1 (by decide)
      · exact absurd h1 (by decide)
    · intro i ps e
      cases e
      refine ⟨d__law_can, f18, _, rfl, rfl, PySem.W.mg_of X G a18, F18, B18, fun np ks hm gp hg => ?_, fun hc => absurd hc (by decide)⟩
      simp only [kw, List.mem_cons, List.not_mem_nil, or_false, Prod.mk.injEq] at hm
      rcases hm with ⟨h1, h2, h3⟩ | ⟨h1, h2, h3⟩
      · exact absurd h1 (by decide)
      · exact absurd h1 (by decide)
    · intro i ps e
      cases e
      refine ⟨d__law_drawn, f22, _, rfl, rfl, PySem.W.mg_of X G a22, F22, B22, fun np ks hm gp hg => ?_, fun hc => absurd hc (by decide)⟩
      simp only [kw, List.mem_cons, List.not_mem_nil, or_false, Prod.mk.injEq] at hm
      rcases hm with ⟨h1, h2, h3⟩ | ⟨h1, h2, h3⟩
      · exact absurd h1 (by decide)
      · exact absurd h1 (by decide)
    · intro i ps e
      cases e
      refine ⟨d__law_behind, f19, _, rfl, rfl, PySem.W.mg_of X G a19, F19, B19, fun np ks hm gp hg => ?_, fun hc => absurd hc (by decide)⟩
      simp only [kw, List.mem_cons, List.not_mem_nil, or_false, Prod.mk.injEq] at hm
      rcases hm with ⟨h1, h2, h3⟩ | ⟨h1, h2, h3⟩
      · exact absurd h1 (by decide)
      · exact absurd h1 (by decide)
    · first | (intro _ _ e; cases e; done) | (intro _ e; cases e; done) | (intro e; cases e; done)
    · intro i ps e
      cases e
      refine ⟨d__law_heard, f21, _, rfl, rfl, PySem.W.mg_of X G a21, F21, B21, fun np ks hm gp hg => ?_, fun hc => absurd hc (by decide)⟩
      simp only [kw, List.mem_cons, List.not_mem_nil, or_false, Prod.mk.injEq] at hm
      rcases hm with ⟨h1, h2, h3⟩ | ⟨h1, h2, h3⟩
      · exact absurd h1 (by decide)
      · exact absurd h1 (by decide)
    · first | (intro _ _ e; cases e; done) | (intro _ e; cases e; done) | (intro e; cases e; done)
    · intro i ps e
      cases e
      refine ⟨d_led, f8, _, rfl, rfl, PySem.W.mg_of X G a8, F8, B8, fun np ks hm gp hg => ?_, fun _ => ⟨_, rfl⟩⟩
      simp only [kw, List.mem_cons, List.not_mem_nil, or_false, Prod.mk.injEq] at hm
      rcases hm with ⟨h1, h2, h3⟩ | ⟨h1, h2, h3⟩
      · exact absurd h1 (by decide)
      · subst h2; subst h3
        have hg2 : permOf ["net", "stand", "deeds"] 0 ["deeds", "net", "stand"] = some [1, 2, 0] := by kernel_rfl
        rw [hg2] at hg; cases hg
        intro s us ws _ e1 e2 _
        match us, ws, e1, e2 with
        | [], [w0, w1, w2], _, _ => exact .of_eq rfl
    · intro i ps e
      cases e
      refine ⟨d__law_deck, f9, _, rfl, rfl, PySem.W.mg_of X G a9, F9, B9, fun np ks hm gp hg => ?_, fun hc => absurd hc (by decide)⟩
      simp only [kw, List.mem_cons, List.not_mem_nil, or_false, Prod.mk.injEq] at hm
      rcases hm with ⟨h1, h2, h3⟩ | ⟨h1, h2, h3⟩
      · exact absurd h1 (by decide)
      · exact absurd h1 (by decide)
    · intro i ps e
      cases e
      refine ⟨d__law_is_long, f25, _, rfl, rfl, PySem.W.mg_of X G a25, F25, B25, fun np ks hm gp hg => ?_, fun hc => absurd hc (by decide)⟩
      simp only [kw, List.mem_cons, List.not_mem_nil, or_false, Prod.mk.injEq] at hm
      rcases hm with ⟨h1, h2, h3⟩ | ⟨h1, h2, h3⟩
      · exact absurd h1 (by decide)
      · exact absurd h1 (by decide)
    · intro i ps e
      cases e
      refine ⟨d__law_net, f13, _, rfl, rfl, PySem.W.mg_of X G a13, F13, B13, fun np ks hm gp hg => ?_, fun hc => absurd hc (by decide)⟩
      simp only [kw, List.mem_cons, List.not_mem_nil, or_false, Prod.mk.injEq] at hm
      rcases hm with ⟨h1, h2, h3⟩ | ⟨h1, h2, h3⟩
      · exact absurd h1 (by decide)
      · exact absurd h1 (by decide)
    · intro i ps e
      cases e
      refine ⟨d__law_stand, f17, _, rfl, rfl, PySem.W.mg_of X G a17, F17, B17, fun np ks hm gp hg => ?_, fun hc => absurd hc (by decide)⟩
      simp only [kw, List.mem_cons, List.not_mem_nil, or_false, Prod.mk.injEq] at hm
      rcases hm with ⟨h1, h2, h3⟩ | ⟨h1, h2, h3⟩
      · exact absurd h1 (by decide)
      · exact absurd h1 (by decide)
    · intro i ps e
      cases e
      refine ⟨d__law_row, f23, _, rfl, rfl, PySem.W.mg_of X G a23, F23, B23, fun np ks hm gp hg => ?_, fun hc => absurd hc (by decide)⟩
      simp only [kw, List.mem_cons, List.not_mem_nil, or_false, Prod.mk.injEq] at hm
      rcases hm with ⟨h1, h2, h3⟩ | ⟨h1, h2, h3⟩
      · exact absurd h1 (by decide)
      · exact absurd h1 (by decide)
    · first | (intro _ _ e; cases e; done) | (intro _ e; cases e; done) | (intro e; cases e; done)
    · intro i ps e
      cases e
      refine ⟨d__law_count, f24, _, rfl, rfl, PySem.W.mg_of X G a24, F24, B24, fun np ks hm gp hg => ?_, fun hc => absurd hc (by decide)⟩
      simp only [kw, List.mem_cons, List.not_mem_nil, or_false, Prod.mk.injEq] at hm
      rcases hm with ⟨h1, h2, h3⟩ | ⟨h1, h2, h3⟩
      · exact absurd h1 (by decide)
      · exact absurd h1 (by decide)
  · refine fun x d hx => look_all (P := fun x v => ∀ d, v = Gn.cst d → ∃ w u, mg x = some u ∧ RelV w u ∧ ∀ H m, RepD K H m d w) (fun p hp => ?_) x _ hx d rfl
    simp only [gl, List.mem_cons, List.not_mem_nil, or_false] at hp
    rcases hp with rfl | rfl | rfl | rfl | rfl | rfl | rfl | rfl | rfl | rfl | rfl | rfl | rfl | rfl | rfl | rfl | rfl | rfl | rfl | rfl | rfl | rfl | rfl | rfl | rfl | rfl | rfl | rfl | rfl | rfl | rfl | rfl | rfl | rfl | rfl | rfl | rfl
    · first | (intro _ _ e; cases e; done) | (intro _ e; cases e; done) | (intro e; cases e; done)
    · first | (intro _ _ e; cases e; done) | (intro _ e; cases e; done) | (intro e; cases e; done)
    · first | (intro _ _ e; cases e; done) | (intro _ e; cases e; done) | (intro e; cases e; done)
    · first | (intro _ _ e; cases e; done) | (intro _ e; cases e; done) | (intro e; cases e; done)
    · first | (intro _ _ e; cases e; done) | (intro _ e; cases e; done) | (intro e; cases e; done)
    · first | (intro _ _ e; cases e; done) | (intro _ e; cases e; done) | (intro e; cases e; done)
    · first | (intro _ _ e; cases e; done) | (intro _ e; cases e; done) | (intro e; cases e; done)
    · first | (intro _ _ e; cases e; done) | (intro _ e; cases e; done) | (intro e; cases e; done)
    · first | (intro _ _ e; cases e; done) | (intro _ e; cases e; done) | (intro e; cases e; done)
    · first | (intro _ _ e; cases e; done) | (intro _ e; cases e; done) | (intro e; cases e; done)
    · first | (intro _ _ e; cases e; done) | (intro _ e; cases e; done) | (intro e; cases e; done)
    · first | (intro _ _ e; cases e; done) | (intro _ e; cases e; done) | (intro e; cases e; done)
    · first | (intro _ _ e; cases e; done) | (intro _ e; cases e; done) | (intro e; cases e; done)
    · first | (intro _ _ e; cases e; done) | (intro _ e; cases e; done) | (intro e; cases e; done)
    · first | (intro _ _ e; cases e; done) | (intro _ e; cases e; done) | (intro e; cases e; done)
    · first | (intro _ _ e; cases e; done) | (intro _ e; cases e; done) | (intro e; cases e; done)
    · first | (intro _ _ e; cases e; done) | (intro _ e; cases e; done) | (intro e; cases e; done)
    · first | (intro _ _ e; cases e; done) | (intro _ e; cases e; done) | (intro e; cases e; done)
    · first | (intro _ _ e; cases e; done) | (intro _ e; cases e; done) | (intro e; cases e; done)
    · first | (intro _ _ e; cases e; done) | (intro _ e; cases e; done) | (intro e; cases e; done)
    · first | (intro _ _ e; cases e; done) | (intro _ e; cases e; done) | (intro e; cases e; done)
    · first | (intro _ _ e; cases e; done) | (intro _ e; cases e; done) | (intro e; cases e; done)
    · first | (intro _ _ e; cases e; done) | (intro _ e; cases e; done) | (intro e; cases e; done)
    · first | (intro _ _ e; cases e; done) | (intro _ e; cases e; done) | (intro e; cases e; done)
    · first | (intro _ _ e; cases e; done) | (intro _ e; cases e; done) | (intro e; cases e; done)
    · first | (intro _ _ e; cases e; done) | (intro _ e; cases e; done) | (intro e; cases e; done)
    · first | (intro _ _ e; cases e; done) | (intro _ e; cases e; done) | (intro e; cases e; done)
    · first | (intro _ _ e; cases e; done) | (intro _ e; cases e; done) | (intro e; cases e; done)
    · first | (intro _ _ e; cases e; done) | (intro _ e; cases e; done) | (intro e; cases e; done)
    · first | (intro _ _ e; cases e; done) | (intro _ e; cases e; done) | (intro e; cases e; done)
    · first | (intro _ _ e; cases e; done) | (intro _ e; cases e; done) | (intro e; cases e; done)
    · first | (intro _ _ e; cases e; done) | (intro _ e; cases e; done) | (intro e; cases e; done)
    · first | (intro _ _ e; cases e; done) | (intro _ e; cases e; done) | (intro e; cases e; done)
    · first | (intro _ _ e; cases e; done) | (intro _ e; cases e; done) | (intro e; cases e; done)
    · first | (intro _ _ e; cases e; done) | (intro _ e; cases e; done) | (intro e; cases e; done)
    · first | (intro _ _ e; cases e; done) | (intro _ e; cases e; done) | (intro e; cases e; done)
    · first | (intro _ _ e; cases e; done) | (intro _ e; cases e; done) | (intro e; cases e; done)
  · refine fun x hx => look_all (P := fun x v => v = Gn.blt → mg x = none) (fun p hp => ?_) x _ hx rfl
    simp only [gl, List.mem_cons, List.not_mem_nil, or_false] at hp
    rcases hp with rfl | rfl | rfl | rfl | rfl | rfl | rfl | rfl | rfl | rfl | rfl | rfl | rfl | rfl | rfl | rfl | rfl | rfl | rfl | rfl | rfl | rfl | rfl | rfl | rfl | rfl | rfl | rfl | rfl | rfl | rfl | rfl | rfl | rfl | rfl | rfl | rfl
    · exact fun _ => PySem.W.mg_none_of X G z0
    · first | (intro _ _ e; cases e; done) | (intro _ e; cases e; done) | (intro e; cases e; done)
    · first | (intro _ _ e; cases e; done) | (intro _ e; cases e; done) | (intro e; cases e; done)
    · first | (intro _ _ e; cases e; done) | (intro _ e; cases e; done) | (intro e; cases e; done)
    · first | (intro _ _ e; cases e; done) | (intro _ e; cases e; done) | (intro e; cases e; done)
    · first | (intro _ _ e; cases e; done) | (intro _ e; cases e; done) | (intro e; cases e; done)
    · first | (intro _ _ e; cases e; done) | (intro _ e; cases e; done) | (intro e; cases e; done)
    · first | (intro _ _ e; cases e; done) | (intro _ e; cases e; done) | (intro e; cases e; done)
    · first | (intro _ _ e; cases e; done) | (intro _ e; cases e; done) | (intro e; cases e; done)
    · exact fun _ => PySem.W.mg_none_of X G z9
    · exact fun _ => PySem.W.mg_none_of X G z10
    · exact fun _ => PySem.W.mg_none_of X G z11
    · first | (intro _ _ e; cases e; done) | (intro _ e; cases e; done) | (intro e; cases e; done)
    · exact fun _ => PySem.W.mg_none_of X G z13
    · first | (intro _ _ e; cases e; done) | (intro _ e; cases e; done) | (intro e; cases e; done)
    · exact fun _ => PySem.W.mg_none_of X G z15
    · first | (intro _ _ e; cases e; done) | (intro _ e; cases e; done) | (intro e; cases e; done)
    · first | (intro _ _ e; cases e; done) | (intro _ e; cases e; done) | (intro e; cases e; done)
    · first | (intro _ _ e; cases e; done) | (intro _ e; cases e; done) | (intro e; cases e; done)
    · exact fun _ => PySem.W.mg_none_of X G z19
    · exact fun _ => PySem.W.mg_none_of X G z20
    · first | (intro _ _ e; cases e; done) | (intro _ e; cases e; done) | (intro e; cases e; done)
    · first | (intro _ _ e; cases e; done) | (intro _ e; cases e; done) | (intro e; cases e; done)
    · first | (intro _ _ e; cases e; done) | (intro _ e; cases e; done) | (intro e; cases e; done)
    · first | (intro _ _ e; cases e; done) | (intro _ e; cases e; done) | (intro e; cases e; done)
    · first | (intro _ _ e; cases e; done) | (intro _ e; cases e; done) | (intro e; cases e; done)
    · exact fun _ => PySem.W.mg_none_of X G z26
    · first | (intro _ _ e; cases e; done) | (intro _ e; cases e; done) | (intro e; cases e; done)
    · exact fun _ => PySem.W.mg_none_of X G z28
    · first | (intro _ _ e; cases e; done) | (intro _ e; cases e; done) | (intro e; cases e; done)
    · first | (intro _ _ e; cases e; done) | (intro _ e; cases e; done) | (intro e; cases e; done)
    · first | (intro _ _ e; cases e; done) | (intro _ e; cases e; done) | (intro e; cases e; done)
    · first | (intro _ _ e; cases e; done) | (intro _ e; cases e; done) | (intro e; cases e; done)
    · first | (intro _ _ e; cases e; done) | (intro _ e; cases e; done) | (intro e; cases e; done)
    · first | (intro _ _ e; cases e; done) | (intro _ e; cases e; done) | (intro e; cases e; done)
    · exact fun _ => PySem.W.mg_none_of X G z35
    · first | (intro _ _ e; cases e; done) | (intro _ e; cases e; done) | (intro e; cases e; done)
  · refine fun x kvs hx => look_all (P := fun x v => ∀ kvs, v = Gn.gdc kvs → ∃ a, mg x = some (.ref a) ∧ GDct w.params K a kvs) (fun p hp => ?_) x _ hx kvs rfl
    simp only [gl, List.mem_cons, List.not_mem_nil, or_false] at hp
    rcases hp with rfl | rfl | rfl | rfl | rfl | rfl | rfl | rfl | rfl | rfl | rfl | rfl | rfl | rfl | rfl | rfl | rfl | rfl | rfl | rfl | rfl | rfl | rfl | rfl | rfl | rfl | rfl | rfl | rfl | rfl | rfl | rfl | rfl | rfl | rfl | rfl | rfl
    · first | (intro _ _ e; cases e; done) | (intro _ e; cases e; done) | (intro e; cases e; done)
    · first | (intro _ _ e; cases e; done) | (intro _ e; cases e; done) | (intro e; cases e; done)
    · first | (intro _ _ e; cases e; done) | (intro _ e; cases e; done) | (intro e; cases e; done)
    · first | (intro _ _ e; cases e; done) | (intro _ e; cases e; done) | (intro e; cases e; done)
    · first | (intro _ _ e; cases e; done) | (intro _ e; cases e; done) | (intro e; cases e; done)
    · first | (intro _ _ e; cases e; done) | (intro _ e; cases e; done) | (intro e; cases e; done)
    · first | (intro _ _ e; cases e; done) | (intro _ e; cases e; done) | (intro e; cases e; done)
    · first | (intro _ _ e; cases e; done) | (intro _ e; cases e; done) | (intro e; cases e; done)
    · first | (intro _ _ e; cases e; done) | (intro _ e; cases e; done) | (intro e; cases e; done)
    · first | (intro _ _ e; cases e; done) | (intro _ e; cases e; done) | (intro e; cases e; done)
    · first | (intro _ _ e; cases e; done) | (intro _ e; cases e; done) | (intro e; cases e; done)
    · first | (intro _ _ e; cases e; done) | (intro _ e; cases e; done) | (intro e; cases e; done)
    · first | (intro _ _ e; cases e; done) | (intro _ e; cases e; done) | (intro e; cases e; done)
    · first | (intro _ _ e; cases e; done) | (intro _ e; cases e; done) | (intro e; cases e; done)
    · first | (intro _ _ e; cases e; done) | (intro _ e; cases e; done) | (intro e; cases e; done)
    · first | (intro _ _ e; cases e; done) | (intro _ e; cases e; done) | (intro e; cases e; done)
    · first | (intro _ _ e; cases e; done) | (intro _ e; cases e; done) | (intro e; cases e; done)
    · first | (intro _ _ e; cases e; done) | (intro _ e; cases e; done) | (intro e; cases e; done)
    · first | (intro _ _ e; cases e; done) | (intro _ e; cases e; done) | (intro e; cases e; done)
    · first | (intro _ _ e; cases e; done) | (intro _ e; cases e; done) | (intro e; cases e; done)
    · first | (intro _ _ e; cases e; done) | (intro _ e; cases e; done) | (intro e; cases e; done)
    · first | (intro _ _ e; cases e; done) | (intro _ e; cases e; done) | (intro e; cases e; done)
    · first | (intro _ _ e; cases e; done) | (intro _ e; cases e; done) | (intro e; cases e; done)
    · first | (intro _ _ e; cases e; done) | (intro _ e; cases e; done) | (intro e; cases e; done)
    · first | (intro _ _ e; cases e; done) | (intro _ e; cases e; done) | (intro e; cases e; done)
    · first | (intro _ _ e; cases e; done) | (intro _ e; cases e; done) | (intro e; cases e; done)
    · first | (intro _ _ e; cases e; done) | (intro _ e; cases e; done) | (intro e; cases e; done)
    · first | (intro _ _ e; cases e; done) | (intro _ e; cases e; done) | (intro e; cases e; done)
    · first | (intro _ _ e; cases e; done) | (intro _ e; cases e; done) | (intro e; cases e; done)
    · first | (intro _ _ e; cases e; done) | (intro _ e; cases e; done) | (intro e; cases e; done)
    · first | (intro _ _ e; cases e; done) | (intro _ e; cases e; done) | (intro e; cases e; done)
    · first | (intro _ _ e; cases e; done) | (intro _ e; cases e; done) | (intro e; cases e; done)
    · first | (intro _ _ e; cases e; done) | (intro _ e; cases e; done) | (intro e; cases e; done)
    · first | (intro _ _ e; cases e; done) | (intro _ e; cases e; done) | (intro e; cases e; done)
    · first | (intro _ _ e; cases e; done) | (intro _ e; cases e; done) | (intro e; cases e; done)
    · first | (intro _ _ e; cases e; done) | (intro _ e; cases e; done) | (intro e; cases e; done)
    · first | (intro _ _ e; cases e; done) | (intro _ e; cases e; done) | (intro e; cases e; done)
  · intro i d hd
    have hm : d ∈ dl := List.mem_of_getElem? hd
    simp only [dl, List.mem_cons, List.not_mem_nil, or_false] at hm
    rcases hm with rfl | rfl | rfl | rfl | rfl | rfl | rfl | rfl | rfl | rfl | rfl | rfl | rfl | rfl | rfl | rfl | rfl | rfl | rfl | rfl | rfl | rfl | rfl | rfl | rfl | rfl | rfl
    · exact sc_serves
    · exact sc_ahead
    · exact sc_has_room
    · exact sc_is_home
    · exact sc_can_be_done
    · exact sc_with_letter
    · exact sc_without_first
    · exact sc_done
    · exact sc_led
    · exact sc__law_deck
    · exact sc__law_draw
    · exact sc__law_pick
    · exact sc__law_mixed
    · exact sc__law_net
    · exact sc__law_entry
    · exact sc__law_cut
    · exact sc__law_served
    · exact sc__law_stand
    · exact sc__law_can
    · exact sc__law_behind
    · exact sc__law_all_deeds
    · exact sc__law_heard
    · exact sc__law_drawn
    · exact sc__law_row
    · exact sc__law_count
    · exact sc__law_is_long
    · exact sc_law
  · intro i d b hd hb
    have hm : d ∈ dl := List.mem_of_getElem? hd
    simp only [dl, List.mem_cons, List.not_mem_nil, or_false] at hm
    rcases hm with rfl | rfl | rfl | rfl | rfl | rfl | rfl | rfl | rfl | rfl | rfl | rfl | rfl | rfl | rfl | rfl | rfl | rfl | rfl | rfl | rfl | rfl | rfl | rfl | rfl | rfl | rfl
    · have hb2 : BodyE.pl c_serves = .pl b := hb
      cases hb2
      exact cc_serves
    · have hb2 : BodyE.pl c_ahead = .pl b := hb
      cases hb2
      exact cc_ahead
    · have hb2 : BodyE.pl c_has_room = .pl b := hb
      cases hb2
      exact cc_has_room
    · have hb2 : BodyE.pl c_is_home = .pl b := hb
      cases hb2
      exact cc_is_home
    · have hb2 : BodyE.pl c_can_be_done = .pl b := hb
      cases hb2
      exact cc_can_be_done
    · have hb2 : BodyE.pl c_with_letter = .pl b := hb
      cases hb2
      exact cc_with_letter
    · have hb2 : BodyE.pl c_without_first = .pl b := hb
      cases hb2
      exact cc_without_first
    · have hb2 : BodyE.xs c_done = .pl b := hb
      cases hb2
    · have hb2 : BodyE.xs c_led = .pl b := hb
      cases hb2
    · have hb2 : BodyE.pl c__law_deck = .pl b := hb
      cases hb2
      exact cc__law_deck
    · have hb2 : BodyE.pl c__law_draw = .pl b := hb
      cases hb2
      exact cc__law_draw
    · have hb2 : BodyE.pl c__law_pick = .pl b := hb
      cases hb2
      exact cc__law_pick
    · have hb2 : BodyE.pl c__law_mixed = .pl b := hb
      cases hb2
      exact cc__law_mixed
    · have hb2 : BodyE.pl c__law_net = .pl b := hb
      cases hb2
      exact cc__law_net
    · have hb2 : BodyE.pl c__law_entry = .pl b := hb
      cases hb2
      exact cc__law_entry
    · have hb2 : BodyE.pl c__law_cut = .pl b := hb
      cases hb2
      exact cc__law_cut
    · have hb2 : BodyE.pl c__law_served = .pl b := hb
      cases hb2
      exact cc__law_served
    · have hb2 : BodyE.pl c__law_stand = .pl b := hb
      cases hb2
      exact cc__law_stand
    · have hb2 : BodyE.pl c__law_can = .pl b := hb
      cases hb2
      exact cc__law_can
    · have hb2 : BodyE.pl c__law_behind = .pl b := hb
      cases hb2
      exact cc__law_behind
    · have hb2 : BodyE.pl c__law_all_deeds = .pl b := hb
      cases hb2
      exact cc__law_all_deeds
    · have hb2 : BodyE.xs c__law_heard = .pl b := hb
      cases hb2
    · have hb2 : BodyE.pl c__law_drawn = .pl b := hb
      cases hb2
      exact cc__law_drawn
    · have hb2 : BodyE.pl c__law_row = .pl b := hb
      cases hb2
      exact cc__law_row
    · have hb2 : BodyE.pl c__law_count = .pl b := hb
      cases hb2
      exact cc__law_count
    · have hb2 : BodyE.xs c__law_is_long = .pl b := hb
      cases hb2
    · have hb2 : BodyE.pl c_law = .pl b := hb
      cases hb2
      exact cc_law
  · intro i d b hd hb
    have hm : d ∈ dl := List.mem_of_getElem? hd
    simp only [dl, List.mem_cons, List.not_mem_nil, or_false] at hm
    rcases hm with rfl | rfl | rfl | rfl | rfl | rfl | rfl | rfl | rfl | rfl | rfl | rfl | rfl | rfl | rfl | rfl | rfl | rfl | rfl | rfl | rfl | rfl | rfl | rfl | rfl | rfl | rfl
    · have hb2 : BodyE.pl c_serves = .xs b := hb
      cases hb2
    · have hb2 : BodyE.pl c_ahead = .xs b := hb
      cases hb2
    · have hb2 : BodyE.pl c_has_room = .xs b := hb
      cases hb2
    · have hb2 : BodyE.pl c_is_home = .xs b := hb
      cases hb2
    · have hb2 : BodyE.pl c_can_be_done = .xs b := hb
      cases hb2
    · have hb2 : BodyE.pl c_with_letter = .xs b := hb
      cases hb2
    · have hb2 : BodyE.pl c_without_first = .xs b := hb
      cases hb2
    · have hb2 : BodyE.xs c_done = .xs b := hb
      cases hb2
      exact cc_done
    · have hb2 : BodyE.xs c_led = .xs b := hb
      cases hb2
      exact cc_led
    · have hb2 : BodyE.pl c__law_deck = .xs b := hb
      cases hb2
    · have hb2 : BodyE.pl c__law_draw = .xs b := hb
      cases hb2
    · have hb2 : BodyE.pl c__law_pick = .xs b := hb
      cases hb2
    · have hb2 : BodyE.pl c__law_mixed = .xs b := hb
      cases hb2
    · have hb2 : BodyE.pl c__law_net = .xs b := hb
      cases hb2
    · have hb2 : BodyE.pl c__law_entry = .xs b := hb
      cases hb2
    · have hb2 : BodyE.pl c__law_cut = .xs b := hb
      cases hb2
    · have hb2 : BodyE.pl c__law_served = .xs b := hb
      cases hb2
    · have hb2 : BodyE.pl c__law_stand = .xs b := hb
      cases hb2
    · have hb2 : BodyE.pl c__law_can = .xs b := hb
      cases hb2
    · have hb2 : BodyE.pl c__law_behind = .xs b := hb
      cases hb2
    · have hb2 : BodyE.pl c__law_all_deeds = .xs b := hb
      cases hb2
    · have hb2 : BodyE.xs c__law_heard = .xs b := hb
      cases hb2
      exact cc__law_heard
    · have hb2 : BodyE.pl c__law_drawn = .xs b := hb
      cases hb2
    · have hb2 : BodyE.pl c__law_row = .xs b := hb
      cases hb2
    · have hb2 : BodyE.pl c__law_count = .xs b := hb
      cases hb2
    · have hb2 : BodyE.xs c__law_is_long = .xs b := hb
      cases hb2
      exact cc__law_is_long
    · have hb2 : BodyE.pl c_law = .xs b := hb
      cases hb2
  · have e := hfa.symm.trans (PySem.W.mg_of X G a26)
    cases e
    exact ⟨_, F26, fun s v => .of_eq rfl⟩
end K08
set_option autoImplicit false
set_option linter.all false
namespace K08
open PySem
open Ev
theorem via {P : (List Ev.D → Ev.Sto → Ev.R (Ev.D × Ev.Sto)) → Prop} {f g : List Ev.D → Ev.Sto → Ev.R (Ev.D × Ev.Sto)} (h : ∀ ds S, f ds S = g ds S) (hg : P g) : P f := by
  have e : f = g := funext fun ds => funext fun S => h ds S
  rw [e]; exact hg
theorem C_serves (l : Nat) (N : Net) (k d : Nat) (S : Sto) (w : N.WF) (hk : k < N.lanes.length) (hd : d < N.h) : CF (l + 1) 0 [encN N, .int k, .int d] S = .ok (.bl (decide (k ∈ N.ent (N.st k) d)), S) := by rw [call_serves]; exact serves_ok w hk hd S
theorem C_ahead (l : Nat) (N : Net) (k d : Nat) (S : Sto) (w : N.WF) (hk : k < N.lanes.length) (hd : d < N.h) : CF (l + 1) 1 [encN N, .int k, .int d] S = .ok (encE (N.ent (N.en k) d), S) := by rw [call_ahead]; exact ahead_ok w hk hd S
theorem C_room (l : Nat) (N : Net) (s : List (List Nat)) (k : Nat) (S : Sto) (hs : Stand N s) (hk : k < N.lanes.length) : CF (l + 1) 2 [encN N, encR s, .int k] S = .ok (.bl (roomy N s k), S) := by rw [call_has_room]; exact room_ok hs hk S
theorem C_home (l : Nat) (N : Net) (k a : Nat) (S : Sto) (hk : k < N.lanes.length) : CF (l + 1) 3 [encN N, .int k, .int a] S = .ok (.bl (decide (N.en k = a)), S) := by rw [call_is_home]; exact home_ok hk S
theorem C_can (l : Nat) : CanC (CF (l + 2) 4) := fun N s x S w hs ok => by rw [call_can_be_done]; exact canbe_ok (C_serves l) (C_ahead l) (C_room l) (C_home l) N s x S w hs ok
theorem C_done (l : Nat) : DoneX (CF (l + 3) 7) := fun N s x S w hs ok => by
  rw [call_done]
  exact doneX_ok (C_can l) (fun s k a S h1 h2 h3 => by rw [call_with_letter]; exact withl_ok h1 h2 h3 S) (fun s k S h1 h2 => by rw [call_without_first]; exact without_ok h1 h2 S) N s x S w hs ok
theorem C_led (l : Nat) : LedX (CF (l + 4) 8) := via (call_led (l + 3)) (ledX_ok (C_done l))
theorem C_deck (l : Nat) : DeckC (CF (l + 1) 9) := via (call__law_deck l) deck_ok
theorem C_draw (l : Nat) : DrawC (CF (l + 1) 10) := via (call__law_draw l) draw_ok
theorem C_pick (l : Nat) : PickC (CF (l + 2) 11) := via (call__law_pick (l + 1)) (pick_ok (C_draw l))
theorem C_mixed (l : Nat) : MixC (CF (l + 2) 12) := via (call__law_mixed (l + 1)) (mixed_ok (C_draw l))
theorem C_entry (l : Nat) : EntC (CF (l + 3) 14) := via (call__law_entry (l + 2)) (entry_ok (C_mixed l) (C_pick l))
theorem C_cut (l : Nat) : CutC (CF (l + 1) 15) := fun n S rows m h1 h2 h3 => by rw [call__law_cut]; exact cut_ok m h1 h2 h3
theorem C_net (l : Nat) : NetC (CF (l + 4) 13) := via (call__law_net (l + 3)) (net_ok (C_draw (l + 2)) (C_pick (l + 1)) (C_entry l) (C_cut (l + 2)))
theorem C_served (l : Nat) (N : Net) (k : Nat) (S : Sto) (w : N.WF) (hk : k < N.lanes.length) : CF (l + 1) 16 [encN N, .int k] S = .ok (.loc S.length, S ++ [.lst ((N.aim k).map encI)]) := by rw [call__law_served]; exact served_ok w hk S
theorem C_stand (l : Nat) : StandC (CF (l + 3) 17) := via (call__law_stand (l + 2)) (stand_ok (C_served (l + 1)) (C_draw (l + 1)) (C_pick l))
theorem C_lcan (l : Nat) : CanC (CF (l + 1) 18) := fun N s x S w hs ok => by rw [call__law_can]; exact lcan_ok N s x S w hs ok
theorem C_behind (l : Nat) : BehindC (CF (l + 1) 19) := via (call__law_behind l) behind_ok
theorem C_all (l : Nat) : AllC (CF (l + 1) 20) := via (call__law_all_deeds l) allD_ok
theorem C_heard (l : Nat) : Lng.Heard1C (CF (l + 4) 21) := via (call__law_heard (l + 3)) (Lng.heard1_ok (C_done l))
theorem C_drawn (l : Nat) : Lng.DrawnDC (CF (l + 3) 22) := via (call__law_drawn (l + 2)) (Lng.drawn_ok (C_all (l + 1)) (C_lcan (l + 1)) (C_draw (l + 1)) (C_pick l))
theorem C_row (l : Nat) : Lng.RowC (CF (l + 5) 23) := via (call__law_row (l + 4)) (Lng.row_ok ⟨C_pick (l + 2), C_lcan (l + 3), C_behind (l + 3), C_all (l + 3), C_heard l, C_drawn (l + 1)⟩)
theorem C_count (l : Nat) : Lng.CountC (CF (l + 1) 24) := via (call__law_count l) Lng.count_ok
theorem C_long (l : Nat) : Lng.IsLongC (CF (l + 5) 25) := via (call__law_is_long (l + 4)) (Lng.isLong_ok (C_draw (l + 3)) (C_led l))
theorem tells : Lng.Tells (CF 5) where
  ld := C_led 1
  dk := C_deck 4
  dr := C_draw 4
  pk := C_pick 3
  nt := C_net 1
  sn := C_stand 2
  rw_ := C_row 0
  ct := C_count 4
  lg := C_long 0
theorem run (ns : List Int) (_ : ns.length ≤ 63) : ∃ S', CF 6 26 [.frz (ns.map .int)] [] = .ok (.bl true, S') := by
  rw [call_law]
  obtain ⟨p, e, h⟩ := Lng.law_ok (F := CF 5) tells ns
  exact ⟨p.2, by rw [← h]; exact e⟩
end K08
open PySem PySem.W PyProof.Rows in
set_option maxRecDepth 100000 in
set_option maxHeartbeats 0 in
theorem PySem.Challenge.cw_roomahead_k08_whole_long_rows_of_deeds_holds : PySem.Challenge.rw_roomahead_k08_whole_long_rows_of_deeds.Holds := by
  w_on; o_law; k_head; (case hw => w_witness2)
  k_fill
  refine Ev.walk_X (xf := K08.xf) (xc := K08.xc) (l := PySem.Challenge.rw_roomahead_k08_whole_long_rows_of_deeds) (defs := K08.defs) (gl := K08.gl) (kw := K08.kw) (iL := 26) (lev := 6) (dL := K08.d_law) (x := "script") rfl rfl (fun w h Y => PySem.W.kIn_of Y) rfl rfl (by decide) ?F (fun ns hn => K08.run ns hn)
  case F =>
    intro w mg fa h KX G hmg
    refine' K08.facts KX G hmg ?hcl ?a0 ?l0 ?c0 ?k0 ?a1 ?l1 ?c1 ?k1 ?a2 ?l2 ?c2 ?k2 ?a3 ?l3 ?c3 ?k3 ?a4 ?l4 ?c4 ?k4 ?a5 ?l5 ?c5 ?k5 ?a6 ?l6 ?c6 ?k6 ?a7 ?l7 ?c7 ?k7 ?a8 ?l8 ?c8 ?k8 ?a9 ?l9 ?c9 ?k9 ?a10 ?l10 ?c10 ?k10 ?a11 ?l11 ?c11 ?k11 ?a12 ?l12 ?c12 ?k12 ?a13 ?l13 ?c13 ?k13 ?a14 ?l14 ?c14 ?k14 ?a15 ?l15 ?c15 ?k15 ?a16 ?l16 ?c16 ?k16 ?a17 ?l17 ?c17 ?k17 ?a18 ?l18 ?c18 ?k18 ?a19 ?l19 ?c19 ?k19 ?a20 ?l20 ?c20 ?k20 ?a21 ?l21 ?c21 ?k21 ?a22 ?l22 ?c22 ?k22 ?a23 ?l23 ?c23 ?k23 ?a24 ?l24 ?c24 ?k24 ?a25 ?l25 ?c25 ?k25 ?a26 ?l26 ?c26 ?k26 ?z0 ?z9 ?z10 ?z11 ?z13 ?z15 ?z19 ?z20 ?z26 ?z28 ?z35
    (case a0 => k_is)
    (case l0 => k_is)
    (case c0 => k_is)
    (case k0 => k_is)
    (case a1 => k_is)
    (case l1 => k_is)
    (case c1 => k_is)
    (case k1 => k_is)
    (case a2 => k_is)
    (case l2 => k_is)
    (case c2 => k_is)
    (case k2 => k_is)
    (case a3 => k_is)
    (case l3 => k_is)
    (case c3 => k_is)
    (case k3 => k_is)
    (case a4 => k_is)
    (case l4 => k_is)
    (case c4 => k_is)
    (case k4 => k_is)
    (case a5 => k_is)
    (case l5 => k_is)
    (case c5 => k_is)
    (case k5 => k_is)
    (case a6 => k_is)
    (case l6 => k_is)
    (case c6 => k_is)
    (case k6 => k_is)
    (case a7 => k_is)
    (case l7 => k_is)
    (case c7 => k_is)
    (case k7 => k_is)
    (case a8 => k_is)
    (case l8 => k_is)
    (case c8 => k_is)
    (case k8 => k_is)
    (case a9 => k_is)
    (case l9 => k_is)
    (case c9 => k_is)
    (case k9 => k_is)
    (case a10 => k_is)
    (case l10 => k_is)
    (case c10 => k_is)
    (case k10 => k_is)
    (case a11 => k_is)
    (case l11 => k_is)
    (case c11 => k_is)
    (case k11 => k_is)
    (case a12 => k_is)
    (case l12 => k_is)
    (case c12 => k_is)
    (case k12 => k_is)
    (case a13 => k_is)
    (case l13 => k_is)
    (case c13 => k_is)
    (case k13 => k_is)
    (case a14 => k_is)
    (case l14 => k_is)
    (case c14 => k_is)
    (case k14 => k_is)
    (case a15 => k_is)
    (case l15 => k_is)
    (case c15 => k_is)
    (case k15 => k_is)
    (case a16 => k_is)
    (case l16 => k_is)
    (case c16 => k_is)
    (case k16 => k_is)
    (case a17 => k_is)
    (case l17 => k_is)
    (case c17 => k_is)
    (case k17 => k_is)
    (case a18 => k_is)
    (case l18 => k_is)
    (case c18 => k_is)
    (case k18 => k_is)
    (case a19 => k_is)
    (case l19 => k_is)
    (case c19 => k_is)
    (case k19 => k_is)
    (case a20 => k_is)
    (case l20 => k_is)
    (case c20 => k_is)
    (case k20 => k_is)
    (case a21 => k_is)
    (case l21 => k_is)
    (case c21 => k_is)
    (case k21 => k_is)
    (case a22 => k_is)
    (case l22 => k_is)
    (case c22 => k_is)
    (case k22 => k_is)
    (case a23 => k_is)
    (case l23 => k_is)
    (case c23 => k_is)
    (case k23 => k_is)
    (case a24 => k_is)
    (case l24 => k_is)
    (case c24 => k_is)
    (case k24 => k_is)
    (case a25 => k_is)
    (case l25 => k_is)
    (case c25 => k_is)
    (case k25 => k_is)
    (case a26 => k_is)
    (case l26 => k_is)
    (case c26 => k_is)
    (case k26 => k_is)
    (case z0 => k_is)
    (case z9 => k_is)
    (case z10 => k_is)
    (case z11 => k_is)
    (case z13 => k_is)
    (case z15 => k_is)
    (case z19 => k_is)
    (case z20 => k_is)
    (case z26 => k_is)
    (case z28 => k_is)
    (case z35 => k_is)
    case hcl =>
      refine fun x f hx => Ev.look_all (P := fun x v => ∃ C fI, Ev.ClsX _ _ mg x v C fI) (fun p hp => ?_) x f hx
      simp only [K08.xc, List.mem_cons, List.not_mem_nil, or_false] at hp
      rcases hp with rfl
      · refine' Ev.cls_mk (x := "Refused") (f := (some "deed"))  KX G Sup.fld_deed ?aC ?aR ?xL ?sa ?ga ?gg ?nb ?a1 ?t1 ?kC ?eC ?tC ?hC ?vC ?su ?ms ?nS ?tp ?top ?l1 ?c1 ?l2 ?l3 ?v2 ?fl ?ps ?sC ?k0 ?k1 ?k2 ?k3 ?k4 ?ko
        (case aC => k_is)
        (case aR => k_is)
        (case xL => k_is)
        (case sa => k_is)
        (case ga => k_is)
        (case gg => k_is)
        (case nb => intro y e; cases e; k_is)
        (case a1 => k_is)
        (case t1 => k_is)
        (case kC => k_is)
        (case eC => k_is)
        (case tC => k_is)
        (case hC => k_is)
        (case vC => k_is)
        (case su => ks_is)
        (case ms => k_is)
        (case nS => k_is)
        (case tp => k_is)
        (case top => first | rfl | decide +kernel | kernel_rfl)
        (case l1 => k_is)
        (case c1 => k_is)
        (case l2 => k_is)
        (case l3 => k_is)
        (case v2 => first | rfl | kernel_rfl)
        (case fl => first | rfl | decide +kernel | kernel_rfl)
        (case ps => first | rfl | decide +kernel)
        (case sC => k_is)
        (case k0 => k_is)
        (case k1 => k_is)
        (case k2 => k_is)
        (case k3 => k_is)
        (case k4 => k_is)
        (case ko => kit_is)
