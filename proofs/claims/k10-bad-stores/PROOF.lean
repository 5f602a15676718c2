import PyProof.Rows.All
import Wide.All
import OpenK.AllK
import Wide.FinOn
import PyProof.EqAt
import PyProof.EqKinds
import PyProof.TupleCall
import KE.KLam
import KE.KDflt
import KE.KExcSuper
import KE.SortKeyHeap
import KE.SortData
import KE.LtData
import KE.GoesEnum
import KE.GoesMore
import KE.KDictCopyH
import HandS.ForMost
import HandS.ForExc
import HandS.ExcInit
import HandS.ExcIs
import HandS.ExcField
import HandS.IsInst
import HandS.TupLe
import HandS.TupMul
import HandS.TupAny
import HandS.DictTup
import HandS.DictComp
import HandS.SortInts
import HandS.Style
import HandS.Wide
import HandS.Conv
import HandS.More
import HandS.TryOnly
import HandS.Nested
import HandS.EndOwn
import PySem.Challenge.RW_meetstores_k10_whole_bad_stores
import HandS.Walk
import HandS.SortKw
import KE.DataMinMax
import KE.KExcIs
set_option Elab.async false
set_option linter.all false
set_option maxRecDepth 100000
set_option maxHeartbeats 4000000
namespace Ms
open PySem PySem.Spec PyProof.Rows L2
/-! ### enumerate of a tuple -/
def IteT (K : PySem.W.Frag) (a : Addr) : It :=
  ⟨fun i H => ∃ (xs : List V) (x : V), SqT K H a xs ∧ xs[i]? = some x, fun i H v H' => ∃ T x, v = .ref T ∧ H T = none ∧ H' = upd H T (.tup [.int (i : Nat), x]) ∧ ∀ xs, SqT K H a xs → xs[i]? = some x, fun i H => ∃ xs : List V, SqT K H a xs ∧ xs.length = i⟩

theorem meets_enumerate_newT (l : Addr) (items : Array Value) (n : Nat) (dct : Option Addr) (sl : Array (Option Value)) :
    Meets (Builtin.«enumerate.__new__» ⟨[.type "enumerate", .ref l], []⟩) (fun _ R s => s.heap.get? l = some { cls := .type "tuple", dict := dct, data := .seq items n, slots := sl } ∧
      R (.ok (.ret (.ref (s.heap.push { cls := .type "tuple_iterator", data := .fields #[.ref l, .int 0 0] }).objs.size)))
        { s with heap := (s.heap.push { cls := .type "tuple_iterator", data := .fields #[.ref l, .int 0 0] }).push { cls := .type "enumerate", data := .fields #[.none, .bool false, .ref s.heap.objs.size, rawInt 0, .none, .none] } }) :=
  .of_wp fun prog w A R s h => by
    obtain ⟨hp, g, d, tk, os⟩ := s; obtain ⟨hl, h⟩ := h
    have hsub := sub_enumerate
    have hL : Heap.IsTuple (Shared.heap ⟨hp, g, d, tk, os⟩) l items := ⟨_, hl, rfl, n, rfl⟩
    wp_walk using AutoSeq1.wpAny_loadPart' hl
    refine wpAny_stack_any fun st => wpAny_pure ?_
    split
    · rename_i c _ _ _ _ _
      cases (c == Value.type "enumerate")
      · wp_walk using AutoSeq1.wpAny_loadPart' hl, wpAny_pyIter_tuple hL
        exact ⟨_, rfl, h⟩
      · wp_walk using AutoSeq1.wpAny_loadPart' hl, wpAny_pyIter_tuple hL
        exact ⟨_, rfl, h⟩
    · wp_walk using AutoSeq1.wpAny_loadPart' hl, wpAny_pyIter_tuple hL
      exact ⟨_, rfl, h⟩
section
variable {prog : Program} {w : World} {A : Around} {E : Value → Shared → Prop} {s : Shared}
theorem call_enumerate_tup {l : Addr} {items : Array Value} {Q : Value → Shared → Prop} (hL : s.heap.IsTuple l items)
    (h : ∀ h', IsEnum h' (s.heap.objs.size + 1) s.heap.objs.size 0 .none → h'.IsTupleIter s.heap.objs.size l 0 → h'.objs.size = s.heap.objs.size + 2 →
      (∀ b o, s.heap.get? b = some o → h'.get? b = some o) → Q (.ref (s.heap.objs.size + 1)) { s with heap := h' }) :
    wpAny (model prog w) A (call (.type "enumerate") [.ref l]) Q E s := by
  obtain ⟨⟨c, dct, dt, sl⟩, hl, hc, n, hd⟩ := hL
  replace hc : c = .type "tuple" := hc
  replace hd : dt = .seq items n := hd
  subst hc hd
  refine callType_new F.called_enumerate (by decide) (F.typeCall_enumerate_1 _) (F.newCall_enumerate_1 _) (fun obj => F.args_object_init_2 obj _) F.entry_enumerate_new
    (meets_enumerate_newT l items n dct sl) ⟨hl, ?_⟩
  have hz : (s.heap.push { cls := .type "tuple_iterator", data := .fields #[.ref l, .int 0 0] }).objs.size = s.heap.objs.size + 1 := Heap.size_push ..
  show _ ∧ _
  rw [hz]
  have he : IsEnum ((s.heap.push { cls := .type "tuple_iterator", data := .fields #[.ref l, .int 0 0] }).push
      { cls := .type "enumerate", data := .fields #[.none, .bool false, .ref s.heap.objs.size, rawInt 0, .none, .none] }) (s.heap.objs.size + 1) s.heap.objs.size 0 .none := by
    have := Heap.get?_push_size (s.heap.push { cls := .type "tuple_iterator", data := .fields #[.ref l, .int 0 0] })
      (o := { cls := .type "enumerate", data := .fields #[.none, .bool false, .ref s.heap.objs.size, rawInt 0, .none, .none] }) rfl
    rw [hz] at this; exact this
  refine ⟨⟨_, he, rfl⟩, h _ he ⟨_, Heap.get?_push_of_some _ (Heap.get?_push_size _ rfl), rfl, rfl⟩ (by rw [Heap.size_push, hz]) fun b o x => Heap.get?_push_of_some _ (Heap.get?_push_of_some _ x)⟩
end
theorem turn_enumT {P : Program} {w : World} {K : PySem.W.Frag} {elts : List Expr} {kk : Nat} {tpos : Pos} (a e it : Addr) :
    Turn P w K (.Tuple elts kk tpos) (IteT K a) [e, it] e (fun i h => (∃ old, IsEnum h e it ((i : Nat) : Int) old) ∧ h.IsTupleIter it a i ∧ e ≠ it) where
  mem := by simp
  obj := fun i h st b hb => by
    obtain ⟨⟨old, he⟩, ⟨o, ho, hc, hd⟩, _⟩ := st
    have e' : b = e ∨ b = it := by simpa using hb
    rcases e' with z | z
    · rw [z]; exact ⟨_, he, fun v q => nomatch q⟩
    · rw [z]; exact ⟨o, ho, fun v q => by rw [hd] at q; cases q⟩
  keep := fun i h h' st k => let ⟨⟨old, he⟩, hi, hne⟩ := st; ⟨⟨old, k e (by simp) _ he⟩, hi.at fun o q => k it (by simp) o q, hne⟩
  item := by
    intro X hP hw hK hc i pins s σ H E I hf st hg
    subst hP hw hK
    obtain ⟨⟨old, he⟩, hit, hne⟩ := st
    obtain ⟨xs, x, hq, hx⟩ := hg
    obtain ⟨its, rv, p, hz⟩ := I.tuple hq
    obtain ⟨u, hu, ru⟩ := rv.get hx
    have hel : e < s.heap.objs.size := Heap.lt_size he
    have hil : it < s.heap.objs.size := by obtain ⟨_, q, _⟩ := hit; exact Heap.lt_size q
    have p' : s.heap.IsTuple a its.toArray := p
    have hai : a ≠ it := fun z => by
      obtain ⟨o1, e1, c1, _⟩ := hit
      obtain ⟨o2, e2, c2, _⟩ := p'
      rw [z, e1] at e2
      cases e2
      rw [c1] at c2
      injection c2 with c3
      exact absurd c3 (by decide)
    have hae : a ≠ e := fun z => by
      obtain ⟨o2, e2, c2, _⟩ := p'
      rw [z, he] at e2
      cases e2
      injection c2 with c3
      exact absurd c3 (by decide)
    have hlt : i < its.toArray.size := by
      rcases Nat.lt_or_ge i its.length with h | h
      · simpa using h
      · rw [List.getElem?_eq_none h] at hu; cases hu
    have D := Draws.tuple (prog := X.prog) (w := X.w) (A := X.A.in1) (I.ok.hd hc) it a hai its.toArray
    refine wpAny_pyNext_enum_itemC (c := ((i : Nat) : Int)) D he ⟨hit, p'⟩ hlt hne (by simp [hne, Ne.symm hae]) fun x' h' tk hP ho hst hT hsz hk => ?_
    have hx' : x' = u := by
      have z : its.toArray[i]? = some x' := hP
      have z' : its[i]? = some x' := by simpa using z
      rw [hu] at z'
      exact (Option.some.inj z').symm
    subst hx'
    refine ⟨_, rfl, wpAny_letOwnedTupleGo_enum (s := { s with heap := h', toks := tk + 1 }) ho fun h'' he' sb => ?_⟩
    have hT2 : h''.get? s.heap.objs.size = some { cls := .type "tuple", data := .seq #[.int i tk, x'] } := (sb.2 _ (Nat.ne_of_gt hel)).trans hT
    have new : ObjOk X.prog X.w (upd H s.heap.objs.size (.tup [.int (i : Nat), x])) h'' s.heap.objs.size (.tup [.int (i : Nat), x]) :=
      ⟨by show 2 ≤ sizeLine; decide, [.int i tk, x'], .cons ⟨_, rfl⟩ (.cons ru .nil), ⟨_, hT2, rfl, _, rfl⟩⟩
    have I1 : Inv X pins σ (upd H s.heap.objs.size (.tup [.int (i : Nat), x])) { s with heap := h'', toks := tk + 1 } :=
      I.turnedNew (ch := [e, it]) (fun b ob hb q => (sb.2 b (fun z => hb (by simp [z]))).trans (hk b ob (fun z => hb (by simp [z])) (fun z => hb (by simp [z])) q)) hf (Nat.le_refl _) new
    refine ⟨.ref s.heap.objs.size, _, I1, rfl, ⟨_, x, rfl, I.hok.fresh (Nat.le_refl _), rfl, fun ys hy => by rw [I.tuple_inj hy hq]; exact hx⟩, ⟨⟨x', ?_⟩, hst.1.at fun o q => (sb.2 it (Ne.symm hne)).trans q, hne⟩, fun b hb => ?_⟩
    · have e1 : ((i + 1 : Nat) : Int) = (i : Int) + 1 := by omega
      rw [e1]; exact he'
    · have hb' : b < s.heap.objs.size := by
        have e' : b = e ∨ b = it := by simpa using hb
        rcases e' with z | z
        · rw [z]; exact hel
        · rw [z]; exact hil
      rw [upd_ne (Nat.ne_of_lt hb')]
      exact (hf b hb).1
  done := by
    intro X hP hw hK hc i pins s σ H E I hf st hg
    subst hP hw hK
    obtain ⟨⟨old, he⟩, hit, hne⟩ := st
    obtain ⟨xs, hq, hx⟩ := hg
    obtain ⟨its, rv, p, hz⟩ := I.tuple hq
    obtain ⟨f0, f1, f2, f3, f4, f5⟩ := hf it (by simp)
    have hl := rv.length
    have p' : s.heap.IsTuple a its.toArray := p
    have hai : a ≠ it := fun z => by
      obtain ⟨o1, e1, c1, _⟩ := hit
      obtain ⟨o2, e2, c2, _⟩ := p'
      rw [z, e1] at e2
      cases e2
      rw [c1] at c2
      injection c2 with c3
      exact absurd c3 (by decide)
    have D := Draws.tuple (prog := X.prog) (w := X.w) (A := X.A.in1) (I.ok.hd hc) it a hai its.toArray
    have hil : its.toArray.size = i := by rw [List.size_toArray]; omega
    refine wpAny_pyNext_enum_endD (i := ((i : Nat) : Int)) D he ⟨by rw [hil]; exact hit, p'⟩ fun h' eb => ⟨rfl, I.turned (t' := s.toks) (fun b o hb q => eb b o hb q) f0 f1 f3 f4 f5⟩
  self := fun A i s Q E st h => let ⟨⟨_, he⟩, _⟩ := st; wpAny_pyIter_enum he h
def iEnumT (K : PySem.W.Frag) (ta : TA) : TI := fun σ H R => ta σ H fun vs H1 => ∃ a xs, vs = [.ref a] ∧ SqT K H1 a xs ∧ R (IteT K a) H1
theorem pi_enumT {X : Cx} {e : Expr} {ta : TA} {p pos tpos : Pos} {elts : List Expr} {kk : Nat} (hg : Gl X "enumerate") (hm : X.mg "enumerate" = none) (ha : PA X [e] ta) (hs : starEach [e] X.env = [(false, eval e X.env)] := by rfl) :
    PI X (.Tuple elts kk tpos) (.Call (.Name "enumerate" p) [e] [] pos) (iEnumT X.K ta) := by
  refine ⟨fun pins s σ H R I h => ?_⟩
  refine Call_ (ld_blt I hg hm boot_enumerate (PyProof.Rows.callWith_type1 (thn (ha.run pos pins s σ H _ I h) fun us s1 ⟨vs, H1, I1, r1, q1⟩ => ?_) hs rfl))
  obtain ⟨a, xs, ex, hq, q⟩ := q1
  subst ex
  cases r1 with
  | cons r rr =>
    cases rr
    cases r
    obtain ⟨its, rv, p', hz⟩ := I1.tuple hq
    refine call_enumerate_tup (show s1.heap.IsTuple a its.toArray from p') fun h' he hit hsz hk => wpAny_pyIter_enum he ?_
    have I2 : Inv X pins σ H1 { s1 with heap := h' } := I1.kept (t' := s1.toks) hk
    refine ⟨s1.heap.objs.size + 1, [s1.heap.objs.size + 1, s1.heap.objs.size], _, _, H1, rfl, I2, turn_enumT a (s1.heap.objs.size + 1) s1.heap.objs.size, ⟨⟨.none, he⟩, hit, Nat.succ_ne_self _⟩, fun b hb => ?_, q⟩
    have e' : b = s1.heap.objs.size + 1 ∨ b = s1.heap.objs.size := by simpa using hb
    have hle : s1.heap.objs.size ≤ b := by
      rcases e' with z | z
      · rw [z]; exact Nat.le_add_right _ _
      · rw [z]; exact Nat.le_refl _
    exact I1.fpOk hle (I1.hok.fresh hle)
end Ms
set_option Elab.async false
set_option linter.all false
set_option maxRecDepth 100000
set_option maxHeartbeats 4000000
namespace Ms
open PySem PySem.Spec PyProof.Rows L2
/-! ### (text, int) <= (text, int) -/
def le2 (x : Str) (i : Int) (x' : Str) (i' : Int) : Bool := if (x == x') = true then (if (i == i') = true then true else decide (i ≤ i')) else !decide (x'.cps.toList < x.cps.toList)
def rLe2 (K : PySem.W.Frag) : R2 := fun x y H Q => ∃ (a b : Addr) (z z' : Str) (i i' : Int), x = .ref a ∧ y = .ref b ∧ SqT K H a [.str z, .int i] ∧ SqT K H b [.str z', .int i'] ∧ Q (.bl (le2 z i z' i')) H
theorem RcOp_le_str {A : Around} {s : Shared} (x : Str) (t : Tok) (y : Str) (u : Tok) : Ob.RcOp .LtE A s (.str x t) (.str y u) (!decide (y.cps.toList < x.cps.toList)) := fun _ _ _ _ h => by
  refine PySem.P.le_str ?_
  exact h
theorem op_le2 {X : Cx} (hu : X.A.units < cLine) : OpR X (compareOp .LtE) (rLe2 X.K) := by
  intro pins s σ H x y v u Q I rx ry h
  obtain ⟨a, b, z, z', i, i', rfl, rfl, ha, hb, q⟩ := h
  cases rx
  cases ry
  obtain ⟨its, r1, p1, _⟩ := I.tuple ha
  obtain ⟨its2, r2, p2, _⟩ := I.tuple hb
  obtain ⟨u1, u2, rfl, ⟨t1, rfl⟩, ⟨t2, rfl⟩⟩ := vals2 r1
  obtain ⟨w1, w2, rfl, ⟨t3, rfl⟩, ⟨t4, rfl⟩⟩ := vals2 r2
  have R := Ob.RcOp.tuples_le (A := X.A) (s := s) (e := fun j => if j = 0 then z == z' else i == i') (r := fun j => if j = 0 then !decide (z'.cps.toList < z.cps.toList) else decide (i ≤ i')) p1 p2 hu (fun j h1 h2 => by
    match j, h1, h2 with
    | 0, _, _ => exact SeqAt.EqAt.str_str _ _ _ _
    | 1, _, _ => exact SeqAt.EqAt.int_int _ _ _ _
    | j + 2, h1, _ => exact absurd (show j + 2 < 2 from h1) (by omega)) (fun j h1 h2 _ => by
    match j, h1, h2 with
    | 0, _, _ => exact RcOp_le_str _ _ _ _
    | 1, _, _ => exact Ob.RcOp.le_int _ _ _ _
    | j + 2, h1, _ => exact absurd (show j + 2 < 2 from h1) (by omega))
  have e : Ob.lexAt (fun j => if j = 0 then z == z' else i == i') (fun j => if j = 0 then !decide (z'.cps.toList < z.cps.toList) else decide (i ≤ i')) (decide (([Value.str z t1, .int i t2] : List Value).toArray.size ≤ ([Value.str z' t3, .int i' t4] : List Value).toArray.size)) 0 (min ([Value.str z t1, .int i t2] : List Value).toArray.size ([Value.str z' t3, .int i' t4] : List Value).toArray.size) = le2 z i z' i' := by
    show Ob.lexAt _ _ _ 0 (0 + 1 + 1) = _
    rw [Ob.lexAt_succ, Ob.lexAt_succ, Ob.lexAt_zero]
    rfl
  rw [e] at R
  exact R X.prog X.w X.xe (EP X pins σ Q) ⟨.bl _, H, I, rfl, q⟩
/-! ### a list == [], != [] -/
def rEqNil (K : PySem.W.Frag) : R2 := fun x y H Q => ∃ (a b : Addr) (xs : List V), x = .ref a ∧ y = .ref b ∧ SqL K H a xs ∧ SqL K H b [] ∧ Q (.bl xs.isEmpty) H
def rNeNil (K : PySem.W.Frag) : R2 := fun x y H Q => ∃ (a b : Addr) (xs : List V), x = .ref a ∧ y = .ref b ∧ SqL K H a xs ∧ SqL K H b [] ∧ Q (.bl (!xs.isEmpty)) H
theorem op_eqNil {X : Cx} (hu : X.A.units < cLine) : OpR X (compareOp .Eq) (rEqNil X.K) := by
  intro pins s σ H x y v u Q I rx ry h
  obtain ⟨a, b, xs, rfl, rfl, ha, hb, q⟩ := h
  cases rx
  cases ry
  obtain ⟨its, r1, p1, _⟩ := I.list ha
  obtain ⟨its2, r2, p2, _⟩ := I.list hb
  cases r2
  cases r1 with
  | nil =>
    refine SeqAt.eq_listAt (e := fun _ => true) p1.isList p2.isList rfl hu (fun j h1 _ => absurd h1 (by simp)) ⟨.bl _, H, I, rfl, ?_⟩
    exact q
  | cons r rr =>
    exact SeqAt.eq_list_lengthsAt p1.isList p2.isList (by simp) hu ⟨.bl _, H, I, rfl, q⟩
theorem op_neNil {X : Cx} (hu : X.A.units < cLine) : OpR X (compareOp .NotEq) (rNeNil X.K) := by
  intro pins s σ H x y v u Q I rx ry h
  obtain ⟨a, b, xs, rfl, rfl, ha, hb, q⟩ := h
  cases rx
  cases ry
  obtain ⟨its, r1, p1, _⟩ := I.list ha
  obtain ⟨its2, r2, p2, _⟩ := I.list hb
  cases r2
  cases r1 with
  | nil =>
    exact SeqAt.RcNeAt.lists (e := fun _ => true) p1.isList p2.isList rfl hu (fun j h1 _ => absurd h1 (by simp)) X.prog X.w X.xe (EP X pins σ Q) ⟨.bl _, H, I, rfl, q⟩
  | cons r rr =>
    exact SeqAt.RcNeAt.lists_lengths p1.isList p2.isList (by simp) hu X.prog X.w X.xe (EP X pins σ Q) ⟨.bl _, H, I, rfl, q⟩
end Ms
set_option Elab.async false
set_option linter.all false
set_option maxRecDepth 100000
set_option maxHeartbeats 4000000
namespace Ms
open PySem PySem.Spec PyProof.Rows L2
/-! ### sorted(d.keys()) -/
section
open PySem.W PySem.Calls
variable {prog : Program} {w : World} {A : Around} {E : Value → Shared → Prop} {s : Shared} {T : String} {r d : Addr} {n : Nat} {P : Nat → Value → Prop} {OK : Heap → Prop} {β : Type}
/-- sorted of something that is walked: the items stand for data that are alike -/
theorem sorted_src {Q : Value → Shared → Prop} {R : Value → β → Prop} (bs : List β) (enc : β → PyData) (K : KdlSrc prog w T r d n P OK) (hh : A.handled = none) (hok : OK s.heap) (hn : bs.length = n) (hL : n ≤ sizeLine) (hal : AllAlike (bs.map enc)) (hk : Sortable (bs.map enc))
    (hu : ∀ b, b ∈ bs → A.units + 2 + (enc b).depth < cLine)
    (hread : ∀ acc : List Value, acc.length = n → (∀ j v, acc[j]? = some v → P j v) → EachIs (fun v b => R v b ∧ Reads s.heap v (enc b) []) acc bs)
    (h : ∀ (D : Addr) (out : List Value) (c : Nat) (h1 h' : Heap) (tk : Nat), (∀ b o, s.heap.get? b = some o → h1.get? b = some o) → (∀ b o, h1.get? b = some o → h'.get? b = some o) → h1.objs.size ≤ D → h'.get? D = some (seqObj "list" out.toArray c) → out.length = n → EachIs R out (bs.mergeSort (dataLe false enc)) →
      Q (.ref D) { s with heap := h', toks := tk }) :
    wpAny (model prog w) A (call (.builtin "sorted") [.ref r]) Q E s := by
  refine call_function_entry kind_sorted plain_sorted entry_sorted (args_sorted1 _) ?_
  unfold Builtin.«sorted»
  refine wpAny_bind (m := checkCount "sorted" 1 1 _) (wpAny_pure ?_)
  refine wpAny_bind (kdu_collect (A := A.in1) K hh hok hL fun h' tk acc hk' hacc => ?_)
  have hl : acc.toList.length = n := by rw [Array.length_toList]; exact hacc.1
  refine wpAny_bind (wpAny_newList ?_ (by rw [hl]; exact hL))
  have each := hread acc.toList hl fun j v e => hacc.2 j v (by rw [← Array.getElem?_toList]; exact e)
  have ho : ({ s with heap := h'.push { cls := .type "list", data := .seq acc.toList.toArray }, toks := tk } : Shared).heap.get? h'.objs.size = some (seqObj "list" acc.toList.toArray 0) := Heap.get?_push_size _ rfl
  have key := list_sort_data (prog := prog) (w := w) (A := A.in1) (E := E) (s := { s with heap := h'.push { cls := .type "list", data := .seq acc.toList.toArray }, toks := tk }) (R := R) (bs := bs) (enc := enc) (Q := fun _ s' => Q (.ref h'.objs.size) s') ho
    (each.mono fun v b q => q.1) (each.mono fun v b q => ⟨[], PyProof.Rows.Reads.keeps (fun b o e => Heap.get?_push_of_some _ (hk' b o e)) q.2, by simp⟩) hal hk (by rw [hn]; exact hL) (fun b hb => by have := hu b hb; show A.units + 1 + 1 + _ < _; omega)
    (fun out hlen he => by
      obtain ⟨e, he'⟩ := sortedHeap_at (out := out.toArray) ho
      refine h h'.objs.size out e h' (sortedHeap (h'.push { cls := .type "list", data := .seq acc.toList.toArray }) h'.objs.size acc.toList out.toArray) tk hk' (fun b o q => ?_) (Nat.le_refl _) he' (by rw [hlen, hn]) he
      have q' := Heap.get?_push_of_some ({ cls := .type "list", data := .seq acc.toList.toArray } : Obj) q
      rw [sortedHeap_old (Nat.ne_of_lt (Heap.lt_size q)) (Heap.lt_size q')]
      exact q')
  refine wpAny_bind (wpAny_holding (wpAny_mono key (fun _ s' x => ?_) fun _ _ e => e))
  exact wpAny_pure ⟨_, rfl, x⟩
end
/-! ### d.keys(), sorted of it -/
def keysO (p d : Addr) : HO := .ext fun h => PySem.W.KdlKeysView h p d
theorem keysO_ok {P : Program} {w : World} {H : Hp} {h : Heap} {p d : Addr} (e : h.get? p = some { cls := .type "dict_keys", data := .fields #[.ref d] }) : ObjOk P w H h p (keysO p d) :=
  ⟨⟨_, e, rfl, rfl⟩, ⟨_, e⟩, fun h1 h2 x k => let ⟨o, ho, r⟩ := x; ⟨o, k o ho, r⟩⟩
theorem keysO_at {P : Program} {w : World} {H : Hp} {h : Heap} {p d : Addr} (hok : HOk P w H h) (e : H p = some (keysO p d)) : PySem.W.KdlKeysView h p d := (hok p _ e).1
def rKeys : V → List V → Hp → VK → Prop := fun x xs H Q => ∃ (a : Addr), x = .ref a ∧ xs = [] ∧ ((∃ kvs, H a = some (.dT kvs)) ∨ ∃ kvs, H a = some (.dK kvs)) ∧ ∀ p, H p = none → Q (.ref p) (upd H p (keysO p a))
section
variable {X : Cx}
theorem mt_keys : MtR X "dict.keys" rKeys := by
  intro pins s σ H x xs v us Q I rx rxs h
  obtain ⟨a, rfl, rfl, ha, q⟩ := h
  cases rx
  cases rxs
  have raw : (a == sysModules) = false ∧ ∃ es ep, s.heap.DictRaw a es ep := by
    rcases ha with ⟨kvs, ha⟩ | ⟨kvs, ha⟩
    · obtain ⟨_, hd, xs, _, hm⟩ := dt_of I.hok ha
      obtain ⟨es, ep, r, _⟩ := hm.raw
      exact ⟨hd, es, ep, r⟩
    · obtain ⟨_, hd, xs, _, hm⟩ := dk_of I.hok ha
      obtain ⟨es, ep, r, _⟩ := hm.raw
      exact ⟨hd, es, ep, r⟩
  obtain ⟨hd, es, ep, r⟩ := raw
  refine call_meetsIn PySem.F.slot_dict_keys r.typeIs PySem.F.entry_dict_keys (PySem.F.args_dict_keys_1 _) (PySem.meets_dict_keys_raw a hd) ⟨⟨es, ep, r⟩, ?_⟩
  have hf : H s.heap.objs.size = none := I.hok.fresh (Nat.le_refl _)
  exact ⟨.ref s.heap.objs.size, upd H s.heap.objs.size (keysO s.heap.objs.size a), I.laid (t' := s.toks) (fun b u e => Heap.get?_push_of_some _ e) (Nat.le_refl _) (keysO_ok (Heap.get?_push_size _ rfl)), rfl, q _ hf⟩
end
def keyD : Key → PyData
  | .inl i => .int i
  | .inr x => .str x
theorem reads_keys {h : Heap} : ∀ {ks : List Key} {us : List Value}, Vals (ks.map kV) us → ReadsAll h us (ks.map keyD) []
  | [], _, r => by rw [List.map_nil] at r; cases r; exact .nil
  | .inl i :: ks, _, r => by
    rw [List.map_cons] at r
    cases r with
    | cons a b =>
      obtain ⟨t, rfl⟩ := a
      exact .cons (as := []) (bs := []) (.int i t) (reads_keys b)
  | .inr x :: ks, _, r => by
    rw [List.map_cons] at r
    cases r with
    | cons a b =>
      obtain ⟨t, rfl⟩ := a
      exact .cons (as := []) (bs := []) (.str x t) (reads_keys b)
theorem reads_key {P : Program} {w : World} {H : Hp} {h : Heap} {a : Addr} {ks : List Key} (ok : HOk P w H h) (e : H a = some (.tup (ks.map kV))) : Reads h (.ref a) (.tuple (ks.map keyD)) [] := by
  obtain ⟨_, its, r, o, h1, h2, n, h3⟩ := (show ObjOk P w H h a (.tup (ks.map kV)) from ok a _ e)
  exact .tuple h1 h2 h3 (by simpa using reads_keys r)
/-- keys (text, int) -/
def rSortKT : List V → Hp → VK → Prop := fun vs H Q => ∃ (p a : Addr) (kvs : List (List Key × V)), vs = [.ref p] ∧ H p = some (keysO p a) ∧ H a = some (.dT kvs) ∧ (∀ kv ∈ kvs, ∃ z i, kv.1 = [Sum.inr z, Sum.inl i]) ∧
  ∀ (bs : List (Addr × List Key)) (q : Addr), H q = none → bs.length = kvs.length → (∀ b ∈ bs, H b.1 = some (.tup (b.2.map kV)) ∧ b.2 ∈ kvs.map (·.1)) → Q (.ref q) (upd H q (.lst (bs.map fun b => V.ref b.1)))
/-- keys texts -/
def rSortKK : List V → Hp → VK → Prop := fun vs H Q => ∃ (p a : Addr) (kvs : List (Key × V)), vs = [.ref p] ∧ H p = some (keysO p a) ∧ H a = some (.dK kvs) ∧ (∀ kv ∈ kvs, ∃ z, kv.1 = Sum.inr z) ∧
  ∀ (zs : List Str) (q : Addr), H q = none → zs.length = kvs.length → (∀ z ∈ zs, Sum.inr z ∈ kvs.map (·.1)) → Q (.ref q) (upd H q (.lst (zs.map V.str)))
theorem each_mk {α β : Type} {R : α → β → Prop} : ∀ {as : List α} {bs : List β}, as.length = bs.length → (∀ (j : Nat) (a : α) (b : β), as[j]? = some a → bs[j]? = some b → R a b) → PySem.W.EachIs R as bs
  | [], [], _, _ => .nil
  | [], _ :: _, h, _ => by cases h
  | _ :: _, [], h, _ => by cases h
  | a :: as, b :: bs, h, f => .cons (f 0 a b rfl rfl) (each_mk (by simpa using h) fun j x y hx hy => f (j + 1) x y (by simpa using hx) (by simpa using hy))
theorem each_mem_r {α β : Type} {R : α → β → Prop} : ∀ {as : List α} {bs : List β}, PySem.W.EachIs R as bs → PySem.W.EachIs (fun a b => R a b ∧ b ∈ bs) as bs
  | _, _, .nil => .nil
  | _, _, .cons h t => .cons ⟨h, List.mem_cons_self⟩ ((each_mem_r t).mono fun _ _ q => ⟨q.1, List.mem_cons_of_mem _ q.2⟩)
theorem vals_each {vs : List V} {us : List Value} {β : Type} {f : β → V} : ∀ {bs : List β}, PySem.W.EachIs (fun u b => RelV (f b) u) us bs → Vals (bs.map f) us
  | _, .nil => .nil
  | _, .cons h t => .cons h (vals_each (vs := vs) t)
theorem kt_get {H : Hp} : ∀ {kvs : List (List Key × V)} {xs : List (List Key × Addr × Value)}, KT H kvs xs → ∀ x ∈ xs, H x.2.1 = some (.tup (x.1.map kV)) ∧ x.1 ∈ kvs.map (·.1)
  | _, _, .nil, x, hx => nomatch hx
  | _, _, .cons h t, x, hx => by
    rcases List.mem_cons.mp hx with rfl | hx
    · exact ⟨by rw [← h.1]; exact h.2.1, by rw [← h.1]; exact List.mem_cons_self⟩
    · obtain ⟨a, b⟩ := kt_get t x hx
      exact ⟨a, List.mem_cons_of_mem _ b⟩
section
variable {X : Cx}
theorem cr_sortedKT (hu : X.A.units + 64 < cLine) (hc : X.calm = true) : CallR X (.builtin "sorted") rSortKT := by
  intro pins s σ H vs us Q I r h
  obtain ⟨p, a, kvs, rfl, hp, ha, hsh, q⟩ := h
  obtain rfl := Vals.ref1 r
  obtain ⟨hz, hd, xs, rel, hm⟩ := dt_of I.hok ha
  obtain ⟨es, ep, raw, hsz, hes⟩ := hm.raw
  have hview := keysO_at I.hok hp
  have hlen : xs.length = kvs.length := (Paired.length rel).symm
  have hx := kt_get rel
  have hshx : ∀ x ∈ xs, ∃ z i, x.1 = [Sum.inr z, Sum.inl i] := fun x hxm => by
    obtain ⟨_, hk⟩ := hx x hxm
    obtain ⟨kv, hkv, e⟩ := List.mem_map.mp hk
    obtain ⟨z, i, e'⟩ := hsh kv hkv
    exact ⟨z, i, by rw [← e, e']⟩
  refine sorted_src (R := fun v b => v = Value.ref b.1) (xs.map fun x => (x.2.1, x.1)) (fun b => PyData.tuple (b.2.map keyD)) (PySem.KdlSrc.rawKeys (d := a) (r := p) (es := es) (ep := ep)) (I.ok.hd hc) ⟨hview, raw⟩ (by rw [List.length_map, hsz]) (by rw [hsz, hlen]; exact hz) ?_ ?_ ?_ ?_ ?_
  · intro d1 h1 d2 h2
    obtain ⟨b1, m1, rfl⟩ := List.mem_map.mp h1
    obtain ⟨b2, m2, rfl⟩ := List.mem_map.mp h2
    obtain ⟨x1, mx1, rfl⟩ := List.mem_map.mp m1
    obtain ⟨x2, mx2, rfl⟩ := List.mem_map.mp m2
    obtain ⟨z1, i1, e1⟩ := hshx x1 mx1
    obtain ⟨z2, i2, e2⟩ := hshx x2 mx2
    simp only [e1, e2]
    rfl
  · refine .inl fun d1 h1 => ?_
    obtain ⟨b1, m1, rfl⟩ := List.mem_map.mp h1
    obtain ⟨x1, mx1, rfl⟩ := List.mem_map.mp m1
    obtain ⟨z1, i1, e1⟩ := hshx x1 mx1
    exact ⟨_, _, by rw [e1]; rfl⟩
  · intro b hb
    obtain ⟨x1, mx1, rfl⟩ := List.mem_map.mp hb
    obtain ⟨z1, i1, e1⟩ := hshx x1 mx1
    simp only [e1]
    show X.A.units + 2 + 1 < cLine
    omega
  · intro acc hl hP
    refine each_mk (by rw [List.length_map, hl, hsz]) fun j v b hv hb => ?_
    obtain ⟨hi, hv'⟩ := hP j v hv
    obtain ⟨y, hy, hk, _⟩ := hes j hi
    rw [List.getElem?_map, hy] at hb
    cases hb
    have e : v = Value.ref y.2.1 := hv'.trans hk
    rw [e]
    exact ⟨rfl, reads_key I.hok (hx y (List.mem_of_getElem? hy)).1⟩
  · intro D out c h1 h' tk k1 k2 hD ho hlo he
    have I1 : Inv X pins σ H { s with heap := h1, toks := tk } := I.kept k1
    have em := each_mem_r he
    generalize hms : (xs.map fun x => (x.2.1, x.1)).mergeSort (PySem.W.dataLe false fun b => PyData.tuple (b.2.map keyD)) = ms at he em
    have memms : ∀ b ∈ ms, b ∈ xs.map fun x => (x.2.1, x.1) := fun b hb => by
      rw [← hms] at hb
      exact (List.mergeSort_perm _ _).mem_iff.mp hb
    have hlm : ms.length = kvs.length := by rw [← hms, List.length_mergeSort, List.length_map, hlen]
    have hf : H D = none := I1.hok.fresh hD
    have rv : Vals (ms.map fun b => V.ref b.1) out := vals_each (vs := []) (he.mono fun u b e => by rw [e]; exact rfl)
    refine ⟨.ref D, upd H D (.lst (ms.map fun b => V.ref b.1)), I1.laid (t' := tk) (o := .lst (ms.map fun b => V.ref b.1)) k2 hD ⟨by rw [List.length_map, hlm]; exact hz, out, c, rv, ho⟩, rfl, q ms D hf hlm fun b hb => ?_⟩
    obtain ⟨x, hxm, rfl⟩ := List.mem_map.mp (memms b hb)
    exact hx x hxm
end
theorem vals_strs_each {out : List Value} {ms : List Str} (e : PySem.W.EachIs (fun u z => ∃ t, u = Value.str z t) out ms) : Vals (ms.map V.str) out := vals_each (vs := []) e
theorem kv_get : ∀ {kvs : List (Key × V)} {vs : List (Key × Value)}, KV kvs vs → ∀ x ∈ vs, x.1 ∈ kvs.map (·.1)
  | _, _, .nil, x, hx => nomatch hx
  | _, _, .cons h t, x, hx => by
    rcases List.mem_cons.mp hx with rfl | hx
    · rw [← h.1]; exact List.mem_cons_self
    · exact List.mem_cons_of_mem _ (kv_get t x hx)
def strOf : Key → Str
  | .inr z => z
  | .inl _ => ⟨#[]⟩
theorem cr_sortedKK {X : Cx} (hu : X.A.units + 64 < cLine) (hc : X.calm = true) : CallR X (.builtin "sorted") rSortKK := by
  intro pins s σ H vs us Q I r h
  obtain ⟨p, a, kvs, rfl, hp, ha, hsh, q⟩ := h
  obtain rfl := Vals.ref1 r
  obtain ⟨hz, hd, xs, rel, hm⟩ := dk_of I.hok ha
  obtain ⟨es, ep, raw, hsz, hes⟩ := hm.raw
  have hview := keysO_at I.hok hp
  have hlen : xs.length = kvs.length := (Paired.length rel).symm
  have hx := kv_get rel
  have hshx : ∀ x ∈ xs, x.1 = Sum.inr (strOf x.1) := fun x hxm => by
    obtain ⟨kv, hkv, e⟩ := List.mem_map.mp (hx x hxm)
    obtain ⟨z, e'⟩ := hsh kv hkv
    rw [← e, e']
    rfl
  refine sorted_src (R := fun v z => ∃ t, v = Value.str z t) (xs.map fun x => strOf x.1) (fun z => PyData.str z) (PySem.KdlSrc.rawKeys (d := a) (r := p) (es := es) (ep := ep)) (I.ok.hd hc) ⟨hview, raw⟩ (by rw [List.length_map, hsz]) (by rw [hsz, hlen]; exact hz)
    (PySem.W.AllAlike.of fun _ _ => rfl) (PySem.W.Sortable.others fun _ => ⟨fun z => PyData.noConfusion z, fun _ z => PyData.noConfusion z⟩) (fun b _ => by show X.A.units + 2 + 0 < cLine; omega) ?_ ?_
  · intro acc hl hP
    refine each_mk (by rw [List.length_map, hl, hsz]) fun j v b hv hb => ?_
    obtain ⟨hi, hv'⟩ := hP j v hv
    have hj : j < xs.length := by rw [← hsz]; exact hi
    have hk := hes j hi xs[j].1 xs[j].2 (by rw [List.getElem?_eq_getElem hj])
    rw [List.getElem?_map, List.getElem?_eq_getElem hj] at hb
    cases hb
    have e := hshx xs[j] (List.getElem_mem hj)
    rw [e] at hk
    obtain ⟨t, ht⟩ : ∃ t, es[j].key = Value.str (strOf xs[j].1) t := by
      rcases keyIs_shape (show keyIs (Sum.inr (strOf xs[j].1)) es[j].key = true from hk.1) with ⟨i, t, e1, _⟩ | ⟨z, t, e1, e2⟩
      · exact nomatch e1
      · injection e1 with e1
        rw [e1]
        exact ⟨t, e2⟩
    rw [hv', ht]
    exact ⟨⟨t, rfl⟩, .str _ t⟩
  · intro D out c h1 h' tk k1 k2 hD ho hlo he
    have I1 : Inv X pins σ H { s with heap := h1, toks := tk } := I.kept k1
    generalize hms : (xs.map fun x => strOf x.1).mergeSort (PySem.W.dataLe false fun z => PyData.str z) = ms at he
    have memms : ∀ b ∈ ms, b ∈ xs.map fun x => strOf x.1 := fun b hb => by
      rw [← hms] at hb
      exact (List.mergeSort_perm _ _).mem_iff.mp hb
    have hlm : ms.length = kvs.length := by rw [← hms, List.length_mergeSort, List.length_map, hlen]
    have hf : H D = none := I1.hok.fresh hD
    have rv : Vals (ms.map V.str) out := vals_strs_each he
    refine ⟨.ref D, upd H D (.lst (ms.map V.str)), I1.laid (t' := tk) (o := .lst (ms.map V.str)) k2 hD ⟨by rw [List.length_map, hlm]; exact hz, out, c, rv, ho⟩, rfl, q ms D hf hlm fun b hb => ?_⟩
    obtain ⟨x, hxm, rfl⟩ := List.mem_map.mp (memms b hb)
    rw [← hshx x hxm]
    exact hx x hxm
end Ms
set_option Elab.async false
set_option linter.all false
set_option maxRecDepth 100000
set_option maxHeartbeats 4000000
namespace Ms
open PySem PySem.Spec PyProof.Rows L2
/-! ### the text -/
def topS (i : Nat) : Stmt := PySem.Challenge.pw_meetstores_k10_whole_bad_stores.main.body.getD i (.Pass ⟨0, 0, 0, 0⟩)
abbrev sIsIn : Stmt := topS 7
abbrev sIsText : Stmt := topS 8
abbrev sIsValue : Stmt := topS 9
abbrev sIsKey : Stmt := topS 15
abbrev sIsPast : Stmt := topS 16
abbrev sIsNote : Stmt := topS 17
abbrev sNameIn : Stmt := topS 18
abbrev sCovers : Stmt := topS 19
abbrev sNeed : Stmt := topS 20
abbrev sMergedIn : Stmt := topS 21
abbrev sMerged : Stmt := topS 22
abbrev sNamesIn : Stmt := topS 23
abbrev sDifferIn : Stmt := topS 24
abbrev sDiffer : Stmt := topS 25
abbrev sTaken : Stmt := topS 27
abbrev sPick : Stmt := topS 28
abbrev sSomeKey : Stmt := topS 29
abbrev sPlace : Stmt := topS 30
abbrev sWritten : Stmt := topS 31
abbrev sSignsRow : Stmt := topS 32
abbrev sSomeText : Stmt := topS 33
abbrev sSigned : Stmt := topS 34
abbrev sSomeValue : Stmt := topS 35
abbrev sOver : Stmt := topS 36
abbrev sLMerged : Stmt := topS 37
abbrev sStores : Stmt := topS 38
abbrev sIsVec : Stmt := topS 39
abbrev sLIsNote : Stmt := topS 40
abbrev sAlike : Stmt := topS 41
abbrev sLaw : Stmt := topS 42
def signsText : Str := "abcdefghijklmnopqrstuvwxyz" ++ "ABCDEFGHIJKLMNOPQRSTUVWXYZ" ++ "0123456789 .,:;-_/+*()=?!"
/-! ### what the top has left -/
/-- the built-ins' names are free -/
structure Bl (mg : Str → Option Value) : Prop where
  isi : mg "isinstance" = none
  int : mg "int" = none
  bool : mg "bool" = none
  str : mg "str" = none
  tup : mg "tuple" = none
  lst : mg "list" = none
  len : mg "len" = none
  rng : mg "range" = none
  enm : mg "enumerate" = none
  srt : mg "sorted" = none
  max : mg "max" = none
  min : mg "min" = none
  abs : mg "abs" = none
/-- the modules' numbers and the text of signs -/
structure Cs (mg : Str → Option Value) : Prop where
  mostSigns : ∃ t, mg "MOST_SIGNS" = some (.int 200 t)
  mostNumber : ∃ t, mg "MOST_NUMBER" = some (.int 1099511627776 t)
  signs : ∃ t, mg "SIGNS" = some (.str signsText t)
  hosts : ∃ t, mg "HOSTS" = some (.int 8 t)
  mostSerial : ∃ t, mg "MOST_SERIAL" = some (.int 134217727 t)
  span : ∃ t, mg "SPAN" = some (.int 134217728 t)
  mostKey : ∃ t, mg "MOST_KEY" = some (.int 40 t)
/-- a def of the top, where it stands -/
def At (K : PySem.W.Frag) (mg : Str → Option Value) (x : Str) (st : Stmt) (ps : List Str) : Prop := ∃ f fd, mg x = some (.ref f) ∧ Fun K x x st f fd ∧ Binds K fd ps []
/-- a def that keeps its promise, ready to be called -/
def Does (P : Program) (w : World) (K : PySem.W.Frag) (mg : Str → Option Value) (base : Heap) (CX : CXT) (k : Nat) (x : Str) (ps : List Str) (sp : Sp) : Prop :=
  ∃ f fd, mg x = some (.ref f) ∧ PySem.W.keepIn K (.ref f) = true ∧ Binds K fd ps [] ∧ FnOk P w K mg base CX k f fd ps sp
/-! ### heaps -/
theorem same_upd {H : Hp} {p : Addr} {o : HO} (h : H p = none) : Same H (upd H p o) := fun b x e => by
  rw [upd_ne (ne_of_none e h)]
  exact e
/-- the heap without what stands at R -/
def cut (R : Addr) (H : Hp) : Hp := fun b => if b = R then none else H b
theorem cut_ne {R b : Addr} {H : Hp} (h : b ≠ R) : cut R H b = H b := by unfold cut; rw [if_neg h]
theorem cut_at {R : Addr} {H : Hp} : cut R H R = none := by unfold cut; rw [if_pos rfl]
theorem cut_le (R : Addr) (H : Hp) : Same (cut R H) H := fun b o e => by
  by_cases h : b = R
  · subst h; rw [cut_at] at e; cases e
  · rw [cut_ne h] at e; exact e
theorem cut_of {R : Addr} {H H' : Hp} (s : Same H H') : Same (cut R H) (cut R H') := fun b o e => by
  by_cases h : b = R
  · subst h; rw [cut_at] at e; cases e
  · rw [cut_ne h] at e ⊢; exact s b o e
theorem cut_upd {R : Addr} {H : Hp} {o : HO} : cut R (upd H R o) = cut R H := by
  funext b
  unfold cut
  by_cases h : b = R
  · rw [if_pos h, if_pos h]
  · rw [if_neg h, if_neg h, upd_ne h]
theorem cut_get {R b : Addr} {H : Hp} {o : HO} (h : cut R H b = some o) : b ≠ R ∧ H b = some o := by
  by_cases e : b = R
  · subst e; rw [cut_at] at h; cases h
  · rw [cut_ne e] at h; exact ⟨e, h⟩
/-! ### data that stands in the tracked heap -/
mutual
inductive Da (H : Hp) : V → PyData → Prop
  | non : Da H .non .none
  | bl (b : Bool) : Da H (.bl b) (.bool b)
  | int (i : Int) : Da H (.int i) (.int i)
  | str (x : Str) : x.length ≤ 1000 → Da H (.str x) (.str x)
  | lst {a : Addr} {xs : List V} {ds : List PyData} : H a = some (.lst xs) → DaAll H xs ds → Da H (.ref a) (.list ds)
  | tup {a : Addr} {xs : List V} {ds : List PyData} : H a = some (.tup xs) → DaAll H xs ds → Da H (.ref a) (.tuple ds)
inductive DaAll (H : Hp) : List V → List PyData → Prop
  | nil : DaAll H [] []
  | cons {v : V} {vs : List V} {d : PyData} {ds : List PyData} : Da H v d → DaAll H vs ds → DaAll H (v :: vs) (d :: ds)
end
mutual
theorem Da.same {H H' : Hp} (s : Same H H') : ∀ (d : PyData) (v : V), Da H v d → Da H' v d
  | .none, _, h => by cases h; exact .non
  | .bool b, _, h => by cases h; exact .bl b
  | .int i, _, h => by cases h; exact .int i
  | .str x, _, h => by cases h with | str _ z => exact .str x z
  | .list ds, _, h => by
    cases h with
    | lst e a => exact .lst (s _ _ e) (DaAll.same s ds _ a)
  | .tuple ds, _, h => by
    cases h with
    | tup e a => exact .tup (s _ _ e) (DaAll.same s ds _ a)
  | .dict .., _, h => by cases h
theorem DaAll.same {H H' : Hp} (s : Same H H') : ∀ (ds : List PyData) (vs : List V), DaAll H vs ds → DaAll H' vs ds
  | [], _, h => by cases h; exact .nil
  | d :: ds, _, h => by
    cases h with
    | cons a b => exact .cons (Da.same s d _ a) (DaAll.same s ds _ b)
end
theorem DaAll.length {H : Hp} : ∀ {ds : List PyData} {vs : List V}, DaAll H vs ds → vs.length = ds.length
  | [], _, h => by cases h; rfl
  | d :: ds, _, h => by
    cases h with
    | cons a b => exact congrArg Nat.succ (DaAll.length b)
theorem DaAll.get {H : Hp} : ∀ {ds : List PyData} {vs : List V} {i : Nat} {v : V}, DaAll H vs ds → vs[i]? = some v → ∃ d, ds[i]? = some d ∧ Da H v d
  | [], _, i, v, h, e => by cases h; simp at e
  | d :: ds, _, 0, v, h, e => by
    cases h with
    | cons a b => simp at e; subst e; exact ⟨d, rfl, a⟩
  | d :: ds, _, i + 1, v, h, e => by
    cases h with
    | cons a b =>
      obtain ⟨d', h1, h2⟩ := DaAll.get (i := i) b (by simpa using e)
      exact ⟨d', by simpa using h1, h2⟩
theorem DaAll.getD {H : Hp} {ds : List PyData} {vs : List V} {i : Nat} {d : PyData} (h : DaAll H vs ds) (e : ds[i]? = some d) : ∃ v, vs[i]? = some v ∧ Da H v d := by
  have hl := h.length
  have hi : i < ds.length := by
    rcases Nat.lt_or_ge i ds.length with z | z
    · exact z
    · rw [List.getElem?_eq_none z] at e; cases e
  have hv : vs[i]? = some (vs[i]'(by omega)) := List.getElem?_eq_getElem _
  obtain ⟨d', h1, h2⟩ := h.get hv
  rw [e] at h1
  cases h1
  exact ⟨_, hv, h2⟩
theorem DaAll.append {H : Hp} : ∀ {ds es : List PyData} {vs us : List V}, DaAll H vs ds → DaAll H us es → DaAll H (vs ++ us) (ds ++ es)
  | [], _, _, _, .nil, h => h
  | _ :: _, _, _, _, .cons a b, h => .cons a (DaAll.append b h)
theorem DaAll.take {H : Hp} : ∀ {ds : List PyData} {vs : List V} (n : Nat), DaAll H vs ds → DaAll H (vs.take n) (ds.take n)
  | _, _, 0, _ => .nil
  | _, _, n + 1, .nil => .nil
  | _, _, n + 1, .cons a b => .cons a (DaAll.take n b)
theorem DaAll.drop {H : Hp} : ∀ {ds : List PyData} {vs : List V} (n : Nat), DaAll H vs ds → DaAll H (vs.drop n) (ds.drop n)
  | _, _, 0, h => h
  | _, _, n + 1, .nil => .nil
  | _, _, n + 1, .cons a b => DaAll.drop n b
theorem DaAll.set {H : Hp} {v : V} {d : PyData} (h : Da H v d) : ∀ {ds : List PyData} {vs : List V} (i : Nat), DaAll H vs ds → DaAll H (vs.set i v) (ds.set i d)
  | _, _, _, .nil => .nil
  | _, _, 0, .cons a b => .cons h b
  | _, _, i + 1, .cons a b => .cons a (DaAll.set h i b)
theorem DaAll.ints {H : Hp} : ∀ ns : List Int, DaAll H (ns.map V.int) (ns.map PyData.int)
  | [] => .nil
  | n :: ns => .cons (.int n) (DaAll.ints ns)
/-! ### the kinds -/
def tyD : PyData → String
  | .none => "NoneType" | .bool _ => "bool" | .int _ => "int" | .str _ => "str" | .list _ => "list" | .tuple _ => "tuple"
  | _ => ""
theorem Da.ty {K : PySem.W.Frag} {H : Hp} {v : V} {d : PyData} (h : Da H v d) : TyX K H v (.type (tyD d)) := by
  cases h with
  | non => exact .base .non
  | bl b => exact .base (.bl b)
  | int i => exact .base (.int i)
  | str x _ => exact .base (.str x)
  | lst e _ => exact .base (.lst e)
  | tup e _ => exact .base (.tup e)
def isInt : PyData → Bool
  | .int _ => true | .bool _ => true | _ => false
def isBool : PyData → Bool
  | .bool _ => true | _ => false
def isStr : PyData → Bool
  | .str _ => true | _ => false
def isTup : PyData → Bool
  | .tuple _ => true | _ => false
def isLst : PyData → Bool
  | .list _ => true | _ => false
section
variable {K : PySem.W.Frag} {H : Hp} {v : V} {d : PyData}
theorem kI (h : Da H v d) : PySem.W.kitOne K (.type (tyD d)) (.type "int") = some (isInt d) := by
  cases h <;> (refine kit_ty ?_; dsimp only [tyD, isInt]; decide +kernel)
theorem kB (h : Da H v d) : PySem.W.kitOne K (.type (tyD d)) (.type "bool") = some (isBool d) := by
  cases h <;> (refine kit_ty ?_; dsimp only [tyD, isBool]; decide +kernel)
theorem kS (h : Da H v d) : PySem.W.kitOne K (.type (tyD d)) (.type "str") = some (isStr d) := by
  cases h <;> (refine kit_ty ?_; dsimp only [tyD, isStr]; decide +kernel)
theorem kT (h : Da H v d) : PySem.W.kitOne K (.type (tyD d)) (.type "tuple") = some (isTup d) := by
  cases h <;> (refine kit_ty ?_; dsimp only [tyD, isTup]; decide +kernel)
theorem kL (h : Da H v d) : PySem.W.kitOne K (.type (tyD d)) (.type "list") = some (isLst d) := by
  cases h <;> (refine kit_ty ?_; dsimp only [tyD, isLst]; decide +kernel)
end
/-! ### a comprehension that keeps the items for which a test holds -/
theorem wipe1 {σ : L2.St} {sl : Nat} {x : V} : wipe ((wipe σ [sl]).set sl (some x)) [sl] = wipe σ [sl] := by
  show ((σ.set sl none).set sl (some x)).set sl none = σ.set sl none
  rw [List.set_set, List.set_set]
theorem lc_flt {J : It} {n : Nat} {G : Hp → Prop} {Y : Nat → Hp → V → Hp → Prop} (w : Walk J n G Y) {sl : Nat} {tt : TT} {σ : L2.St} {H1 : Hp} {D : Addr} {Qd : Hp → Prop} (f : Nat → V) (p : Nat → Bool)
    (hY : ∀ i H x H', i < n → Y i H x H' → H' = H ∧ x = f i) (hD : H1 D = none) (hn : n ≤ sizeLine) (hsl : sl < σ.length) (hG : ∀ H, Same H1 H → G H)
    (ht : ∀ i H (Q : Bool → Hp → Prop), i < n → Same H1 H → (∀ H3, Same H H3 → Q (p i) H3) → tt ((wipe σ [sl]).set sl (some (f i))) H Q)
    (hd : ∀ H, Same H1 H → H D = some (.lst (((List.range n).filter p).map f)) → Qd H) :
    ∃ W : Nat → Nat → Hp → Prop, (∃ m, W 0 m (upd H1 D (.lst []))) ∧ ∀ i m H, W i m H →
      (J.stop i H ∧ Qd H) ∨ (J.go i H ∧ ∃ Nx : Hp → Prop, (∀ H', Nx H' → ∃ m', m' < m ∧ W (i + 1) m' H') ∧ ∀ x H', J.yld i H x H' → gName sl x (wipe σ [sl]) H' fun σ2 H2 => wipe σ2 [sl] = wipe σ [sl] ∧ tt σ2 H2 fun b H3 =>
        if b = true then tVar sl σ2 H3 fun y H4 => ∃ acc, H4 D = some (.lst acc) ∧ acc.length < sizeLine ∧ Nx (upd H4 D (.lst (acc ++ [y]))) else Nx H3) := by
  refine lc_it w (fun i H => Same H1 H ∧ H D = some (.lst (((List.range i).filter p).map f))) ⟨same_upd hD, by rw [upd_same]; rfl⟩ (fun i H _ h => hG H h.1) (fun i x H H' hi h y => ?_) (fun H h => hd H h.1 h.2)
  obtain ⟨s, e⟩ := h
  obtain ⟨rfl, rfl⟩ := hY i H x H' hi y
  refine ⟨wipe1, ht i H' _ hi s fun H3 s3 => ?_⟩
  have er : (List.range (i + 1)).filter p = (List.range i).filter p ++ (if p i = true then [i] else []) := by
    rw [List.range_succ, List.filter_append]
    congr 1
    by_cases hp : p i = true
    · rw [if_pos hp, List.filter_cons_of_pos hp]; rfl
    · rw [if_neg hp, List.filter_cons_of_neg hp]; rfl
  by_cases hp : p i = true
  · rw [if_pos hp]
    refine ⟨f i, ?_, _, s3 _ _ e, ?_, ?_, ?_⟩
    · have : sl < (wipe σ [sl]).length := by rw [wipe_length]; exact hsl
      rw [List.getElem?_set_self this]
    · rw [List.length_map]
      have h1 := List.length_filter_le p (List.range i)
      rw [List.length_range] at h1
      omega
    · exact fun b o h => by
        by_cases hb : b = D
        · subst hb; rw [hD] at h; cases h
        · rw [upd_ne hb]; exact s3 _ _ (s _ _ h)
    · rw [upd_same, er, if_pos hp, List.map_append]; rfl
  · rw [if_neg hp]
    refine ⟨s.trans s3, ?_⟩
    rw [s3 _ _ e, er, if_neg hp, List.append_nil]
theorem flt_empty {n : Nat} {p : Nat → Bool} {f : Nat → V} : (((List.range n).filter p).map f).isEmpty = (List.range n).all fun i => !p i := by
  rw [List.isEmpty_map]
  induction List.range n with
  | nil => rfl
  | cons i r ih =>
    cases h : p i with
    | true => rw [List.filter_cons_of_pos h, List.all_cons, h]; rfl
    | false => rw [List.filter_cons_of_neg (by simp [h]), List.all_cons, h, ih]; rfl
/-- the same where a test may go either way: only the length is told -/
theorem lc_any {J : It} {n : Nat} {G : Hp → Prop} {Y : Nat → Hp → V → Hp → Prop} (w : Walk J n G Y) {sl : Nat} {tt : TT} {σ : L2.St} {H1 : Hp} {D : Addr} {Qd : Hp → Prop} (f : Nat → V)
    (hY : ∀ i H x H', i < n → Y i H x H' → H' = H ∧ x = f i) (hD : H1 D = none) (hn : n ≤ sizeLine) (hsl : sl < σ.length) (hG : ∀ H, Same H1 H → G H)
    (ht : ∀ i H (Q : Bool → Hp → Prop), i < n → Same H1 H → (∀ c H3, Same H H3 → Q c H3) → tt ((wipe σ [sl]).set sl (some (f i))) H Q)
    (hd : ∀ H acc, Same H1 H → H D = some (.lst acc) → acc.length ≤ n → (∀ x ∈ acc, ∃ i, i < n ∧ x = f i) → Qd H) :
    ∃ W : Nat → Nat → Hp → Prop, (∃ m, W 0 m (upd H1 D (.lst []))) ∧ ∀ i m H, W i m H →
      (J.stop i H ∧ Qd H) ∨ (J.go i H ∧ ∃ Nx : Hp → Prop, (∀ H', Nx H' → ∃ m', m' < m ∧ W (i + 1) m' H') ∧ ∀ x H', J.yld i H x H' → gName sl x (wipe σ [sl]) H' fun σ2 H2 => wipe σ2 [sl] = wipe σ [sl] ∧ tt σ2 H2 fun b H3 =>
        if b = true then tVar sl σ2 H3 fun y H4 => ∃ acc, H4 D = some (.lst acc) ∧ acc.length < sizeLine ∧ Nx (upd H4 D (.lst (acc ++ [y]))) else Nx H3) := by
  refine lc_it w (fun i H => Same H1 H ∧ ∃ acc, H D = some (.lst acc) ∧ acc.length ≤ i ∧ ∀ x ∈ acc, ∃ k, k < n ∧ x = f k) ⟨same_upd hD, [], upd_same, Nat.le_refl 0, fun x hx => nomatch hx⟩ (fun i H _ h => hG H h.1) (fun i x H H' hi h y => ?_) (fun H h => ?_)
  · obtain ⟨s, acc, e, hl, ha⟩ := h
    obtain ⟨rfl, rfl⟩ := hY i H x H' hi y
    refine ⟨wipe1, ht i H' _ hi s fun c H3 s3 => ?_⟩
    cases c with
    | false => exact iteF ⟨s.trans s3, acc, s3 _ _ e, Nat.le_succ_of_le hl, ha⟩
    | true =>
      refine iteT ⟨f i, ?_, acc, s3 _ _ e, by omega, ?_, acc ++ [f i], upd_same, by rw [List.length_append]; exact Nat.succ_le_succ hl, fun x hx => ?_⟩
      · have : sl < (wipe σ [sl]).length := by rw [wipe_length]; exact hsl
        rw [List.getElem?_set_self this]
      · exact fun b o h => by
          by_cases hb : b = D
          · subst hb; rw [hD] at h; cases h
          · rw [upd_ne hb]; exact s3 _ _ (s _ _ h)
      · rcases List.mem_append.mp hx with z | z
        · exact ha x z
        · exact ⟨i, hi, List.mem_singleton.mp z⟩
  · obtain ⟨s, acc, e, hl, ha⟩ := h
    exact hd H acc s e hl ha
end Ms
set_option Elab.async false
set_option linter.all false
set_option maxRecDepth 100000
set_option maxHeartbeats 4000000
namespace Ms
open PySem PySem.Spec PyProof.Rows L2
/-! ### is_in, is_text, is_value, is_key, is_past, is_note -/
def isIn (d : PyData) (a c : Int) : Bool := match d with
  | .int i => decide (a ≤ i) && decide (i ≤ c)
  | _ => false
def okSigns (z : Str) : Bool := (List.range z.cps.size).all fun i => decide (z.cps[i]! ∈ signsText.cps.toList)
def isText (d : PyData) (m : Int) : Bool := match d with
  | .str z => decide ((z.length : Int) ≤ m) && okSigns z
  | _ => false
def isValue (d : PyData) : Bool := match d with
  | .none => true
  | d => isText d 200 || isIn d (-1099511627776) 1099511627776
theorem scIsIn : FnScope ["value", "least", "most"] ["value", "least", "most"] (defScope sIsIn) := ⟨rfl, rfl, rfl, by decide +kernel, rfl, by decide +kernel, by decide +kernel⟩
theorem scIsText : FnScope ["value", "most", "sign"] ["value", "most"] (defScope sIsText) := ⟨rfl, rfl, rfl, by decide +kernel, rfl, by decide +kernel, by decide +kernel⟩
theorem scIsValue : FnScope ["value"] ["value"] (defScope sIsValue) := ⟨rfl, rfl, rfl, by decide +kernel, rfl, by decide +kernel, by decide +kernel⟩
def spIsIn : Sp := fun vs H Q _ => ∃ v d a c, vs = [v, .int a, .int c] ∧ Da H v d ∧ Q (.bl (isIn d a c)) H
def spIsText : Sp := fun vs H Q _ => ∃ v d m, vs = [v, .int m] ∧ Da H v d ∧ ∀ H', Same H H' → Q (.bl (isText d m)) H'
def spIsValue : Sp := fun vs H Q _ => ∃ v d, vs = [v] ∧ Da H v d ∧ ∀ H', Same H H' → Q (.bl (isValue d)) H'
section
variable {P : Program} {w : World} {K : PySem.W.Frag} {mg : Str → Option Value} {base : Heap}
theorem does_is_in (F : At K mg "is_in" sIsIn ["value", "least", "most"]) (b : Bl mg) : Does P w K mg base CX0 1 "is_in" ["value", "least", "most"] spIsIn := by
  obtain ⟨f, fd, g, F, bi⟩ := F
  refine ⟨f, fd, g, F.kp, bi, F.ok scIsIn (fun vs H Q E h => ?_) (fun cdv A outer s H vs Q E hr h => ?_)⟩
  · obtain ⟨v, d, a, c, rfl, _⟩ := h
    rfl
  · obtain ⟨v, d, a, c, rfl, hd, q⟩ := h
    refine ⟨_, pss_one (ps_ret (pe_and (pe_callB call_isi (by rfl) b.isi boot_isinstance (pa_cons (pv 0) (pa_cons (pe_bltn (v := .ty "int") (by rfl) b.int boot_int rfl) pa_nil)))
      (pe_and (pe_not (pe_callB call_isi (by rfl) b.isi boot_isinstance (pa_cons (pv 0) (pa_cons (pe_bltn (v := .ty "bool") (by rfl) b.bool boot_bool rfl) pa_nil))))
        (pe_one (pe_chain op_le op_le (pv 1) (pv 0) (pv 2)))))), ?_⟩
    refine ⟨v, rfl, _, _, _, _, _, rfl, .ty _, hd.ty, kI hd, _, rfl, ?_⟩
    cases hd with
    | int i =>
      refine iteT ⟨_, rfl, _, _, _, _, _, rfl, .ty _, (Da.int (H := H) i).ty, kB (Da.int (H := H) i), _, rfl, _, rfl, iteT ⟨_, rfl, _, rfl, _, _, rfl, rfl, _, rfl, ?_⟩⟩
      unfold isIn at q
      dsimp only at q
      by_cases h1 : a ≤ i
      · rw [decide_eq_true h1, Bool.true_and] at q
        rw [decide_eq_true h1]
        exact iteT ⟨_, rfl, _, _, rfl, rfl, q⟩
      · rw [decide_eq_false h1, Bool.false_and] at q
        rw [decide_eq_false h1]
        exact iteF q
    | bl x => exact iteT ⟨_, rfl, _, _, _, _, _, rfl, .ty _, (Da.bl (H := H) x).ty, kB (Da.bl (H := H) x), _, rfl, _, rfl, iteF q⟩
    | non => exact iteF q
    | str x _ => exact iteF q
    | lst _ _ => exact iteF q
    | tup _ _ => exact iteF q
theorem does_is_text (F : At K mg "is_text" sIsText ["value", "most"]) (b : Bl mg) (c : Cs mg) : Does P w K mg base CX0 1 "is_text" ["value", "most"] spIsText := by
  obtain ⟨f, fd, g, F, bi⟩ := F
  obtain ⟨tS, gS⟩ := c.signs
  refine ⟨f, fd, g, F.kp, bi, F.ok scIsText (fun vs H Q E h => ?_) (fun cdv A outer s H vs Q E hr h => ?_)⟩
  · obtain ⟨v, d, m, rfl, _⟩ := h
    rfl
  · obtain ⟨v, d, m, rfl, hd, q⟩ := h
    refine ⟨_, pss_cons (ps_if (pw_or (pt_not (pt_val (pe_callB call_isi (by rfl) b.isi boot_isinstance (pa_cons (pv 0) (pa_cons (pe_bltn (v := .ty "str") (by rfl) b.str boot_str rfl) pa_nil)))))
        (pw_or1 (pt_cmpR op_gt (pe_callB call_len_str (by rfl) b.len boot_len (pa_cons (pv 0) pa_nil)) (pv 1) (nomark _)))).pt (pss_one (ps_ret pe_bl)) pss_nil)
      (pss_one (ps_ret (pe_cmpR (op_eqNil (Nat.lt_of_succ_lt (hu_of hr))) (pe_lc (own := [("sign", 2)]) (g := gName 2) (by rfl) scIsText.nd (pi_str (pv 0)) (blkOk_by (own := [("sign", 2)]) (N := ["value", "most", "sign"]) (sc := defScope sIsText) (by decide +kernel))
        (fun _ _ _ _ _ => pg_name (i := 2) scIsText.nd rfl (Or.inl rfl)) (fun _ _ _ _ _ => pts_one (pt_cmpR op_notIn_sign (pv 2) (pe_glob (v := .str signsText) rfl gS ⟨_, rfl⟩) (by rfl))) (fun _ _ _ _ _ => pv 2)) (pe_lst pa_nil) (nomark _)))), ?_⟩
    refine ⟨v, rfl, _, _, _, _, _, rfl, .ty _, hd.ty, kS hd, _, rfl, ?_⟩
    cases hd with
    | str z hz =>
      have hz2 : z.length ≤ sizeLine := Nat.le_trans hz (by decide)
      refine iteF ⟨_, rfl, z, rfl, hz2, _, rfl, _, _, rfl, rfl, _, rfl, ?_⟩
      by_cases h1 : m < (z.length : Int)
      · rw [decide_eq_true h1]
        refine iteT ?_
        have e : isText (.str z) m = false := by
          show (decide ((z.length : Int) ≤ m) && okSigns z) = false
          rw [decide_eq_false (by omega)]; rfl
        rw [e] at q
        exact q H (Same.refl H)
      · rw [decide_eq_false h1]
        refine iteF ⟨_, rfl, z, rfl, fun D hD => lc_flt (sl := 2) walk_str (fun i => .str ⟨#[z.cps[i]!]⟩) (fun i => !decide (z.cps[i]! ∈ signsText.cps.toList)) (fun i H x H' hi y => ?_) hD hz2 (Nat.lt_succ_self 2) (fun _ _ => trivial) (fun i H Q hi s k => ?_) (fun H s e => ?_)⟩
        · obtain ⟨rfl, c, e1, e2⟩ := y
          refine ⟨rfl, ?_⟩
          rw [e2]
          simp [Array.getElem!_eq_getD, Array.getD_eq_getD_getElem?, e1]
        · exact ⟨_, rfl, _, _, rfl, rfl, _, rfl, k H (Same.refl H)⟩
        · refine ⟨Nat.zero_le _, fun o no => ⟨D, o, _, rfl, rfl, SqL.of ((upd_ne (ne_of_none e no)).trans e), SqL.of upd_same, ?_⟩⟩
          have e2 : isText (.str z) m = (((List.range z.cps.size).filter fun i => !decide (z.cps[i]! ∈ signsText.cps.toList)).map fun i => V.str ⟨#[z.cps[i]!]⟩).isEmpty := by
            show (decide ((z.length : Int) ≤ m) && okSigns z) = _
            rw [decide_eq_true (by omega), Bool.true_and, flt_empty]
            simp only [Bool.not_not]
            rfl
          rw [e2] at q
          exact q _ (s.trans (same_upd no))
    | int i => exact iteT (q H (Same.refl H))
    | bl x => exact iteT (q H (Same.refl H))
    | non => exact iteT (q H (Same.refl H))
    | lst _ _ => exact iteT (q H (Same.refl H))
    | tup _ _ => exact iteT (q H (Same.refl H))
end
/-! ### is_value, is_key, is_past, is_note -/
def isKey (d : PyData) : Bool := match d with
  | .str z => isText (.str z) 40 && !decide (V.str z = V.str "")
  | _ => false
def isPast (d : PyData) : Bool := match d with
  | .tuple ds => decide (V.int ds.length = V.int 8) && (List.range ds.length).all fun i => isIn (ds[i]?.getD .none) 0 134217727
  | _ => false
def numD : PyData → Int
  | .int i => i
  | _ => 0
def pastAt (p : PyData) (h : Int) : Int := match p with
  | .tuple ds => numD (ds[h.toNat]?.getD .none)
  | _ => 0
def isNote (d : PyData) : Bool := match d with
  | .tuple [k, h, s, p, v] => isKey k && isIn h 0 7 && isIn s 1 134217727 && isPast p && decide (pastAt p (numD h) < numD s) && isValue v
  | _ => false
theorem scIsKey : FnScope ["value"] ["value"] (defScope sIsKey) := ⟨rfl, rfl, rfl, by decide +kernel, rfl, by decide +kernel, by decide +kernel⟩
theorem scIsPast : FnScope ["value", "serial"] ["value"] (defScope sIsPast) := ⟨rfl, rfl, rfl, by decide +kernel, rfl, by decide +kernel, by decide +kernel⟩
theorem scIsNote : FnScope ["note", "key", "host", "serial", "past", "value"] ["note"] (defScope sIsNote) := ⟨rfl, rfl, rfl, by decide +kernel, rfl, by decide +kernel, by decide +kernel⟩
def spIsKey : Sp := fun vs H Q _ => ∃ v d, vs = [v] ∧ Da H v d ∧ ∀ H', Same H H' → Q (.bl (isKey d)) H'
def spIsPast : Sp := fun vs H Q _ => ∃ v d, vs = [v] ∧ Da H v d ∧ ∀ H', Same H H' → Q (.bl (isPast d)) H'
def spIsNote : Sp := fun vs H Q _ => ∃ v d, vs = [v] ∧ Da H v d ∧ ∀ H', Same H H' → Q (.bl (isNote d)) H'
section
variable {P : Program} {w : World} {K : PySem.W.Frag} {mg : Str → Option Value} {base : Heap}
theorem does_is_value (F : At K mg "is_value" sIsValue ["value"]) (c : Cs mg) (D1 : Does P w K mg base CX0 1 "is_text" ["value", "most"] spIsText) (D2 : Does P w K mg base CX0 1 "is_in" ["value", "least", "most"] spIsIn) :
    Does P w K mg base CX0 2 "is_value" ["value"] spIsValue := by
  obtain ⟨f, fd, g, F, bi⟩ := F
  obtain ⟨f1, fd1, g1, k1, b1, G1⟩ := D1
  obtain ⟨f2, fd2, g2, k2, b2, G2⟩ := D2
  obtain ⟨t1, c1⟩ := c.mostSigns
  obtain ⟨t2, c2⟩ := c.mostNumber
  refine ⟨f, fd, g, F.kp, bi, F.ok scIsValue (fun vs H Q E h => ?_) (fun cdv A outer s H vs Q E hr h => ?_)⟩
  · obtain ⟨v, d, rfl, _⟩ := h
    rfl
  · obtain ⟨v, d, rfl, hd, q⟩ := h
    refine ⟨_, pss_cons (ps_if (pw_or (pt_cmpR op_isN (pv 0) pe_non (nomark _)) (pw_or1 (pt_val (pe_call G1 hr (by rfl) g1 k1 b1 .nil pass0 (pa_cons (pv 0) (pa_cons (pe_glob (v := .int 200) (by rfl) c1 ⟨_, rfl⟩) pa_nil)))))).pt
        (pss_one (ps_ret pe_bl)) pss_nil)
      (pss_one (ps_ret (pe_call G2 hr (by rfl) g2 k2 b2 .nil pass0 (pa_cons (pv 0) (pa_cons (pe_un un_neg (pe_glob (v := .int 1099511627776) (by rfl) c2 ⟨_, rfl⟩)) (pa_cons (pe_glob (v := .int 1099511627776) (by rfl) c2 ⟨_, rfl⟩) pa_nil)))))), ?_⟩
    refine ⟨v, rfl, rfl, _, rfl, ?_⟩
    by_cases hv : v = .non
    · subst hv
      cases hd
      exact iteT (q H (Same.refl H))
    · have e : isValue d = (isText d 200 || isIn d (-1099511627776) 1099511627776) := by
        cases hd <;> first | rfl | exact absurd rfl hv
      rw [decide_eq_false hv]
      refine iteF ⟨v, rfl, v, d, 200, rfl, hd, fun H1 s1 => ⟨_, rfl, ?_⟩⟩
      by_cases h1 : isText d 200 = true
      · rw [h1]
        rw [e, h1, Bool.true_or] at q
        exact iteT (q H1 s1)
      · rw [Bool.eq_false_iff.mpr h1]
        rw [e, Bool.eq_false_iff.mpr h1, Bool.false_or] at q
        exact iteF ⟨v, rfl, _, rfl, v, d, _, _, rfl, Da.same s1 _ _ hd, q H1 s1⟩
theorem does_is_key (F : At K mg "is_key" sIsKey ["value"]) (c : Cs mg) (D1 : Does P w K mg base CX0 1 "is_text" ["value", "most"] spIsText) : Does P w K mg base CX0 2 "is_key" ["value"] spIsKey := by
  obtain ⟨f, fd, g, F, bi⟩ := F
  obtain ⟨f1, fd1, g1, k1, b1, G1⟩ := D1
  obtain ⟨t1, c1⟩ := c.mostKey
  refine ⟨f, fd, g, F.kp, bi, F.ok scIsKey (fun vs H Q E h => ?_) (fun cdv A outer s H vs Q E hr h => ?_)⟩
  · obtain ⟨v, d, rfl, _⟩ := h
    rfl
  · obtain ⟨v, d, rfl, hd, q⟩ := h
    refine ⟨_, pss_one (ps_ret (pe_and (pe_call G1 hr (by rfl) g1 k1 b1 .nil pass0 (pa_cons (pv 0) (pa_cons (pe_glob (v := .int 40) (by rfl) c1 ⟨_, rfl⟩) pa_nil))) (pe_one (pe_cmpR op_ne (pv 0) pe_str (nomark _))))), ?_⟩
    refine ⟨v, rfl, v, d, 40, rfl, hd, fun H1 s1 => ⟨_, rfl, ?_⟩⟩
    cases hd with
    | str z hz =>
      by_cases h1 : isText (.str z) 40 = true
      · have e : isKey (.str z) = !decide (V.str z = V.str "") := by
          show (isText (.str z) 40 && !decide (V.str z = V.str "")) = _
          rw [h1, Bool.true_and]
        rw [e] at q
        rw [h1]
        exact iteT ⟨_, rfl, rfl, q H1 s1⟩
      · have e : isKey (.str z) = false := by
          show (isText (.str z) 40 && !decide (V.str z = V.str "")) = _
          rw [Bool.eq_false_iff.mpr h1, Bool.false_and]
        rw [e] at q
        rw [Bool.eq_false_iff.mpr h1]
        exact iteF (q H1 s1)
    | non => exact iteF (q H1 s1)
    | int i => exact iteF (q H1 s1)
    | bl x => exact iteF (q H1 s1)
    | lst e a => exact iteF (q H1 s1)
    | tup e a => exact iteF (q H1 s1)
theorem getD_of {xs : List V} {i : Nat} {x : V} (h : xs[i]? = some x) : xs[i]?.getD .non = x := by rw [h]; rfl
theorem does_is_past (F : At K mg "is_past" sIsPast ["value"]) (b : Bl mg) (c : Cs mg) (D2 : Does P w K mg base CX0 1 "is_in" ["value", "least", "most"] spIsIn) : Does P w K mg base CX0 2 "is_past" ["value"] spIsPast := by
  obtain ⟨f, fd, g, F, bi⟩ := F
  obtain ⟨f2, fd2, g2, k2, b2, G2⟩ := D2
  obtain ⟨t1, c1⟩ := c.hosts
  obtain ⟨t2, c2⟩ := c.mostSerial
  refine ⟨f, fd, g, F.kp, bi, F.ok scIsPast (fun vs H Q E h => ?_) (fun cdv A outer s H vs Q E hr h => ?_)⟩
  · obtain ⟨v, d, rfl, _⟩ := h
    rfl
  · obtain ⟨v, d, rfl, hd, q⟩ := h
    refine ⟨_, pss_cons (ps_if (pw_or (pt_not (pt_val (pe_callB call_isi (by rfl) b.isi boot_isinstance (pa_cons (pv 0) (pa_cons (pe_bltn (v := .ty "tuple") (by rfl) b.tup boot_tuple rfl) pa_nil)))))
        (pw_or1 (pt_cmpR op_ne (pe_callB call_len_seq (by rfl) b.len boot_len (pa_cons (pv 0) pa_nil)) (pe_glob (v := .int 8) (by rfl) c1 ⟨_, rfl⟩) (nomark _)))).pt (pss_one (ps_ret pe_bl)) pss_nil)
      (pss_one (ps_ret (pe_cmpR (op_eqNil (Nat.lt_of_succ_lt (hu_of hr))) (pe_lc (own := [("serial", 1)]) (g := gName 1) (by rfl) scIsPast.nd (pi_tup (pv 0)) (blkOk_by (own := [("serial", 1)]) (N := ["value", "serial"]) (sc := defScope sIsPast) (by decide +kernel))
        (fun _ _ _ _ _ => pg_name (i := 1) scIsPast.nd rfl (Or.inl rfl)) (fun _ _ _ _ _ => pts_one (pt_not (pt_val (pe_call G2 hr (by rfl) g2 k2 b2 .nil pass0 (pa_cons (pv 1) (pa_cons pe_int (pa_cons (pe_glob (v := .int 134217727) (by rfl) c2 ⟨_, rfl⟩) pa_nil)))))))
        (fun _ _ _ _ _ => pv 1)) (pe_lst pa_nil) (nomark _)))), ?_⟩
    refine ⟨v, rfl, _, _, _, _, _, rfl, .ty _, hd.ty, kT hd, _, rfl, ?_⟩
    cases hd with
    | @tup a xs ds e ha =>
      have hl := ha.length
      refine iteF ⟨_, rfl, a, xs, rfl, .inr (SqT.of e), rfl, _, rfl, ?_⟩
      have e0 : isPast (.tuple ds) = (decide (V.int ds.length = V.int 8) && (List.range ds.length).all fun i => isIn (ds[i]?.getD .none) 0 134217727) := rfl
      by_cases h8 : V.int (xs.length : Int) = V.int 8
      · rw [decide_eq_true h8]
        have h8' : V.int (ds.length : Int) = V.int 8 := by rw [← hl]; exact h8
        have h8n : ds.length = 8 := by
          have := V.int.inj h8'
          omega
        rw [decide_eq_true h8', Bool.true_and] at e0
        refine iteF ⟨_, rfl, a, rfl, ⟨xs, SqT.of e⟩, fun D hD => lc_flt (sl := 1) (walk_tup (xs := xs)) (fun i => xs[i]?.getD .non) (fun i => !isIn (ds[i]?.getD .none) 0 134217727) (fun i H x H' hi y => ⟨y.1, (getD_of y.2).symm⟩) hD (by rw [hl, h8n]; decide) (Nat.lt_succ_self 1) (fun _ s => SqT.of (s _ _ e)) (fun i H Q hi s k => ?_) (fun H s e1 => ?_)⟩
        · obtain ⟨d, e2, hd⟩ := ha.get (List.getElem?_eq_getElem hi)
          rw [e2] at k
          refine ⟨xs[i]?.getD .non, rfl, _, d, _, _, rfl, ?_, _, rfl, k H (Same.refl H)⟩
          rw [List.getElem?_eq_getElem hi]
          exact Da.same s _ _ hd
        · refine ⟨Nat.zero_le _, fun o no => ⟨D, o, _, rfl, rfl, SqL.of ((upd_ne (ne_of_none e1 no)).trans e1), SqL.of upd_same, ?_⟩⟩
          rw [flt_empty, hl]
          simp only [Bool.not_not]
          rw [e0] at q
          exact q _ (s.trans (same_upd no))
      · rw [decide_eq_false h8]
        rw [hl] at h8
        rw [decide_eq_false h8, Bool.false_and] at e0
        rw [e0] at q
        exact iteT (q H (Same.refl H))
    | int i => exact iteT (q H (Same.refl H))
    | bl x => exact iteT (q H (Same.refl H))
    | non => exact iteT (q H (Same.refl H))
    | str _ _ => exact iteT (q H (Same.refl H))
    | lst _ _ => exact iteT (q H (Same.refl H))
end
end Ms
set_option Elab.async false
set_option linter.all false
set_option maxRecDepth 100000
set_option maxHeartbeats 4000000
namespace Ms
open PySem PySem.Spec PyProof.Rows L2
/-! ### is_note -/
theorem isNote_len {ds : List PyData} (h : ds.length ≠ 5) : isNote (.tuple ds) = false := by
  match ds, h with
  | [], _ => rfl
  | [_], _ => rfl
  | [_, _], _ => rfl
  | [_, _, _], _ => rfl
  | [_, _, _, _], _ => rfl
  | [_, _, _, _, _], h => exact absurd rfl h
  | _ :: _ :: _ :: _ :: _ :: _ :: _, _ => rfl
theorem five {α : Type} {xs : List α} (h : xs.length = 5) : ∃ a b c d e, xs = [a, b, c, d, e] := by
  match xs, h with
  | [a, b, c, d, e], _ => exact ⟨a, b, c, d, e, rfl⟩
theorem isIn_int {d : PyData} {a c : Int} (h : isIn d a c = true) : ∃ i, d = .int i ∧ a ≤ i ∧ i ≤ c := by
  cases d with
  | int i =>
    have h1 : (decide (a ≤ i) && decide (i ≤ c)) = true := h
    rw [Bool.and_eq_true] at h1
    exact ⟨i, rfl, of_decide_eq_true h1.1, of_decide_eq_true h1.2⟩
  | none => cases h
  | bool _ => cases h
  | str _ => cases h
  | list _ => cases h
  | tuple _ => cases h
  | dict _ => cases h
theorem isPast_at {d : PyData} {i : Int} (h : isPast d = true) (h0 : 0 ≤ i) (h7 : i ≤ 7) : ∃ ds j, d = .tuple ds ∧ ds.length = 8 ∧ ds[i.toNat]? = some (.int j) ∧ pastAt d i = j ∧ 0 ≤ j ∧ j ≤ 134217727 := by
  cases d with
  | tuple ds =>
    have h1 : (decide (V.int ds.length = V.int 8) && (List.range ds.length).all fun i => isIn (ds[i]?.getD .none) 0 134217727) = true := h
    rw [Bool.and_eq_true] at h1
    have h8 : ds.length = 8 := by
      have := V.int.inj (of_decide_eq_true h1.1)
      omega
    have h2 := (List.all_eq_true.mp h1.2) i.toNat (List.mem_range.mpr (by omega))
    have hi : ds[i.toNat]? = some (ds[i.toNat]'(by omega)) := List.getElem?_eq_getElem _
    rw [hi] at h2
    obtain ⟨j, e, l1, l2⟩ := isIn_int h2
    have e' : ds[i.toNat]'(by omega) = .int j := e
    rw [e'] at hi
    refine ⟨ds, j, rfl, h8, hi, ?_, l1, l2⟩
    show numD (ds[i.toNat]?.getD .none) = j
    rw [hi]; rfl
  | none => cases h
  | bool _ => cases h
  | str _ => cases h
  | list _ => cases h
  | int _ => cases h
  | dict _ => cases h
section
variable {P : Program} {w : World} {K : PySem.W.Frag} {mg : Str → Option Value} {base : Heap}
theorem does_is_note (F : At K mg "is_note" sIsNote ["note"]) (b : Bl mg) (c : Cs mg) (D1 : Does P w K mg base CX0 2 "is_key" ["value"] spIsKey) (D2 : Does P w K mg base CX0 1 "is_in" ["value", "least", "most"] spIsIn)
    (D3 : Does P w K mg base CX0 2 "is_past" ["value"] spIsPast) (D4 : Does P w K mg base CX0 2 "is_value" ["value"] spIsValue) :
    Does P w K mg base CX0 3 "is_note" ["note"] spIsNote := by
  obtain ⟨f, fd, g, F, bi⟩ := F
  obtain ⟨f1, fd1, g1, k1, b1, G1⟩ := D1
  obtain ⟨f2, fd2, g2, k2, b2, G2⟩ := D2
  obtain ⟨f3, fd3, g3, k3, b3, G3⟩ := D3
  obtain ⟨f4, fd4, g4, k4, b4, G4⟩ := D4
  obtain ⟨t1, c1⟩ := c.hosts
  obtain ⟨t2, c2⟩ := c.mostSerial
  refine ⟨f, fd, g, F.kp, bi, F.ok scIsNote (fun vs H Q E h => ?_) (fun cdv A outer s H vs Q E hr h => ?_)⟩
  · obtain ⟨v, d, rfl, _⟩ := h
    rfl
  · obtain ⟨v, d, rfl, hd, q⟩ := h
    have hr1 := hr.mono (by decide : 1 ≤ 2)
    refine ⟨_, pss_cons (ps_if (pw_or (pt_not (pt_val (pe_callB call_isi (by rfl) b.isi boot_isinstance (pa_cons (pv 0) (pa_cons (pe_bltn (v := .ty "tuple") (by rfl) b.tup boot_tuple rfl) pa_nil)))))
        (pw_or1 (pt_cmpR op_ne (pe_callB call_len_seq (by rfl) b.len boot_len (pa_cons (pv 0) pa_nil)) pe_int (nomark _)))).pt (pss_one (ps_ret pe_bl)) pss_nil)
      (pss_cons (ps_asg (pv 0) (pg_tup (by rfl) (pgs_cons (pg_name (i := 1) scIsNote.nd rfl (Or.inl rfl)) (pgs_cons (pg_name (i := 2) scIsNote.nd rfl (Or.inl rfl)) (pgs_cons (pg_name (i := 3) scIsNote.nd rfl (Or.inl rfl))
          (pgs_cons (pg_name (i := 4) scIsNote.nd rfl (Or.inl rfl)) (pgs_cons (pg_name (i := 5) scIsNote.nd rfl (Or.inl rfl)) pgs_nil)))))))
      (pss_cons (ps_if (pw_or (pt_not (pt_val (pe_call G1 hr (by rfl) g1 k1 b1 .nil pass0 (pa_cons (pv 1) pa_nil))))
          (pw_or (pt_not (pt_val (pe_call G2 hr1 (by rfl) g2 k2 b2 .nil pass0 (pa_cons (pv 2) (pa_cons pe_int (pa_cons (pe_op op_sub (pe_glob (v := .int 8) (by rfl) c1 ⟨_, rfl⟩) pe_int) pa_nil))))))
          (pw_or1 (pt_not (pt_val (pe_call G2 hr1 (by rfl) g2 k2 b2 .nil pass0 (pa_cons (pv 3) (pa_cons pe_int (pa_cons (pe_glob (v := .int 134217727) (by rfl) c2 ⟨_, rfl⟩) pa_nil))))))))).pt (pss_one (ps_ret pe_bl)) pss_nil)
      (pss_one (ps_ret (pe_and (pe_call G3 hr (by rfl) g3 k3 b3 .nil pass0 (pa_cons (pv 4) pa_nil)) (pe_and (pe_cmpR op_lt (pe_ix ix_tup (pv 4) (pv 2) (fun _ _ => rfl)) (pv 3) (nomark _))
          (pe_one (pe_call G4 hr (by rfl) g4 k4 b4 .nil pass0 (pa_cons (pv 5) pa_nil))))))))), ?_⟩
    refine ⟨v, rfl, _, _, _, _, _, rfl, .ty _, hd.ty, kT hd, _, rfl, ?_⟩
    cases hd with
    | @tup a xs ds e ha =>
      have hl := ha.length
      refine iteF ⟨_, rfl, a, xs, rfl, .inr (SqT.of e), rfl, _, rfl, ?_⟩
      by_cases h5 : V.int (xs.length : Int) = V.int 5
      · rw [decide_eq_true h5]
        have h5n : ds.length = 5 := by
          have := V.int.inj h5
          omega
        obtain ⟨k, h, sr, p, u, rfl⟩ := five h5n
        cases ha with | cons dk ha => cases ha with | cons dh ha => cases ha with | cons ds ha => cases ha with | cons dp ha => cases ha with | cons du ha =>
        cases ha
        rename_i vk vh vs vp vu
        refine iteF ⟨_, rfl, a, _, rfl, SqT.of e, rfl, _, _, rfl, _, _, rfl, _, _, rfl, _, _, rfl, _, _, rfl, rfl, ?_⟩
        refine ⟨_, rfl, _, k, rfl, dk, fun H1 s1 => ⟨_, rfl, ?_⟩⟩
        have e0 : isNote (.tuple [k, h, sr, p, u]) = (isKey k && isIn h 0 7 && isIn sr 1 134217727 && isPast p && decide (pastAt p (numD h) < numD sr) && isValue u) := rfl
        rw [e0] at q
        by_cases q1 : isKey k = true
        case neg =>
          rw [Bool.eq_false_iff.mpr q1] at q ⊢
          simp only [Bool.false_and] at q
          exact iteT (q H1 s1)
        rw [q1] at q ⊢
        refine iteF ⟨_, rfl, _, _, rfl, rfl, _, h, _, _, rfl, Da.same s1 _ _ dh, _, rfl, ?_⟩
        rw [show ((8 : Int) - 1) = 7 by decide]
        by_cases q2 : isIn h 0 7 = true
        case neg =>
          rw [Bool.eq_false_iff.mpr q2] at q ⊢
          simp only [Bool.false_and, Bool.and_false] at q
          exact iteT (q H1 s1)
        rw [q2] at q ⊢
        refine iteF ⟨_, rfl, _, sr, _, _, rfl, Da.same s1 _ _ ds, _, rfl, ?_⟩
        by_cases q3 : isIn sr 1 134217727 = true
        case neg =>
          rw [Bool.eq_false_iff.mpr q3] at q ⊢
          simp only [Bool.false_and, Bool.and_false] at q
          exact iteT (q H1 s1)
        rw [q3] at q ⊢
        refine iteF ⟨_, rfl, _, p, rfl, Da.same s1 _ _ dp, fun H2 s2 => ⟨_, rfl, ?_⟩⟩
        have s12 := s1.trans s2
        by_cases q4 : isPast p = true
        case neg =>
          rw [Bool.eq_false_iff.mpr q4] at q ⊢
          simp only [Bool.false_and, Bool.and_false] at q
          exact iteF (q H2 s12)
        rw [q4] at q ⊢
        obtain ⟨i, rfl, i0, i7⟩ := isIn_int q2
        obtain ⟨j, rfl, j1, j2⟩ := isIn_int q3
        obtain ⟨ps, m, rfl, p8, pm, pe, _, _⟩ := isPast_at q4 i0 i7
        cases dh
        cases ds
        cases dp with | @tup pa px _ ep hp =>
        obtain ⟨pv', ev, dv⟩ := hp.getD pm
        cases dv
        have at1 : atI px i = some (.int m) := by
          have := atI_nat ev
          rw [Int.toNat_of_nonneg i0] at this
          exact this
        refine iteT ⟨_, rfl, _, rfl, pa, px, i, .int m, rfl, rfl, SqT.of (s12 _ _ ep), at1, _, rfl, _, _, rfl, rfl, _, rfl, ?_⟩
        rw [show numD (.int i) = i from rfl, show numD (.int j) = j from rfl, pe] at q
        by_cases q5 : m < j
        case neg =>
          rw [decide_eq_false q5] at q ⊢
          simp only [Bool.false_and, Bool.and_false] at q
          exact iteF (q H2 s12)
        rw [decide_eq_true q5] at q ⊢
        refine iteT ⟨_, rfl, _, u, rfl, Da.same s12 _ _ du, fun H3 s3 => ?_⟩
        simp only [Bool.true_and] at q
        exact q H3 (s12.trans s3)
      · rw [decide_eq_false h5]
        rw [isNote_len (fun z => h5 (by rw [hl, z]; rfl))] at q
        exact iteT (q H (Same.refl H))
    | int i => exact iteT (q H (Same.refl H))
    | bl x => exact iteT (q H (Same.refl H))
    | non => exact iteT (q H (Same.refl H))
    | str _ _ => exact iteT (q H (Same.refl H))
    | lst _ _ => exact iteT (q H (Same.refl H))
end
end Ms
set_option Elab.async false
set_option linter.all false
set_option maxRecDepth 100000
set_option maxHeartbeats 4000000
namespace Ms
open PySem PySem.Spec PyProof.Rows L2
/-! ### BadStore(index): its __init__ says super().__init__(index), self.index = index -/

section
open PySem.W PySem.Calls PySem.HandSPX
def inBody : Stmt → Nat → Stmt
  | .ClassDef (body := b) .., i => b.getD i (.Pass ⟨0, 0, 0, 0⟩)
  | s, _ => s
abbrev sBadInit : Stmt := inBody (topS 2) 0
/-- what the written part says of BadStore, at C, and of its __init__, at fI -/
structure BadTxt (P : Program) (K : Frag) (mg : Str → Option Value) (C fI : Addr) : Prop where
  gC : mg "BadStore" = some (.ref C)
  cls : ∃ nm q N bs bm sn sub ab col dd k0 k1 k2 k3 k5, K.lookup C = some (excClassObj nm q C N bs bm true sn sub ab col dd k0 k1 k2 k3 k5 "ValueError.__new__") ∧ refsVE bm = true
  sa : findIn K (.ref C) "__setattr__" = some (some (.builtin "object.__setattr__"))
  ga : findIn K (.ref C) "__getattribute__" = some (some (.builtin "BaseException.__getattribute__"))
  gg : findIn K (.ref C) "__getattr__" = some none
  noN : findIn K (.ref C) "index" = some none
  iC : findIn K (.ref C) "__init__" = some (some (.ref fI))
  tC : typeIn K (.ref fI) = some (.type "function")
  kC : keepIn K (.ref C) = true
  exC : subIn K (.ref C) (.type "BaseException") = some true
  tyC : typeIn K (.ref C) = some (.type "type")
  hdC : hasDictIn K C = true
  sup : mg "super" = none
  htop : (P.main.scope.names.lookup ("super" : Str)).isSome = false
  opq : nsIn K cStatics "thirdparty.any" = some none
  sm : ks_superIn K C C "__init__" = some (some (.builtin "ValueError.__init__"))
  subB : subIn K (.ref C) (.type "ValueError") = some true
  mroC : mroIn K C (.ref C) = some true
  ein : excInitIn K C [.type "ValueError", .type "Exception", .type "BaseException", .type "object"] "ValueError.__new__" = true
  fn : ∃ (oc : Value) (od : Option Addr) (doc pm : Value) (an : Option Addr) (cda cc : Addr) (ct : Value) (osl : Array (Option Value)),
    K.lookup fI = some ⟨oc, od, .func (ksFn "__init__" "BadStore.__init__" (defArgs sBadInit) (defBody sBadInit) (defScope sBadInit) .none .none doc pm an (.ref cda) ct cc), osl⟩ ∧ codeIn K (.ref cda) "BadStore.__init__" = true ∧
    (∃ cl cld csl, K.lookup cc = some ⟨cl, cld, .cell (some (.ref C)), csl⟩) ∧
    ∃ (ccl : Value) (cdd : Option Addr) (vs : Array Value) (ccs : Array (Option Value)) (file : Str) (tf : Tok), K.lookup cda = some ⟨ccl, cdd, .fields vs, ccs⟩ ∧ vs[2]? = some (.str file tf) ∧ ((P.main.file : Str) == file) = true
/-- what __init__ leaves of a fresh exception at x -/
structure BadEnd (h h' : Heap) (x C dx t1 : Addr) (v : Value) : Prop where
  keep : ∀ b o, h.get? b = some o → h'.get? b = some o
  obj : h'.get? x = some { cls := .ref C, dict := some dx, data := .fields #[.ref t1, .none, .none, .none, .bool false, .none] }
  dbig : h.objs.size ≤ dx
  dne : dx ≠ x
  ns : h'.Ns1 dx (fun y => if y = "index" then some v else none)
variable {prog : Program} {w : World} {A : Around} {E : Value → Shared → Prop} {R : Result → Shared → Prop} {s : Shared} {K : Frag} {mg : Str → Option Value} {C fI : Addr}
theorem bad_init (T : BadTxt prog K mg C fI) {x t0 : Addr} {v : Value} {h₀ : Heap} (X₀ : K.In h₀) (k₀ : ∀ b o, h₀.get? b = some o → s.heap.get? b = some o) (hx0 : h₀.get? x = none) (hz0 : h₀.objs.size ≤ s.heap.objs.size)
    (hlim : s.heap.NoLimit) (G : h₀.Ns mainGlobals mg) (B : ∃ mb, h₀.Ns builtinsNs mb ∧ ∀ x : Str, x ≠ "__name__" → mb x = bootBuiltins x)
    (hx : s.heap.get? x = some (excObj C t0 none .none)) (hroom : A.depth < recursionLimit)
    (hq : ∀ h' tk dx t1, BadEnd h₀ h' x C dx t1 v → R (.ok (.ret .none)) { s with heap := h', toks := tk }) :
    codeAny (model prog w) A (.call (.ref fI) ⟨[.ref x, v], []⟩) R s := by
  obtain ⟨oc, od, doc, pm, an, cda, cc, ct, osl, ho, hcd, ⟨cl, cld, csl, hcc⟩, ccl, cdd, vs, ccs, file, tf, hcode, hvs, hfile⟩ := T.fn
  obtain ⟨nm, q, N, bs, bm, sn, sub, ab, col, dd, k0, k1, k2, k3, k5, hC, hbm⟩ := T.cls
  have X : K.In s.heap := X₀.keeps k₀
  have hcl : clsIn K C = some { name := nm, bases := bs, mro := .ref C :: bm, ns := N, qualname := q, hasDict := true, slotNames := sn, subclasses := sub, abstract := ab, collection := col, hasDel := false } := by unfold clsIn; rw [hC] <;> rfl
  have hcell : ∀ y ∈ (defScope sBadInit).names, y.2 ≠ .cell := by decide +kernel
  have l1 : (defScope sBadInit).names.lookup ("self" : Str) = some .local := by decide +kernel
  have l2 : (defScope sBadInit).names.lookup ("index" : Str) = some .local := by decide +kernel
  have hloc : ∀ y ∈ ([("self", .ref x), ("index", v)] : List (Str × Value)), (defScope sBadInit).names.lookup y.1 = some .local := by
    intro y hy
    rcases List.mem_cons.mp hy with e | hy
    · rw [e]; exact l1
    · rcases List.mem_cons.mp hy with e | hy
      · rw [e]; exact l2
      · cases hy
  refine ks_codeAny_call_defAt (fd := ksFn "__init__" "BadStore.__init__" (defArgs sBadInit) (defBody sBadInit) (defScope sBadInit) .none .none doc pm an (.ref cda) ct cc) (body := defBody sBadInit) (binds := [("self", .ref x), ("index", v)])
    hroom (X _ _ ho) rfl hlim (codeRec_of X hcd) rfl (BindsTo.of_eq (by first | rfl | with_unfolding_all rfl)) hcell hloc (fun h₁ hns hk₁ => ?_) rfl rfl rfl
  have hxL : x ≠ s.heap.objs.size := Nat.ne_of_lt (Heap.lt_size hx)
  have F1 : Fr h₀ s.heap.objs.size h₁ (fun y => ([("self", .ref x), ("index", v)] : List (Str × Value)).reverse.lookup y) := ⟨hns, fun b o e => hk₁ b o (k₀ b o e), hz0⟩
  have N1 : News h₀ s.heap.objs.size h₁ [(x, excObj C t0 none .none)] := by
    intro p hp
    rcases List.mem_singleton.mp hp with rfl
    exact ⟨hk₁ _ _ hx, hxL, hx0⟩
  have hn1 := hns
  obtain ⟨hp, g, d, tk, os⟩ := s
  refine ks_wpAt_execs_cons (ks_wpAt_Expr_any (ks_wpAt_MethodCall ?_))
  have X₁ : K.In h₁ := X₀.keeps F1.keep
  refine ks_wpAt_super_base (by first | rfl | decide +kernel) (by first | rfl | decide +kernel) (by decide) rfl (X₁ _ _ ho) rfl rfl rfl (X₁ _ _ hcode) rfl hvs hfile T.htop ?_
  obtain ⟨mb, hb1, hb2⟩ := B
  refine ks_loadName_global rfl (by first | rfl | decide +kernel) (loadGlobal_builtin (G.keeps F1.keep) T.sup (hb1.keeps F1.keep) ((hb2 _ (by decide)).trans (by decide +kernel)) ⟨rfl, ?_⟩)
  refine wpAny_loadName_free rfl (by first | rfl | decide +kernel) rfl ⟨_, X₁ _ _ hcc, rfl⟩ ?_
  refine wpAny_loadName_local rfl (by first | rfl | decide +kernel) F1.ns rfl ?_
  have hC1 : h₁.get? C = some (excClassObj nm q C N bs bm true sn sub ab col dd k0 k1 k2 k3 k5 "ValueError.__new__") := X₁ _ _ hC
  refine ks_wpAny_isType_cls hC1 rfl ⟨rfl, ?_⟩
  have hx1 : h₁.get? x = some (excObj C t0 none .none) := hk₁ _ _ hx
  refine ks_wpAny_call_super hC1 rfl hx1 rfl (fun c e => by cases e) (looks_mroIn X₁ T.mroC) (fun h₂ e₂ k₂ => ?_)
  obtain ⟨F2, N2, z2⟩ := ks_newsPush (s := ⟨h₁, g, d, tk + 2, os⟩) F1 N1 rfl e₂ k₂
  have I2 : InstAt h₂ x (excObj C t0 none .none) C none := .of_exc0 N2 (List.mem_cons_of_mem _ (List.mem_singleton.mpr rfl))
  refine kxs_method kxs_ValueError F2 X₀ N2 List.mem_cons_self I2 T.opq T.sm T.subB (by decide) (fun u h₃ F3 N3 z3 => ?_)
  refine kxs_callWith1 N3 List.mem_cons_self ?_
  refine spliced_cons (wpAny_Name (wpAny_loadName_local rfl (by first | rfl | decide +kernel) F3.ns rfl (spliced_nil ⟨kxs_at N3 List.mem_cons_self, ?_⟩)) (by decide))
  have ux : u ≠ x := Nat.ne_of_gt (z3 (x, excObj C t0 none .none) (List.mem_cons_of_mem _ (List.mem_singleton.mpr rfl)))
  have sx : h₁.objs.size ≠ x := Nat.ne_of_gt (z2 (x, excObj C t0 none .none) (List.mem_singleton.mpr rfl))
  refine kxs_call F3 X₀ N3 F.excBase_ValueError T.ein List.mem_cons_self (.tail ux (.tail sx (.head (fun p hp => nomatch hp)))) (by rw [sizeLine_eq]; exact (by decide : 1 ≤ 16777216)) (fun t4 h₄ F4 N4 _ => ?_)
  have hx4 : h₄.get? x = some (excObj C t4 none .none) := (N4 (x, excObj C t4 none .none) (by simp)).1
  refine ks_wpAt_execs_cons (wpAt_of_wpAny (plainObj_wpAny_Assign_Attribute ?_))
  refine wpAny_Name (wpAny_loadName_local rfl (by first | rfl | decide +kernel) F4.ns rfl ?_) (by decide)
  refine wpAny_Name (wpAny_loadName_local rfl (by first | rfl | decide +kernel) F4.ns rfl ?_) (by decide)
  have X4 : K.In h₄ := X₀.keeps F4.keep
  refine set_plain X4 (ox := excObj C t4 none .none) (od := none) ⟨hx4, rfl, rfl, trivial⟩ T.sa ?_
  refine exc_osa X4 hx4 hcl (show refsVE (.ref C :: bm) = true from hbm) rfl T.noN (fun h5 tk5 dx k5 dn dne hx5 hn5 => ?_)
  refine wpAt_of_wpAny ?_
  have z : h₀.objs.size ≤ h₄.objs.size := Nat.le_trans F4.above (Nat.le_of_lt F4.ns.lt)
  refine wpAny_execs_nil (hq h5 tk5 dx t4 ⟨fun b o e => k5 b o (fun y => by rw [y, hx0] at e; cases e) (F4.keep b o e), hx5, Nat.le_trans z dn, dne, hn5⟩)
/-- a made BadStore -/
structure BadMade (h h' : Heap) (e C d : Addr) (v : Value) : Prop where
  keep : ∀ b o, h.get? b = some o → h'.get? b = some o
  new : h.objs.size ≤ e
  obj : ∃ oe vs, h'.get? e = some oe ∧ oe.cls = .ref C ∧ oe.dict = some d ∧ oe.data = .fields vs ∧ vs[1]? = some .none
  dbig : h.objs.size ≤ d
  dne : d ≠ e
  ns : h'.Ns1 d (fun y => if y = "index" then some v else none)
theorem bad_made (T : BadTxt prog K mg C fI) {v : Value} (X : K.In s.heap) (hlim : s.heap.NoLimit) (G : s.heap.Ns mainGlobals mg) (B : ∃ mb, s.heap.Ns builtinsNs mb ∧ ∀ x : Str, x ≠ "__name__" → mb x = bootBuiltins x) (hroom : A.depth + 1 < recursionLimit)
    (hq : ∀ h' tk e d, BadMade s.heap h' e C d v → R (.ok (.ret (.ref e))) { s with heap := h', toks := tk }) :
    codeAny (model prog w) A (.call (.ref C) ⟨[v], []⟩) R s := by
  obtain ⟨nm, q, N, bs, bm, sn, sub, ab, col, dd, k0, k1, k2, k3, k5, hC, hbm⟩ := T.cls
  obtain ⟨hp, g, dr, tk, os⟩ := s
  have k : ∀ b o, hp.get? b = some o → ((hp.push (kdv_tup [v])).push (excO C hp.objs.size)).get? b = some o := fun b o e => Heap.get?_push_of_some _ (Heap.get?_push_of_some _ e)
  have hget : ((hp.push (kdv_tup [v])).push (excO C hp.objs.size)).get? (hp.objs.size + 1) = some (excO C hp.objs.size) := by heap_get
  have one : [v].length ≤ sizeLine := by
    rw [sizeLine_eq]; exact (by decide : 1 ≤ 16777216)
  refine call_own PySem.F.excBase_ValueError (fun X => refsVE_contains X bm hbm) (X _ _ hC) (looks_findIn X T.iC) (fun self => bind_fn X self T.tC) one ?_
  have hnew : hp.get? (hp.objs.size + 1) = none := Heap.get?_none_of_le (Nat.le_succ _)
  have hsz : hp.objs.size ≤ ((hp.push (kdv_tup [v])).push (excO C hp.objs.size)).objs.size := by
    rw [Heap.size_push, Heap.size_push]; omega
  refine bad_init (s := ⟨(hp.push (kdv_tup [v])).push (excO C hp.objs.size), g, dr, tk, os⟩) T (h₀ := hp) X k hnew hsz (hlim.keeps k) G B hget ?_ fun h' tk' dx t1 M => ?_
  · show A.depth + 1 < recursionLimit
    exact hroom
  · exact ⟨rfl, hq h' tk' (hp.objs.size + 1) dx ⟨M.keep, Nat.le_succ _, ⟨_, _, M.obj, rfl, rfl, rfl, rfl⟩, M.dbig, M.dne, M.ns⟩⟩
end
theorem relO_index {v : V} {v' : Value} (r : RelV v v') (f : Str) : RelO (List.lookup f [(("index" : Str), v)]) (if f = "index" then some v' else none) := relO_put (fs := []) (mA := fun _ => none) r (fun _ => True.intro) f
section
variable {X : Cx} {C fI : Addr}
/-- BadStore(e) -/
def tMkBad (C : Addr) (ta : TA) : L2.St → Hp → XK → Prop := fun σ H Q => ta σ H fun vs H1 => ∃ v, vs = [v] ∧ ∀ d, H1 d = none → Q (.ref C) (some d) (upd H1 d (.xd [(("index" : Str), v)]))
theorem pmk_bad {a : Expr} {ta : TA} {p pos : Pos} {k : Nat} (T : BadTxt X.prog X.K X.mg C fI) (hr : Room k X.A) (ha : PA X [a] ta) (hg : Gl X "BadStore" := by rfl)
    (he : starEach (a :: []) X.env = (false, eval a X.env) :: starEach [] X.env := by rfl) (hpl : (backTo pos (starEach [] X.env)).any (·.1) = false := by rfl) :
    PMk X (.Call (.Name "BadStore" p) [a] [] pos) (tMkBad C ta) := by
  intro pins s σ H Q I h
  refine wpAny_Call_Name_kw (ld_glob I hg T.gC ?_)
  refine PySem.W.callWith_K (h₀ := X.base) I.ok.mod.kin T.kC (thn (ha.run pos pins s σ H _ I h) fun us s1 hh => ?_) he hpl
  obtain ⟨vs, H1, I1, r1, v, rfl, q1⟩ := hh
  refine ⟨I1.kIn, ?_⟩
  cases r1 with
  | cons rv rn =>
    rename_i v' us'
    cases rn
    show wpAny _ _ (call (.ref C) [v']) _ _ _
    have hlim := I1.nolimit
    have hG : s1.heap.Ns mainGlobals X.mg := I1.mod.glob.keeps I1.bk
    have hB : ∃ mb, s1.heap.Ns builtinsNs mb ∧ ∀ x : Str, x ≠ "__name__" → mb x = bootBuiltins x := by
      obtain ⟨mb, h1, h2⟩ := I1.mod.blt
      exact ⟨mb, h1.keeps I1.bk, h2⟩
    obtain ⟨hp, g, dr, tk, os⟩ := s1
    refine wpAny_call (bad_made T I1.kIn hlim hG hB (by have := hr.dp; omega) fun h' tk' e d M => ?_)
    show MkP X pins σ Q (.ref e) ⟨h', g, dr, tk', os⟩
    obtain ⟨oe, fv, hoe, hc, hd, hdat, h1⟩ := M.obj
    have hns := M.ns
    obtain ⟨G', g1, g2⟩ := restrict h' fun b => decide (b ≠ e)
    have gk : ∀ b, b ≠ e → G'.get? b = h'.get? b := fun b hb => g1 b (decide_eq_true hb)
    have ge : G'.get? e = none := g2 e (by simp)
    have old : ∀ b o, hp.get? b = some o → G'.get? b = some o := fun b o z => (gk b (Nat.ne_of_lt (Nat.lt_of_lt_of_le (Heap.lt_size z) M.new))).trans (M.keep b o z)
    have ob : ObjOk X.prog X.w (upd H1 d (.xd [(("index" : Str), v)])) G' d (.xd [(("index" : Str), v)]) := ⟨_, hns.at (fun o z => (gk d M.dne).trans z), fun f => relO_index rv f⟩
    have J : Inv X pins σ (upd H1 d (.xd [(("index" : Str), v)])) ⟨G', g, dr, tk', os⟩ := I1.laid (t' := tk') old M.dbig ob
    refine ⟨e, oe, fv, ⟨G', g, dr, tk', os⟩, _, .ref C, some d, rfl, J, fun b o z => ?_, ge, hoe, ⟨hc, hd⟩, hdat, h1, ?_, rfl, I1.bare, raises_own T.exC T.tyC, q1 d (I1.hok.fresh M.dbig)⟩
    · by_cases hb : b = e
      · have z' : G'.get? b = some o := z
        rw [hb, ge] at z'; cases z'
      · exact (gk b hb).symm.trans z
    · rw [upd_ne (Ne.symm M.dne)]
      exact I1.hok.fresh M.new
/-- raise BadStore(e) -/
def tRaiseBad (C : Addr) (W : WX) (ta : TA) : TS := fun _ σ H => tMkBad C ta σ H fun cls d H' => W cls d σ H'
theorem ps_raiseBad {a : Expr} {ta : TA} {W : WX} {p pos pos2 : Pos} {k : Nat} (hc : X.calm = true) (T : BadTxt X.prog X.K X.mg C fI) (hr : Room k X.A) (tk : Takes X W) (ha : PA X [a] ta) (hg : Gl X "BadStore" := by rfl)
    (he : starEach (a :: []) X.env = (false, eval a X.env) :: starEach [] X.env := by rfl) (hpl : (backTo pos (starEach [] X.env)).any (·.1) = false := by rfl) :
    PS X (.Raise (some (.Call (.Name "BadStore" p) [a] [] pos)) none pos2) (tRaiseBad C W ta) := ps_raise hc tk (pmk_bad T hr ha hg he hpl)
end
end Ms
set_option Elab.async false
set_option linter.all false
set_option maxRecDepth 100000
set_option maxHeartbeats 4000000
namespace Ms
open PySem PySem.Spec PyProof.Rows L2
/-! ### covers_in, name_in, the law's own -/
def keyEq (d e : PyData) : Bool := match d, e with
  | .str z, .str y => decide (V.str z = V.str y)
  | _, _ => false
def covD (d e : PyData) : Bool := match d, e with
  | .tuple [k, _, _, p, _], .tuple [k', h', s', _, _] => keyEq k k' && decide (numD s' ≤ pastAt p (numD h'))
  | _, _ => false
/-- a note, taken apart -/
theorem note_shape {d : PyData} (h : isNote d = true) : ∃ z i j p u, d = .tuple [.str z, .int i, .int j, p, u] ∧ isKey (.str z) = true ∧ 0 ≤ i ∧ i ≤ 7 ∧ 1 ≤ j ∧ j ≤ 134217727 ∧ isPast p = true ∧ pastAt p i < j ∧ isValue u = true := by
  cases d with
  | tuple ds =>
    by_cases h5 : ds.length = 5
    · obtain ⟨k, hh, sr, p, u, rfl⟩ := five h5
      have e0 : (isKey k && isIn hh 0 7 && isIn sr 1 134217727 && isPast p && decide (pastAt p (numD hh) < numD sr) && isValue u) = true := h
      simp only [Bool.and_eq_true, decide_eq_true_eq] at e0
      obtain ⟨⟨⟨⟨⟨q1, q2⟩, q3⟩, q4⟩, q5⟩, q6⟩ := e0
      obtain ⟨i, rfl, i0, i7⟩ := isIn_int q2
      obtain ⟨j, rfl, j1, j2⟩ := isIn_int q3
      cases k with
      | str z => exact ⟨z, i, j, p, u, rfl, q1, i0, i7, j1, j2, q4, q5, q6⟩
      | none => cases q1
      | bool _ => cases q1
      | int _ => cases q1
      | list _ => cases q1
      | tuple _ => cases q1
      | dict _ => cases q1
    · rw [isNote_len h5] at h; cases h
  | none => cases h
  | bool _ => cases h
  | str _ => cases h
  | list _ => cases h
  | int _ => cases h
  | dict _ => cases h
/-- a thing with a note's parts -/
def Nlike (d : PyData) : Prop := ∃ (z : Str) (i j : Int) (ps : List Int) (u : PyData), d = .tuple [.str z, .int i, .int j, .tuple (ps.map PyData.int), u] ∧ ps.length = 8 ∧ 0 ≤ i ∧ i ≤ 7
/-- where its parts stand -/
theorem note_at {H : Hp} {v : V} {z : Str} {i j : Int} {p u : PyData} (h : Da H v (.tuple [.str z, .int i, .int j, p, u])) (hp : isPast p = true) : ∃ (a b : Addr) (x : V) (ps : List Int), v = .ref a ∧ H a = some (.tup [.str z, .int i, .int j, .ref b, x]) ∧ H b = some (.tup (ps.map V.int)) ∧ ps.length = 8 ∧
    Da H x u ∧ z.length ≤ 1000 ∧ p = .tuple (ps.map PyData.int) ∧ ∀ k : Int, 0 ≤ k → k ≤ 7 → atI (ps.map V.int) k = some (.int (pastAt p k)) := by
  cases h with
  | @tup a xs _ e ha =>
    cases ha with | cons d1 ha => cases ha with | cons d2 ha => cases ha with | cons d3 ha => cases ha with | cons d4 ha => cases ha with | cons d5 ha =>
    cases ha
    cases d1 with | str _ hz =>
    cases d2
    cases d3
    obtain ⟨ds, _, rfl, d8, _⟩ := isPast_at hp (Int.le_refl 0) (by decide)
    cases d4 with | @tup b px _ eb hb =>
    have hex : ∀ (ds : List PyData) (px : List V), DaAll H px ds → (∀ k < ds.length, ∃ j, ds[k]? = some (.int j)) → ∃ ps : List Int, px = ps.map V.int ∧ ds = ps.map PyData.int := by
      intro ds
      induction ds with
      | nil => intro px h _; cases h; exact ⟨[], rfl, rfl⟩
      | cons d ds ih =>
        intro px h k
        cases h with
        | cons a b =>
          obtain ⟨j, e⟩ := k 0 (by simp)
          have e' : d = .int j := by simpa using e
          subst e'
          cases a
          obtain ⟨ps, e1, e2⟩ := ih _ b (fun m hm => by
            obtain ⟨j', e'⟩ := k (m + 1) (by simpa using hm)
            exact ⟨j', by simpa using e'⟩)
          exact ⟨j :: ps, by rw [e1]; rfl, by rw [e2]; rfl⟩
    obtain ⟨ps, e1, e2⟩ := hex ds px hb (fun k hk => by
      obtain ⟨ds', j, e, _, e3, _⟩ := isPast_at (i := (k : Int)) hp (by omega) (by omega)
      cases e
      exact ⟨j, by simpa using e3⟩)
    subst e1 e2
    refine ⟨a, b, _, ps, rfl, e, eb, by simpa using d8, d5, hz, rfl, fun k k0 k7 => ?_⟩
    obtain ⟨ds', j, e, _, e3, e4, _⟩ := isPast_at (i := k) hp k0 k7
    cases e
    rw [e4]
    have e5 : (ps.map V.int)[k.toNat]? = some (.int j) := by
      rw [List.getElem?_map] at e3 ⊢
      cases hh : ps[k.toNat]? with
      | none => rw [hh] at e3; cases e3
      | some y =>
        rw [hh] at e3
        cases e3
        rfl
    have := atI_nat e5
    rw [Int.toNat_of_nonneg k0] at this
    exact this
theorem DaAll.ints_of {H : Hp} : ∀ {ps : List Int} {px : List V}, DaAll H px (ps.map PyData.int) → px = ps.map V.int
  | [], _, h => by cases h; rfl
  | p :: ps, _, h => by
    cases h with
    | cons a b => cases a; rw [DaAll.ints_of b]; rfl
theorem isNote_like {d : PyData} (h : isNote d = true) : Nlike d := by
  obtain ⟨z, i, j, p, u, rfl, _, i0, i7, _, _, hp, _⟩ := note_shape h
  have hex : ∀ (ds : List PyData), (∀ k < ds.length, ∃ j, ds[k]? = some (.int j)) → ∃ ps : List Int, ds = ps.map PyData.int := by
    intro ds
    induction ds with
    | nil => intro _; exact ⟨[], rfl⟩
    | cons d ds ih =>
      intro k
      obtain ⟨j, e⟩ := k 0 (by simp)
      have e' : d = .int j := by simpa using e
      obtain ⟨ps, e2⟩ := ih fun m hm => by
        obtain ⟨j', e'⟩ := k (m + 1) (by simpa using hm)
        exact ⟨j', by simpa using e'⟩
      exact ⟨j :: ps, by rw [e', e2]; rfl⟩
  obtain ⟨ds, _, rfl, d8, _⟩ := isPast_at hp (Int.le_refl 0) (by decide)
  obtain ⟨ps, rfl⟩ := hex ds fun k hk => by
    obtain ⟨ds', j, e, _, e3, _⟩ := isPast_at (i := (k : Int)) hp (by omega) (by omega)
    cases e
    exact ⟨j, by simpa using e3⟩
  exact ⟨z, i, j, ps, u, rfl, by simpa using d8, i0, i7⟩
theorem like_at {H : Hp} {v : V} {z : Str} {i j : Int} {ps : List Int} {u : PyData} (h : Da H v (.tuple [.str z, .int i, .int j, .tuple (ps.map PyData.int), u])) : ∃ (a b : Addr) (x : V), v = .ref a ∧ H a = some (.tup [.str z, .int i, .int j, .ref b, x]) ∧ H b = some (.tup (ps.map V.int)) ∧ Da H x u ∧ z.length ≤ 1000 := by
  cases h with
  | @tup a xs _ e ha =>
    cases ha with | cons d1 ha => cases ha with | cons d2 ha => cases ha with | cons d3 ha => cases ha with | cons d4 ha => cases ha with | cons d5 ha =>
    cases ha
    cases d1 with | str _ hz =>
    cases d2
    cases d3
    cases d4 with | @tup b px _ eb hb =>
    rw [DaAll.ints_of hb] at eb
    exact ⟨a, b, _, rfl, e, eb, d5, hz⟩
theorem past_like {ps : List Int} {k : Int} (h8 : ps.length = 8) (k0 : 0 ≤ k) (k7 : k ≤ 7) : atI (ps.map V.int) k = some (.int (pastAt (.tuple (ps.map PyData.int)) k)) := by
  have hk : k.toNat < ps.length := by omega
  have e5 : (ps.map V.int)[k.toNat]? = some (.int ps[k.toNat]) := by rw [List.getElem?_map, List.getElem?_eq_getElem hk]; rfl
  have e6 : pastAt (.tuple (ps.map PyData.int)) k = ps[k.toNat] := by
    show numD ((ps.map PyData.int)[k.toNat]?.getD .none) = _
    rw [List.getElem?_map, List.getElem?_eq_getElem hk]; rfl
  rw [e6]
  have := atI_nat e5
  rw [Int.toNat_of_nonneg k0] at this
  exact this
theorem scCovers : FnScope ["note", "other"] ["note", "other"] (defScope sCovers) := ⟨rfl, rfl, rfl, by decide +kernel, rfl, by decide +kernel, by decide +kernel⟩
theorem scOver : FnScope ["_law_note", "_law_other"] ["_law_note", "_law_other"] (defScope sOver) := ⟨rfl, rfl, rfl, by decide +kernel, rfl, by decide +kernel, by decide +kernel⟩
theorem scNameIn : FnScope ["note"] ["note"] (defScope sNameIn) := ⟨rfl, rfl, rfl, by decide +kernel, rfl, by decide +kernel, by decide +kernel⟩
def spCov : Sp := fun vs H Q _ => ∃ v u d e, vs = [v, u] ∧ Da H v d ∧ Da H u e ∧ Nlike d ∧ Nlike e ∧ Q (.bl (covD d e)) H
def spName : Sp := fun vs H Q _ => ∃ v d, vs = [v] ∧ Da H v d ∧ isNote d = true ∧ ∀ i : Int, Q (.int i) H
def tCov (K : PySem.W.Frag) : TE := tAndV (tOp rEq (tOp (rIxT K) (tVar 0) (tC (.int 0))) (tOp (rIxT K) (tVar 1) (tC (.int 0)))) (tOp (rI0 fun i j => .bl (decide (i ≤ j))) (tOp (rIxT K) (tVar 1) (tC (.int 2))) (tOp (rIxT K) (tOp (rIxT K) (tVar 0) (tC (.int 3))) (tOp (rIxT K) (tVar 1) (tC (.int 1)))))
theorem cov_run {K : PySem.W.Frag} {H : Hp} {v u : V} {d e : PyData} {Q : VK} (hd : Da H v d) (he : Da H u e) (nd : Nlike d) (ne : Nlike e) (q : Q (.bl (covD d e)) H) : tCov K [some v, some u] H Q := by
  obtain ⟨z, i, j, ps, x, rfl, h8, i0, i7⟩ := nd
  obtain ⟨z', i', j', ps', x', rfl, h8', i0', i7'⟩ := ne
  obtain ⟨a, b, vx, rfl, ea, eb, _⟩ := like_at hd
  obtain ⟨a', b', vx', rfl, ea', eb', _⟩ := like_at he
  refine ⟨_, rfl, a, _, 0, .str z, rfl, rfl, SqT.of ea, atI_nat (j := 0) rfl, _, rfl, a', _, 0, .str z', rfl, rfl, SqT.of ea', atI_nat (j := 0) rfl, rfl, _, rfl, ?_⟩
  have e0 : covD (.tuple [.str z, .int i, .int j, .tuple (ps.map PyData.int), x]) (.tuple [.str z', .int i', .int j', .tuple (ps'.map PyData.int), x']) = (decide (V.str z = V.str z') && decide (j' ≤ pastAt (.tuple (ps.map PyData.int)) i')) := rfl
  rw [e0] at q
  by_cases h1 : V.str z = V.str z'
  · rw [decide_eq_true h1] at q ⊢
    rw [Bool.true_and] at q
    exact iteT ⟨_, rfl, a', _, 2, .int j', rfl, rfl, SqT.of ea', atI_nat (j := 2) rfl, _, rfl, a, _, 3, .ref b, rfl, rfl, SqT.of ea, atI_nat (j := 3) rfl, _, rfl, a', _, 1, .int i', rfl, rfl, SqT.of ea', atI_nat (j := 1) rfl,
      b, _, i', _, rfl, rfl, SqT.of eb, past_like h8 i0' i7', _, _, rfl, rfl, q⟩
  · rw [decide_eq_false h1] at q ⊢
    rw [Bool.false_and] at q
    exact iteF q
section
variable {P : Program} {w : World} {K : PySem.W.Frag} {mg : Str → Option Value} {base : Heap}
theorem does_covers (F : At K mg "covers_in" sCovers ["note", "other"]) : Does P w K mg base CX0 1 "covers_in" ["note", "other"] spCov := by
  obtain ⟨f, fd, g, F, bi⟩ := F
  refine ⟨f, fd, g, F.kp, bi, F.ok scCovers (fun vs H Q E h => ?_) (fun cdv A outer s H vs Q E hr h => ?_)⟩
  · obtain ⟨v, u, d, e, rfl, _⟩ := h
    rfl
  · obtain ⟨v, u, d, e, rfl, hd, he, nd, ne, q⟩ := h
    refine ⟨_, pss_one (ps_ret (pe_and (pe_cmpR op_eq (pe_ix ix_tup (pv 0) pe_int (fun _ _ => rfl)) (pe_ix ix_tup (pv 1) pe_int (fun _ _ => rfl)) (nomark _))
      (pe_one (pe_cmpR op_le (pe_ix ix_tup (pv 1) pe_int (fun _ _ => rfl)) (pe_ix ix_tup (pe_ix ix_tup (pv 0) pe_int (fun _ _ => rfl)) (pe_ix ix_tup (pv 1) pe_int (fun _ _ => rfl)) (fun _ _ => rfl)) (nomark _))))), ?_⟩
    exact cov_run (K := K) hd he nd ne q
theorem does_over (F : At K mg "_law_over" sOver ["_law_note", "_law_other"]) : Does P w K mg base CX0 1 "_law_over" ["_law_note", "_law_other"] spCov := by
  obtain ⟨f, fd, g, F, bi⟩ := F
  refine ⟨f, fd, g, F.kp, bi, F.ok scOver (fun vs H Q E h => ?_) (fun cdv A outer s H vs Q E hr h => ?_)⟩
  · obtain ⟨v, u, d, e, rfl, _⟩ := h
    rfl
  · obtain ⟨v, u, d, e, rfl, hd, he, nd, ne, q⟩ := h
    refine ⟨_, pss_one (ps_ret (pe_and (pe_cmpR op_eq (pe_ix ix_tup (pv 0) pe_int (fun _ _ => rfl)) (pe_ix ix_tup (pv 1) pe_int (fun _ _ => rfl)) (nomark _))
      (pe_one (pe_cmpR op_le (pe_ix ix_tup (pv 1) pe_int (fun _ _ => rfl)) (pe_ix ix_tup (pe_ix ix_tup (pv 0) pe_int (fun _ _ => rfl)) (pe_ix ix_tup (pv 1) pe_int (fun _ _ => rfl)) (fun _ _ => rfl)) (nomark _))))), ?_⟩
    exact cov_run (K := K) hd he nd ne q
theorem does_name (F : At K mg "name_in" sNameIn ["note"]) (c : Cs mg) : Does P w K mg base CX0 1 "name_in" ["note"] spName := by
  obtain ⟨f, fd, g, F, bi⟩ := F
  obtain ⟨t1, c1⟩ := c.span
  refine ⟨f, fd, g, F.kp, bi, F.ok scNameIn (fun vs H Q E h => ?_) (fun cdv A outer s H vs Q E hr h => ?_)⟩
  · obtain ⟨v, d, rfl, _⟩ := h
    rfl
  · obtain ⟨v, d, rfl, hd, nd, q⟩ := h
    obtain ⟨z, i, j, p, x, rfl, _, i0, i7, _, _, hp, _⟩ := note_shape nd
    obtain ⟨a, b, vx, ps, rfl, ea, eb, _⟩ := note_at hd hp
    refine ⟨_, pss_one (ps_ret (pe_op op_add (pe_op op_mul (pe_ix ix_tup (pv 0) pe_int (fun _ _ => rfl)) (pe_glob (v := .int 134217728) (by rfl) c1 ⟨_, rfl⟩)) (pe_ix ix_tup (pv 0) pe_int (fun _ _ => rfl)))), ?_⟩
    exact ⟨_, rfl, a, _, 1, .int i, rfl, rfl, SqT.of ea, atI_nat (j := 1) rfl, _, _, rfl, rfl, .inl ⟨by omega, by omega⟩, _, rfl, a, _, 2, .int j, rfl, rfl, SqT.of ea, atI_nat (j := 2) rfl, _, _, rfl, rfl, q _⟩
end
end Ms
set_option Elab.async false
set_option linter.all false
set_option maxRecDepth 100000
set_option maxHeartbeats 4000000
namespace Ms
open PySem PySem.Spec PyProof.Rows L2
/-! ### need_store -/
def noteAt (ds : List PyData) (k : Nat) : PyData := ds[k]?.getD .none
def le2D (d e : PyData) : Bool := match d, e with
  | .tuple (.str z :: .int i :: _), .tuple (.str z' :: .int i' :: _) => le2 z i z' i'
  | _, _ => false
def crossD (ds : List PyData) (k : Nat) : Bool := (List.range k).any fun j => covD (noteAt ds j) (noteAt ds k) || covD (noteAt ds k) (noteAt ds j)
def badAt (ds : List PyData) (k : Nat) : Bool := !isNote (noteAt ds k) || (decide (0 < k) && le2D (noteAt ds k) (noteAt ds (k - 1))) || crossD ds k
def storeDue (ds : List PyData) : Option Nat := (List.range ds.length).find? (badAt ds)
theorem due_some {ds : List PyData} {k : Nat} (hk : k < ds.length) (hb : badAt ds k = true) (h : ∀ j < k, badAt ds j = false) : storeDue ds = some k := by
  unfold storeDue
  rw [List.find?_range_eq_some]
  refine ⟨hb, List.mem_range.mpr hk, fun j hj => ?_⟩
  rw [h j hj]; rfl
theorem due_none {ds : List PyData} (h : ∀ j < ds.length, badAt ds j = false) : storeDue ds = none := by
  unfold storeDue
  rw [List.find?_eq_none]
  intro j hj
  rw [h j (List.mem_range.mp hj)]
  exact Bool.false_ne_true
theorem good_note {ds : List PyData} {k : Nat} (h : badAt ds k = false) : isNote (noteAt ds k) = true := by
  unfold badAt at h
  cases e : isNote (noteAt ds k) with
  | true => rfl
  | false => rw [e] at h; simp at h
/-- a part that ends in one way: first what follows, then the part -/
theorem use_q {S : Sort _} {T : S → Prop} {Q : S} (R : S → Prop) (hs : R Q) (h : ∀ Q', R Q' → T Q') : T Q := h Q hs
theorem le2_prev {d e : PyData} {z z' : Str} {i j i' j' : Int} {p x p' x' : PyData} (h : d = .tuple [.str z, .int i, .int j, p, x]) (h' : e = .tuple [.str z', .int i', .int j', p', x']) : le2D d e = le2 z i z' i' := by rw [h, h']; rfl
theorem walk_enumT {K : PySem.W.Frag} {a : Addr} {xs : List V} : Walk (IteT K a) xs.length (fun H => SqT K H a xs) (YPair (fun i => some (.int (i : Nat))) (fun i => xs[i]?)) := by
  refine ⟨fun i _ hi q => ⟨xs, xs[i], q, List.getElem?_eq_getElem hi⟩, fun _ q => ⟨xs, q, rfl⟩, fun i H v H' _ q y => ?_⟩
  obtain ⟨T, x, h1, h2, h3, h4⟩ := y
  exact ⟨T, .int (i : Nat), x, h1, h2, h3, rfl, h4 xs q⟩
theorem scNeed : FnScope ["store", "index", "note", "one"] ["store"] (defScope sNeed) := ⟨rfl, rfl, rfl, by decide +kernel, rfl, by decide +kernel, by decide +kernel⟩
/-- a store that is read: nothing, or a BadStore that tells the first bad place -/
def spNeed (C : Addr) : Sp := fun vs H Q E => ∃ v ds, vs = [v] ∧ Da H v (.tuple ds) ∧ ds.length ≤ 1000 ∧ (storeDue ds = none → ∀ H', Same H H' → Q .non H') ∧
  ∀ k, storeDue ds = some k → ∀ H' d, Same H H' → H' d = some (.xd [(("index" : Str), .int (k : Nat))]) → E (.ref C) (some d) H'
theorem not_whole {xs : List V} {k : Nat} (h : k < xs.length) : ¬ (HT.sIx xs.length 0 none = 0 ∧ HT.sIx xs.length xs.length (some (k : Int)) = xs.length) := fun z => by
  have z2 := z.2
  rw [HT.sIx_nat] at z2
  omega
theorem any_not {α : Type} (p : α → Bool) : ∀ l : List α, (!(l.all fun i => !p i)) = l.any p
  | [] => rfl
  | a :: l => by
    rw [List.all_cons, List.any_cons, Bool.not_and, any_not p l, Bool.not_not]
theorem cut_take (xs : List V) (i : Nat) : cutV xs none (some (i : Int)) = xs.take i := by
  unfold cutV
  rw [HT.sIx_none, HT.sIx_nat]
  rw [Nat.sub_zero, List.drop_zero]
  rcases Nat.le_total i xs.length with h | h
  · rw [Nat.min_eq_left h]
  · rw [Nat.min_eq_right h, List.take_of_length_le (Nat.le_refl _), List.take_of_length_le h]
section
variable {P : Program} {w : World} {K : PySem.W.Frag} {mg : Str → Option Value} {base : Heap} {C fI : Addr}
theorem does_need (F : At K mg "need_store" sNeed ["store"]) (b : Bl mg) (T : BadTxt P K mg C fI) (D1 : Does P w K mg base CX0 3 "is_note" ["note"] spIsNote) (D2 : Does P w K mg base CX0 1 "covers_in" ["note", "other"] spCov) :
    Does P w K mg base (L2.CX P w) 4 "need_store" ["store"] (spNeed C) := by
  obtain ⟨f, fd, g, F, bi⟩ := F
  obtain ⟨f1, fd1, g1, k1, b1, G1⟩ := D1
  obtain ⟨f2, fd2, g2, k2, b2, G2⟩ := D2
  refine ⟨f, fd, g, F.kp, bi, F.okX scNeed (fun vs H Q E h => ?_) (fun cdv A outer s H vs Q E hr h => ?_)⟩
  · obtain ⟨v, ds, rfl, _⟩ := h
    rfl
  · obtain ⟨v, ds, rfl, hd, hz, q, qE⟩ := h
    have hr1 := hr.mono (by decide : 1 ≤ 3)
    have hu := hu_of hr
    refine ⟨_, pss_cons (ps_if (pt_not (pt_val (pe_callB call_isi (by rfl) b.isi boot_isinstance (pa_cons (pv 0) (pa_cons (pe_bltn (v := .ty "tuple") (by rfl) b.tup boot_tuple rfl) pa_nil))))) pss_never pss_nil)
      (pss_one (ps_for (passes_of rfl) rfl (pi_enumT (by rfl) b.enm (pa_cons (pv 0) pa_nil)) (pg_tup rfl (pgs_cons (pg_name (i := 1) scNeed.nd rfl (Or.inl rfl)) (pgs_cons (pg_name (i := 2) scNeed.nd rfl (Or.inr rfl)) pgs_nil)))
        (pss_cons (ps_if (pw_or (pt_not (pt_val (pe_call G1 hr (by rfl) g1 k1 b1 .nil pass0 (pa_cons (pv 2) pa_nil))))
            (pw_or1 (pw_and (pt_cmpR op_gt (pv 1) pe_int (nomark _)) (pw_and1 (pt_cmpR (op_le2 (Nat.lt_of_succ_lt hu)) (pe_slice sl_tup (pv 2) po_none (po_some pe_int)) (pe_slice sl_tup (pe_ix ix_tup (pv 0) (pe_op op_sub (pv 1) pe_int) (fun _ _ => rfl)) po_none (po_some pe_int)) (nomark _)))).pt)).pt
            (pss_one (ps_raiseBad rfl T hr (takes_of rfl rfl rfl rfl) (pa_cons (pv 1) pa_nil))) pss_nil)
        (pss_one (ps_if (pt_cmpR (op_neNil (Nat.lt_of_succ_lt hu)) (pe_lc (own := [("one", 3)]) (g := gName 3) (by rfl) scNeed.nd (pi_tup (pe_slice sl_tup (pv 0) po_none (po_some (pv 1)))) (blkOk_by (own := [("one", 3)]) (N := ["store", "index", "note", "one"]) (sc := defScope sNeed) (by decide +kernel))
            (fun _ _ _ _ _ => pg_name (i := 3) scNeed.nd rfl (Or.inl rfl))
            (fun _ _ _ _ _ => pts_one (pw_or (pt_val (pe_call G2 hr1 (by rfl) g2 k2 b2 .nil pass0 (pa_cons (pv 3) (pa_cons (pv 2) pa_nil)))) (pw_or1 (pt_val (pe_call G2 hr1 (by rfl) g2 k2 b2 .nil pass0 (pa_cons (pv 2) (pa_cons (pv 3) pa_nil)))))).pt)
            (fun _ _ _ _ _ => pv 3)) (pe_lst pa_nil) (nomark _))
            (pss_one (ps_raiseBad rfl T hr (takes_of rfl rfl rfl rfl) (pa_cons (pv 1) pa_nil))) pss_nil))))), ?_⟩
    refine ⟨v, rfl, _, _, _, _, _, rfl, .ty _, hd.ty, kT hd, ?_⟩
    cases hd with
    | @tup a xs _ e ha =>
    have hl := ha.length
    have hnote : ∀ k < ds.length, ∃ u, xs[k]? = some u ∧ Da H u (noteAt ds k) := fun k hk => by
      have e1 : ds[k]? = some (noteAt ds k) := by unfold noteAt; rw [List.getElem?_eq_getElem hk]; rfl
      exact ha.getD e1
    refine ⟨_, rfl, iteF ?_⟩
    refine ⟨.ref a, rfl, a, xs, rfl, SqT.of e, ?_⟩
    refine for_it (walk_enumT (xs := xs)) (fun i σ H1 => (∃ y1 y2 y3, σ = [some (.ref a), y1, y2, y3]) ∧ Same H H1 ∧ ∀ k < i, badAt ds k = false) ⟨⟨_, _, _, rfl⟩, Same.refl H, fun k hk => absurd hk (Nat.not_lt_zero k)⟩
      (fun i σ H1 _ h => SqT.of (h.2.1 _ _ e)) (fun i x σ H1 H1' hi h y => ?_) (fun σ H1 h => ?_)
    rotate_left
    · exact q (due_none fun j hj => h.2.2 j (by rw [hl]; exact hj)) _ h.2.1
    obtain ⟨⟨y1, y2, y3, rfl⟩, s1, hgood⟩ := h
    obtain ⟨T1, x1, x2, rfl, nT, rfl, e1, e2⟩ := y
    cases e1
    have hid : i < ds.length := by rw [← hl]; exact hi
    obtain ⟨u, eu, du⟩ := hnote i hid
    have e2' : xs[i]? = some x2 := e2
    rw [eu] at e2'
    cases e2'
    have s2 : Same H (upd H1 T1 (.tup [.int (i : Nat), x2])) := s1.trans (same_upd nT)
    refine ⟨T1, _, rfl, SqT.of upd_same, rfl, _, _, rfl, _, _, rfl, rfl, ?_⟩
    -- is_note(note)
    refine ⟨x2, rfl, x2, _, rfl, Da.same s2 _ _ du, fun H2 s3 => ⟨_, rfl, ?_⟩⟩
    have s23 := s2.trans s3
    -- what a bad place leads to
    have bad : ∀ (H' : Hp), Same H H' → badAt ds i = true → tMkBad C (tCons (tVar 1) tNil) [some (.ref a), some (.int (i : Nat)), some x2, y3] H' (fun cls d H => E cls d H) := fun H' s' hb =>
      ⟨_, rfl, _, rfl, fun d nd => qE i (due_some hid hb hgood) _ d (s'.trans (same_upd nd)) upd_same⟩
    have hb0 : badAt ds i = (!isNote (noteAt ds i) || (decide (0 < i) && le2D (noteAt ds i) (noteAt ds (i - 1))) || crossD ds i) := rfl
    by_cases n1 : isNote (noteAt ds i) = true
    case neg =>
      rw [Bool.eq_false_iff.mpr n1] at hb0 ⊢
      exact iteT (bad H2 s23 (by rw [hb0]; rfl))
    rw [n1] at hb0 ⊢
    obtain ⟨z, ii, jj, p, x, en, _, i0, i7, _, _, hp, _⟩ := note_shape n1
    rw [en] at du
    obtain ⟨ua, ub, ux, ps, rfl, eua, _⟩ := note_at du hp
    refine iteF ?_
    refine use_q (T := fun Q' => tAnd _ _ _ _ Q') (fun Q' => ∀ H4, Same H H4 → Q' (decide (0 < i) && le2D (noteAt ds i) (noteAt ds (i - 1))) H4) (fun H4 s4 => ?_) (fun Q' hQ => ?_)
    rotate_left
    · refine ⟨_, rfl, _, _, rfl, rfl, _, rfl, ?_⟩
      by_cases hi0 : 0 < i
      case neg =>
        have z0 : decide (0 < i) = false := decide_eq_false hi0
        have z1 : decide ((0 : Int) < (i : Int)) = false := decide_eq_false (by omega)
        rw [z1]
        rw [z0] at hQ
        exact iteF (hQ _ s23)
      have z0 : decide (0 < i) = true := decide_eq_true hi0
      have z1 : decide ((0 : Int) < (i : Int)) = true := decide_eq_true (by omega)
      rw [z1]
      rw [z0, Bool.true_and] at hQ
      obtain ⟨u2, eu2, du2⟩ := hnote (i - 1) (by omega)
      obtain ⟨z', ii', jj', p', x', en', _, _, _, _, _, hp', _⟩ := note_shape (good_note (hgood (i - 1) (by omega)))
      rw [en'] at du2
      obtain ⟨ua', ub', ux', ps', rfl, eua', _⟩ := note_at du2 hp'
      rw [le2_prev en en'] at hQ
      have at1 : atI xs ((i : Int) - 1) = some (.ref ua') := by
        have := atI_nat eu2
        have e1 : ((i - 1 : Nat) : Int) = (i : Int) - 1 := by omega
        rw [e1] at this
        exact this
      refine iteT ⟨_, rfl, 2, rfl, ua, _, rfl, SqT.of (s23 _ _ eua), not_whole (k := 2) (by show 2 < 5; decide), fun c1 n1' => ?_⟩
      have s4 := s23.trans (same_upd (o := .tup (cutV [V.str z, .int ii, .int jj, .ref ub, ux] none (some 2))) n1')
      refine ⟨_, rfl, _, rfl, _, _, rfl, rfl, a, xs, _, .ref ua', rfl, rfl, SqT.of (s4 _ _ e), at1, 2, rfl, ua', _, rfl, SqT.of (s4 _ _ eua'), not_whole (k := 2) (by show 2 < 5; decide), fun c2 n2' => ?_⟩
      have s5 := s4.trans (same_upd (o := .tup (cutV [V.str z', .int ii', .int jj', .ref ub', ux'] none (some 2))) n2')
      exact ⟨c1, c2, z, z', ii, ii', rfl, rfl, SqT.of ((upd_ne (ne_of_none upd_same n2')).trans upd_same), SqT.of upd_same, _, rfl, hQ _ s5⟩
    cases hc : (decide (0 < i) && le2D (noteAt ds i) (noteAt ds (i - 1))) with
    | true =>
      rw [hc] at hb0
      exact iteT (bad H4 s4 (by rw [hb0]; rfl))
    | false =>
    rw [hc] at hb0
    have hb1 : badAt ds i = crossD ds i := by rw [hb0]; rfl
    refine iteF ?_
    -- the comprehension
    have hsl : Same H4 H4 := Same.refl H4
    refine ⟨_, rfl, _, rfl, (i : Int), rfl, a, xs, rfl, SqT.of (s4 _ _ e), not_whole hi, fun c1 n1' => ?_⟩
    have s5 := s4.trans (same_upd (o := .tup (cutV xs none (some (i : Int)))) n1')
    have ec : cutV xs none (some (i : Int)) = xs.take i := cut_take xs i
    have el : (xs.take i).length = i := by rw [List.length_take]; omega
    rw [ec] at s5 ⊢
    refine ⟨c1, rfl, ⟨_, SqT.of upd_same⟩, fun D hD => lc_flt (sl := 3) (walk_tup (xs := xs.take i)) (fun j => (xs.take i)[j]?.getD .non) (fun j => covD (noteAt ds j) (noteAt ds i) || covD (noteAt ds i) (noteAt ds j))
      (fun j Hj x H' hj y => ⟨y.1, (getD_of y.2).symm⟩) hD ?_ (Nat.lt_succ_self 3) (fun Hj sj => SqT.of (sj _ _ upd_same)) (fun j Hj Q' hj sj kk => ?_) (fun Hj sj ej => ?_)⟩
    · rw [el]
      exact Nat.le_trans (by omega) (by decide : 1000 ≤ sizeLine)
    · rw [el] at hj
      obtain ⟨u2, eu2, du2⟩ := hnote j (by omega)
      have n2 : isNote (noteAt ds j) = true := good_note (hgood j hj)
      have e3 : (xs.take i)[j]?.getD .non = u2 := by rw [List.getElem?_take, if_pos hj, eu2]; rfl
      have s6 := s5.trans sj
      have dd : Da Hj (V.ref ua) (noteAt ds i) := by rw [en]; exact Da.same s6 _ _ du
      rw [e3]
      refine ⟨u2, rfl, _, rfl, u2, _, _, _, rfl, Da.same s6 _ _ du2, dd, isNote_like n2, isNote_like n1, _, rfl, ?_⟩
      cases c1 : covD (noteAt ds j) (noteAt ds i) with
      | true =>
        rw [c1] at kk
        exact iteT (kk Hj (Same.refl Hj))
      | false =>
        rw [c1, Bool.false_or] at kk
        exact iteF ⟨_, rfl, u2, rfl, _, u2, _, _, rfl, dd, Da.same s6 _ _ du2, isNote_like n1, isNote_like n2, _, rfl, kk Hj (Same.refl Hj)⟩
    · have s6 := s5.trans sj
      refine ⟨Nat.zero_le _, fun o no => ⟨D, o, _, rfl, rfl, SqL.of ((upd_ne (ne_of_none ej no)).trans ej), SqL.of upd_same, _, rfl, ?_⟩⟩
      have s7 := s6.trans (same_upd (o := .lst []) no)
      rw [flt_empty, el, any_not]
      rw [show ((List.range i).any fun j => covD (noteAt ds j) (noteAt ds i) || covD (noteAt ds i) (noteAt ds j)) = crossD ds i from rfl]
      cases hx : crossD ds i with
      | true => exact iteT (bad _ s7 (by rw [hb1, hx]))
      | false =>
        refine iteF ⟨⟨_, _, _, rfl⟩, s7, fun k hk => ?_⟩
        by_cases hki : k = i
        · rw [hki, hb1, hx]
        · exact hgood k (by omega)
end
end Ms
set_option Elab.async false
set_option linter.all false
set_option maxRecDepth 100000
set_option maxHeartbeats 4000000
namespace Ms
open PySem PySem.Spec PyProof.Rows L2
/-! ### merged_in, merged -/
theorem scMergedIn : FnScope ["store", "notes", "latest", "note", "rows", "place", "found", "key", "one"] ["store", "notes"] (defScope sMergedIn) := ⟨rfl, rfl, rfl, by decide +kernel, rfl, by decide +kernel, by decide +kernel⟩
def NoteV (H : Hp) (v : V) : Prop := ∃ d, Da H v d ∧ Nlike d
theorem NoteV.same {H H' : Hp} {v : V} (s : Same H H') (h : NoteV H v) : NoteV H' v := let ⟨d, a, b⟩ := h; ⟨d, Da.same s _ _ a, b⟩
theorem NoteV.parts {H : Hp} {v : V} (h : NoteV H v) : ∃ (z : Str) (i j : Int) (a b : Addr) (x : V), v = .ref a ∧ H a = some (.tup [.str z, .int i, .int j, .ref b, x]) := by
  obtain ⟨d, hd, z, i, j, ps, u, rfl, _⟩ := h
  obtain ⟨a, b, x, rfl, ea, _⟩ := like_at hd
  exact ⟨z, i, j, a, b, x, rfl, ea⟩
theorem valV_mem {κ : Type} [DecidableEq κ] : ∀ {kvs : List (κ × V)} {k : κ} {v : V}, valV kvs k = some v → (k, v) ∈ kvs
  | [], k, v, h => by cases h
  | p :: r, k, v, h => by
    by_cases e : p.1 = k
    · rw [valV_pos e] at h
      cases h
      subst e
      exact List.mem_cons_self
    · rw [valV_neg e] at h
      exact List.mem_cons_of_mem _ (valV_mem h)
theorem mem_valV {κ : Type} [DecidableEq κ] : ∀ {kvs : List (κ × V)} {k : κ}, k ∈ kvs.map (·.1) → ∃ v, valV kvs k = some v
  | [], k, h => by cases h
  | p :: r, k, h => by
    by_cases e : p.1 = k
    · exact ⟨_, valV_pos e⟩
    · rw [valV_neg e]
      refine mem_valV ?_
      rcases List.mem_cons.mp h with z | z
      · exact absurd z.symm e
      · exact z
theorem putK_mem {κ : Type} [DecidableEq κ] {kvs : List (κ × V)} {k : κ} {v : V} {p : κ × V} (h : p ∈ putK kvs k v) : p = (k, v) ∨ p ∈ kvs := by
  unfold putK at h
  split at h
  · obtain ⟨q, hq, e⟩ := List.mem_map.mp h
    by_cases z : q.1 = k
    · rw [if_pos z] at e
      exact .inl (by rw [← e, z])
    · rw [if_neg z] at e
      exact .inr (e ▸ hq)
  · rcases List.mem_append.mp h with z | z
    · exact .inr z
    · exact .inl (List.mem_singleton.mp z)
theorem putK_len {κ : Type} [DecidableEq κ] (kvs : List (κ × V)) (k : κ) (v : V) : (putK kvs k v).length ≤ kvs.length + 1 := by
  unfold putK
  split
  · rw [List.length_map]; exact Nat.le_succ _
  · rw [List.length_append]; exact Nat.le_refl _
/-- what the dicts of places hold -/
def LatOk (H : Hp) (kvs : List (List Key × V)) : Prop := ∀ kv ∈ kvs, (∃ z i, kv.1 = [Sum.inr z, Sum.inl i]) ∧ NoteV H kv.2
theorem LatOk.put {H : Hp} {kvs : List (List Key × V)} {z : Str} {i : Int} {v : V} (h : LatOk H kvs) (n : NoteV H v) : LatOk H (putK kvs [Sum.inr z, Sum.inl i] v) := fun p hp => by
  rcases putK_mem hp with e | e
  · rw [e]; exact ⟨⟨z, i, rfl⟩, n⟩
  · exact h p e
theorem mem_keys {κ : Type} {kvs : List (κ × V)} {p : κ → Prop} (h : ∀ kv ∈ kvs, p kv.1) {k : κ} (hk : k ∈ kvs.map (·.1)) : p k := by
  obtain ⟨kv, h1, h2⟩ := List.mem_map.mp hk
  exact h2 ▸ h kv h1
def RowsOk (H0 H : Hp) (n : Nat) (kvs : List (Key × V)) : Prop := ∀ kv ∈ kvs, ∃ z l ns, kv = (Sum.inr z, V.ref l) ∧ H l = some (.lst ns) ∧ ns.length ≤ n ∧ ∀ x ∈ ns, NoteV H0 x
/-- a + b of tuples, whichever way it is made -/
theorem catA_all {K : PySem.W.Frag} {H : Hp} {a b : Addr} {xs ys : List V} (ha : H a = some (.tup xs)) (hb : H b = some (.tup ys)) (hz : xs.length + ys.length ≤ sizeLine) (Q : VK) (q : ∀ p H', Same H H' → H' p = some (.tup (xs ++ ys)) → Q (.ref p) H') : rCatA K (.ref a) (.ref b) H Q :=
  ⟨a, b, xs, ys, rfl, rfl, SqT.of ha, SqT.of hb, hz, fun e => q b H (Same.refl H) (by rw [e]; exact hb), fun _ e => q a H (Same.refl H) (by rw [e, List.append_nil]; exact ha), fun _ _ p np => q p _ (same_upd np) upd_same⟩
theorem small {n : Nat} (h : n ≤ 4200000) : n < sizeLine := Nat.lt_of_le_of_lt h (by decide)
theorem RowsOk.mono {H0 H H' : Hp} {n m : Nat} {kvs : List (Key × V)} (h : RowsOk H0 H n kvs) (s : ∀ l ns, H l = some (.lst ns) → H' l = some (.lst ns)) (hn : n ≤ m) : RowsOk H0 H' m kvs := fun kv hkv => by
  obtain ⟨z, l, ns, e, e1, e2, e3⟩ := h kv hkv
  exact ⟨z, l, ns, e, s _ _ e1, Nat.le_trans e2 hn, e3⟩
def spMergedIn : Sp := fun vs H Q _ => ∃ v u ds es, vs = [v, u] ∧ Da H v (.tuple ds) ∧ Da H u (.tuple es) ∧ ds.length + es.length ≤ 2000 ∧ (∀ d ∈ ds, Nlike d) ∧ (∀ d ∈ es, Nlike d) ∧ ∀ v' H', Same H H' → Q v' H'
section
variable {P : Program} {w : World} {K : PySem.W.Frag} {mg : Str → Option Value} {base : Heap} {C fI : Addr}
theorem does_merged_in (F : At K mg "merged_in" sMergedIn ["store", "notes"]) (b : Bl mg) (D2 : Does P w K mg base CX0 1 "covers_in" ["note", "other"] spCov) :
    Does P w K mg base CX0 2 "merged_in" ["store", "notes"] spMergedIn := by
  obtain ⟨f, fd, g, F, bi⟩ := F
  obtain ⟨f2, fd2, g2, k2, b2, G2⟩ := D2
  refine ⟨f, fd, g, F.kp, bi, F.ok scMergedIn (fun vs H Q E h => ?_) (fun cdv A outer s H vs Q E hr h => ?_)⟩
  · obtain ⟨v, u, ds, es, rfl, _⟩ := h
    rfl
  · obtain ⟨v, u, ds, es, rfl, hd, he, hz, hn1, hn2, q⟩ := h
    have hu := hu_of hr
    have hu0 := Nat.lt_of_succ_lt hu
    have nd := scMergedIn.nd
    have hu64 : (A.deeper (envOfC "merged_in" (defScope sMergedIn) s.heap.objs.size f cdv)).units + 64 < cLine := hr.units
    refine ⟨_, pss_cons (ps_set (i := 2) nd rfl (Or.inl rfl) pe_dnewT)
      (pss_cons (ps_for PassesOwn.never rfl (pi_tup (pe_op op_catA (pv 0) (pv 1))) (pg_name (i := 3) nd rfl (Or.inr rfl))
        (pss_one (ps_if (pw_or (pt_cmp (pc_dnotin hu (pe_slice sl_tup (pv 3) po_none (po_some pe_int)) (pv 2)))
            (pw_or1 (pt_cmpR op_gt (pe_ix ix_tup (pv 3) pe_int (fun _ _ => rfl)) (pe_ix ix_tup (pe_dget hu (pv 2) (pe_slice sl_tup (pv 3) po_none (po_some pe_int)) (fun _ _ => rfl)) pe_int (fun _ _ => rfl)) (nomark _)))).pt
          (pss_one (ps_dput hu (pv 2) (pe_slice sl_tup (pv 3) po_none (po_some pe_int)) (pv 3) rfl)) pss_nil)))
      (pss_cons (ps_set (i := 4) nd rfl (Or.inl rfl) pe_dnewK)
      (pss_cons (ps_for PassesOwn.never rfl (pi_list (pe_callB (cr_sortedKT hu64 rfl) (by rfl) b.srt PyProof.Rows.boot_sorted (pa_cons (pe_bm0 PySem.F.plainAttrs_dict PySem.F.slot_dict_keys PySem.F.type_dict_keys mt_keys (pv 2)) pa_nil))) (pg_name (i := 5) nd rfl (Or.inl rfl))
        (pss_one (ps_dput hu (pv 4) (pe_ix ix_tup (pv 5) pe_int (fun _ _ => rfl)) (pe_op op_cat (pe_dget2 hu (pv 4) (pe_ix ix_tup (pv 5) pe_int (fun _ _ => rfl)) (pe_lst pa_nil) ⟨rfl, rfl, rfl, rfl⟩) (pe_lst (pa_cons (pe_dget hu (pv 2) (pv 5) (fun _ _ => rfl)) pa_nil))) rfl)))
      (pss_cons (ps_set (i := 6) nd rfl (Or.inl rfl) (pe_lst pa_nil))
      (pss_cons (ps_for PassesOwn.never rfl (pi_list (pe_callB (cr_sortedKK hu64 rfl) (by rfl) b.srt PyProof.Rows.boot_sorted (pa_cons (pe_bm0 PySem.F.plainAttrs_dict PySem.F.slot_dict_keys PySem.F.type_dict_keys mt_keys (pv 4)) pa_nil))) (pg_name (i := 7) nd rfl (Or.inl rfl))
        (pss_one (ps_for PassesOwn.never rfl (pi_list (pe_dget hu (pv 4) (pv 7) (fun _ _ => rfl))) (pg_name (i := 3) nd rfl (Or.inr rfl))
          (pss_one (ps_if (pt_cmpR (op_eqNil hu0) (pe_lc (own := [("one", 8)]) (g := gName 8) (by rfl) nd (pi_list (pe_dget hu (pv 4) (pv 7) (fun _ _ => rfl))) (blkOk_by (own := [("one", 8)]) (N := ["store", "notes", "latest", "note", "rows", "place", "found", "key", "one"]) (sc := defScope sMergedIn) (by decide +kernel))
              (fun _ _ _ _ _ => pg_name (i := 8) nd rfl (Or.inl rfl)) (fun _ _ _ _ _ => pts_one (pt_val (pe_call G2 hr (by rfl) g2 k2 b2 .nil pass0 (pa_cons (pv 8) (pa_cons (pv 3) pa_nil))))) (fun _ _ _ _ _ => pv 8)) (pe_lst pa_nil) (nomark _))
            (pss_one (ps_expr (pe_bm PySem.F.plainAttrs_list PySem.F.slot_list_append PySem.F.type_list_append mt_append (pv 6) (pa_cons (pv 3) pa_nil)))) pss_nil)))))
      (pss_one (ps_ret (pe_callTy call_tuple_of (by rfl) b.tup boot_tuple (pa_cons (pv 6) pa_nil))))))))), ?_⟩
    cases hd with | @tup a xs _ ea ha =>
    cases he with | @tup a2 ys _ ea2 ha2 =>
    have hlx := ha.length
    have hly := ha2.length
    refine fun L nL => ⟨_, rfl, _, rfl, ?_⟩
    have s0 : Same H (upd H L (.dT [])) := same_upd nL
    have hN : ∀ x ∈ xs ++ ys, NoteV H x := fun x hx => by
      rcases List.mem_append.mp hx with z | z
      · obtain ⟨i, hi, e⟩ := List.getElem_of_mem z
        obtain ⟨d, e1, e2⟩ := ha.get (by rw [List.getElem?_eq_getElem hi, e] : xs[i]? = some x)
        exact ⟨d, e2, hn1 d (List.mem_of_getElem? e1)⟩
      · obtain ⟨i, hi, e⟩ := List.getElem_of_mem z
        obtain ⟨d, e1, e2⟩ := ha2.get (by rw [List.getElem?_eq_getElem hi, e] : ys[i]? = some x)
        exact ⟨d, e2, hn2 d (List.mem_of_getElem? e1)⟩
    have hlen : (xs ++ ys).length ≤ 2000 := by rw [List.length_append, hlx, hly]; exact hz
    refine catA_all (s0 _ _ ea) (s0 _ _ ea2) (by rw [hlx, hly]; exact Nat.le_of_lt (small (by omega))) _ (fun c H1 s1 ec => ?_)
    have eL1 : H1 L = some (.dT []) := s1 _ _ upd_same
    refine ⟨c, rfl, ⟨_, SqT.of ec⟩, ?_⟩
    refine for_it (walk_tup (xs := xs ++ ys)) (fun i σ H2 => (∃ y3 y4 y5 y6 y7 y8, σ = [some (.ref a), some (.ref a2), some (.ref L), y3, y4, y5, y6, y7, y8]) ∧ Same H H2 ∧ H2 c = some (.tup (xs ++ ys)) ∧ ∃ kvs, H2 L = some (.dT kvs) ∧ LatOk H kvs ∧ kvs.length ≤ i)
      ⟨⟨_, _, _, _, _, _, rfl⟩, s0.trans s1, ec, [], eL1, (fun kv hkv => nomatch hkv), Nat.le_refl 0⟩ (fun i σ H2 _ h => SqT.of h.2.2.1) (fun i x σ H2 H2' hi h y => ?_) (fun σ H2 h => ?_)
    · obtain ⟨⟨y3, y4, y5, y6, y7, y8, rfl⟩, s2, ec2, kvs, eL, hk, hkl⟩ := h
      obtain ⟨rfl, ex⟩ := y
      have nx : NoteV H x := hN x (List.mem_of_getElem? ex)
      obtain ⟨z, ii, jj, na, nb, nu, rfl, ena⟩ := nx.parts
      have e2 := s2 _ _ ena
      -- a new key tuple is laid: all stands as before
      have lay : ∀ {G : Hp} {p : Addr} (o : HO), G p = none → (Same H G ∧ G c = some (.tup (xs ++ ys)) ∧ G L = some (.dT kvs)) → (Same H (upd G p o) ∧ upd G p o c = some (.tup (xs ++ ys)) ∧ upd G p o L = some (.dT kvs)) := fun {G p} o np h =>
        ⟨h.1.trans (same_upd np), (upd_ne (ne_of_none h.2.1 np)).trans h.2.1, (upd_ne (ne_of_none h.2.2 np)).trans h.2.2⟩
      have put : ∀ {G : Hp}, (Same H G ∧ G c = some (.tup (xs ++ ys)) ∧ G L = some (.dT kvs)) → ∀ p, G p = none → 
          DPut (upd G p (.tup (cutV [V.str z, .int ii, .int jj, .ref nb, nu] none (some 2)))) L (.ref p) (.ref na) (upd (upd G p (.tup (cutV [V.str z, .int ii, .int jj, .ref nb, nu] none (some 2)))) L (.dT (putK kvs [Sum.inr z, Sum.inl ii] (.ref na)))) ∧
          (Same H (upd (upd G p (.tup (cutV [V.str z, .int ii, .int jj, .ref nb, nu] none (some 2)))) L (.dT (putK kvs [Sum.inr z, Sum.inl ii] (.ref na)))) ∧ (upd (upd G p (.tup (cutV [V.str z, .int ii, .int jj, .ref nb, nu] none (some 2)))) L (.dT (putK kvs [Sum.inr z, Sum.inl ii] (.ref na)))) c = some (.tup (xs ++ ys))) := fun {G} h p np => by
        have h' := lay (.tup (cutV [V.str z, .int ii, .int jj, .ref nb, nu] none (some 2))) np h
        refine ⟨DPut.t (k := [Sum.inr z, Sum.inl ii]) h'.2.2 upd_same (small (by omega)), fun b o hb => ?_, ?_⟩
        · have hbL : b ≠ L := fun z => by rw [z, nL] at hb; cases hb
          rw [upd_ne hbL]
          exact h'.1 _ _ hb
        · rw [upd_ne (ne_of h'.2.1 h'.2.2 (by intro z; cases z))]
          exact h'.2.1
      have fin : ∀ {G : Hp}, (Same H G ∧ G c = some (.tup (xs ++ ys))) → G L = some (.dT (putK kvs [Sum.inr z, Sum.inl ii] (.ref na))) → Same H G ∧ G c = some (.tup (xs ++ ys)) ∧ ∃ kvs, G L = some (.dT kvs) ∧ LatOk H kvs ∧ kvs.length ≤ i + 1 := fun {G} h e =>
        ⟨h.1, h.2, _, e, hk.put nx, Nat.le_trans (putK_len _ _ _) (Nat.succ_le_succ hkl)⟩
      refine ⟨_, rfl, 2, rfl, na, _, rfl, SqT.of e2, not_whole (k := 2) (by show 2 < 5; decide), fun c1 n1 => ?_⟩
      have h1 := lay (.tup (cutV [V.str z, .int ii, .int jj, .ref nb, nu] none (some 2))) n1 ⟨s2, ec2, eL⟩
      refine ⟨_, rfl, L, _, rfl, DGet.t (k := [Sum.inr z, Sum.inl ii]) h1.2.2 upd_same, _, rfl, ?_⟩
      cases hv : valV kvs [Sum.inr z, Sum.inl ii] with
      | none =>
        refine iteT ⟨_, rfl, _, rfl, _, rfl, 2, rfl, na, _, rfl, SqT.of (h1.1 _ _ ena), not_whole (k := 2) (by show 2 < 5; decide), fun c2 n2 => ⟨L, _, rfl, (put h1 c2 n2).1, ?_⟩⟩
        exact ⟨⟨_, _, _, _, _, _, rfl⟩, fin (put h1 c2 n2).2 upd_same⟩
      | some old =>
        obtain ⟨z', ii', jj', na', nb', nu', rfl, ena'⟩ := (hk _ (valV_mem hv)).2.parts
        refine iteF ⟨_, rfl, na, _, 2, .int jj, rfl, rfl, SqT.of (h1.1 _ _ ena), atI_nat (j := 2) rfl, _, rfl, _, rfl, 2, rfl, na, _, rfl, SqT.of (h1.1 _ _ ena), not_whole (k := 2) (by show 2 < 5; decide), fun c2 n2 => ?_⟩
        have h2 := lay (.tup (cutV [V.str z, .int ii, .int jj, .ref nb, nu] none (some 2))) n2 h1
        have dg := DGet.t (k := [Sum.inr z, Sum.inl ii]) h2.2.2 (b := c2) upd_same
        rw [hv] at dg
        refine ⟨L, _, rfl, dg, na', _, 2, .int jj', rfl, rfl, SqT.of (h2.1 _ _ ena'), atI_nat (j := 2) rfl, _, _, rfl, rfl, _, rfl, ?_⟩
        by_cases hj : jj' < jj
        · rw [decide_eq_true hj]
          refine iteT ⟨_, rfl, _, rfl, _, rfl, 2, rfl, na, _, rfl, SqT.of (h2.1 _ _ ena), not_whole (k := 2) (by show 2 < 5; decide), fun c3 n3 => ⟨L, _, rfl, (put h2 c3 n3).1, ?_⟩⟩
          exact ⟨⟨_, _, _, _, _, _, rfl⟩, fin (put h2 c3 n3).2 upd_same⟩
        · rw [decide_eq_false hj]
          exact iteF ⟨⟨_, _, _, _, _, _, rfl⟩, h2.1, h2.2.1, kvs, h2.2.2, hk, Nat.le_succ_of_le hkl⟩
    · obtain ⟨⟨y3, y4, y5, y6, y7, y8, rfl⟩, s2, _, kvs, eL, hk, hkl⟩ := h
      have hkN : kvs.length ≤ 2000 := Nat.le_trans hkl hlen
      refine fun Rw nR => ?_
      have eL2 : upd H2 Rw (.dK []) L = some (.dT kvs) := (upd_ne (ne_of_none eL nR)).trans eL
      refine ⟨_, rfl, .inr (.inr (.inl ⟨rfl, .inr ⟨kvs, eL2⟩⟩)), L, rfl, rfl, .inl ⟨kvs, eL2⟩, fun kp nk => ⟨kp, L, kvs, rfl, upd_same, (upd_ne (ne_of_none eL2 nk)).trans eL2, fun kv hkv => (hk kv hkv).1, fun bs sq nq hbl hb => ?_⟩⟩
      have sA : Same (upd H2 Rw (.dK [])) (upd (upd (upd H2 Rw (.dK [])) kp (keysO kp L)) sq (.lst (bs.map fun b => V.ref b.1))) := (same_upd nk).trans (same_upd nq)
      refine ⟨sq, rfl, ⟨_, SqL.of upd_same⟩, ?_⟩
      refine for_it (walk_list (xs := bs.map fun b => V.ref b.1)) (fun i σ G => (∃ z3 z5 z6 z7 z8, σ = [some (.ref a), some (.ref a2), some (.ref L), z3, some (.ref Rw), z5, z6, z7, z8]) ∧ Same H G ∧ G L = some (.dT kvs) ∧ G sq = some (.lst (bs.map fun b => V.ref b.1)) ∧
          (∀ b ∈ bs, G b.1 = some (.tup (b.2.map kV))) ∧ ∃ rk, G Rw = some (.dK rk) ∧ RowsOk H G i rk ∧ rk.length ≤ i)
        ⟨⟨_, _, _, _, _, rfl⟩, (s2.trans (same_upd nR)).trans sA, sA _ _ eL2, upd_same, fun b hb' => (same_upd nq) _ _ (hb b hb').1, [], sA _ _ upd_same, (fun kv hkv => nomatch hkv), Nat.le_refl 0⟩ (fun i σ G _ h => SqL.of h.2.2.2.1) (fun i x σ G G' hi h y => ?_) (fun σ G h => ?_)
      · obtain ⟨⟨z3, z5, z6, z7, z8, rfl⟩, s3, eL3, eq3, eb3, rk, eR, hrk, hrl⟩ := h
        obtain ⟨rfl, ex⟩ := y
        have hib : i < bs.length := by rw [List.length_map] at hi; exact hi
        have ex' : x = .ref bs[i].1 := by
          rw [List.getElem?_map, List.getElem?_eq_getElem hib] at ex
          exact (Option.some.inj ex).symm
        subst ex'
        have hbm : bs[i] ∈ bs := List.getElem_mem hib
        obtain ⟨zk, ik, ek⟩ := mem_keys (p := fun k => ∃ z i, k = [Sum.inr z, Sum.inl i]) (fun kv hkv => (hk kv hkv).1) (hb _ hbm).2
        obtain ⟨v, hv⟩ := mem_valV (hb _ hbm).2
        have nv : NoteV H v := (hk _ (valV_mem hv)).2
        have eB := eb3 _ hbm
        have eB' := eB
        rw [ek] at eB'
        have eBt : G' bs[i].1 = some (.tup [.str zk, .int ik]) := eB'
        -- rows.get(place[0], [])
        refine ⟨_, rfl, Rw, rfl, .inl ⟨rk, .inl eR⟩, _, rfl, bs[i].1, _, 0, .str zk, rfl, rfl, SqT.of eBt, atI_nat (j := 0) rfl, Nat.zero_le _, fun l0 n0 => ?_⟩
        have g0 : Same G' (upd G' l0 (.lst [])) := same_upd n0
        refine ⟨_, DGet.k (k := Sum.inr zk) (g0 _ _ eR), ?_⟩
        obtain ⟨lo, old, eo, elo, hol, hon⟩ : ∃ lo old, (valV rk (Sum.inr zk)).getD (.ref l0) = .ref lo ∧ upd G' l0 (.lst []) lo = some (.lst old) ∧ old.length ≤ i ∧ ∀ x ∈ old, NoteV H x := by
          cases hr : valV rk (Sum.inr zk) with
          | none => exact ⟨l0, [], rfl, upd_same, Nat.zero_le _, fun x hx => nomatch hx⟩
          | some y =>
            obtain ⟨z', l, ns, e, e1, e2, e3⟩ := hrk _ (valV_mem hr)
            cases e
            exact ⟨l, ns, rfl, g0 _ _ e1, e2, e3⟩
        rw [eo]
        have dg : DGet (upd G' l0 (.lst [])) L (.ref bs[i].1) (some v) := by
          have := DGet.t (b := bs[i].1) (k := bs[i].2) (g0 _ _ eL3) (g0 _ _ eB)
          rw [hv] at this
          exact this
        refine ⟨_, rfl, _, rfl, L, v, rfl, dg, (by show 1 ≤ sizeLine; decide), fun l1 n1 => ?_⟩
        have g1 : Same G' (upd (upd G' l0 (.lst [])) l1 (.lst [v])) := g0.trans (same_upd n1)
        refine ⟨lo, l1, old, [v], rfl, rfl, (same_upd n1) _ _ elo, upd_same, Nat.le_of_lt (small (by rw [List.length_singleton]; omega)), fun l2 n2 => ?_⟩
        have g2 : Same G' (upd (upd (upd G' l0 (.lst [])) l1 (.lst [v])) l2 (.lst (old ++ [v]))) := g1.trans (same_upd n2)
        have eR2 := g2 _ _ eR
        refine ⟨_, rfl, _, rfl, bs[i].1, _, 0, .str zk, rfl, rfl, SqT.of (g2 _ _ eBt), atI_nat (j := 0) rfl, Rw, _, rfl, DPut.k (k := Sum.inr zk) eR2 (small (by omega)), ?_⟩
        have keep : ∀ {q : Addr} {o : HO}, G' q = some o → (∀ ks, o ≠ .dK ks) → upd (upd (upd (upd G' l0 (.lst [])) l1 (.lst [v])) l2 (.lst (old ++ [v]))) Rw (.dK (putK rk (Sum.inr zk) (.ref l2))) q = some o := fun {q o} e ne => by
          rw [upd_ne (ne_of (g2 _ _ e) eR2 (ne _))]
          exact g2 _ _ e
        refine ⟨⟨_, _, _, _, _, rfl⟩, fun q o e => ?_, keep eL3 (fun _ z => by cases z), keep eq3 (fun _ z => by cases z), fun b hb' => keep (eb3 b hb') (fun _ z => by cases z), _, upd_same, fun kv hkv => ?_, Nat.le_trans (putK_len _ _ _) (Nat.succ_le_succ hrl)⟩
        · have hq : q ≠ Rw := fun z => by
            have := s2 _ _ e
            rw [z, nR] at this; cases this
          rw [upd_ne hq]
          exact g2 _ _ (s3 _ _ e)
        · rcases putK_mem hkv with e | e
          · refine ⟨zk, l2, old ++ [v], e, ?_, by rw [List.length_append]; exact Nat.succ_le_succ hol, fun x hx => ?_⟩
            · rw [upd_ne (ne_of upd_same eR2 (by intro z; cases z))]
              exact upd_same
            · rcases List.mem_append.mp hx with z | z
              · exact hon x z
              · rw [List.mem_singleton.mp z]; exact nv
          · obtain ⟨z', l, ns, e0, e1, e2, e3⟩ := hrk kv e
            exact ⟨z', l, ns, e0, keep e1 (fun _ z => by cases z), Nat.le_succ_of_le e2, e3⟩
      · obtain ⟨⟨z3, z5, z6, z7, z8, rfl⟩, s3, eL3, eq3, eb3, rk, eR, hrk, hrl⟩ := h
        have hrN : rk.length ≤ 2000 := by rw [List.length_map] at hrl; omega
        have hrk2 : RowsOk H G 2000 rk := hrk.mono (fun _ _ e => e) (by rw [List.length_map]; omega)
        refine ⟨Nat.zero_le _, fun Fo nF => ?_⟩
        have t0 : Same G (upd G Fo (.lst [])) := same_upd nF
        refine ⟨_, rfl, .inr (.inr (.inl ⟨rfl, .inl ⟨rk, t0 _ _ eR⟩⟩)), Rw, rfl, rfl, .inr ⟨rk, t0 _ _ eR⟩, fun kq nkq => ⟨kq, Rw, rk, rfl, upd_same, (same_upd nkq) _ _ (t0 _ _ eR), fun kv hkv => let ⟨z, _, _, e, _⟩ := hrk2 kv hkv; ⟨z, by rw [e]⟩, fun zs q2 nq2 hzl hzm => ?_⟩⟩
        have t1 : Same (upd G Fo (.lst [])) (upd (upd (upd G Fo (.lst [])) kq (keysO kq Rw)) q2 (.lst (zs.map V.str))) := (same_upd nkq).trans (same_upd nq2)
        refine ⟨q2, rfl, ⟨_, SqL.of upd_same⟩, ?_⟩
        refine for_it (walk_list (xs := zs.map V.str)) (fun i σ G1 => (∃ w3 w5 w7 w8, σ = [some (.ref a), some (.ref a2), some (.ref L), w3, some (.ref Rw), w5, some (.ref Fo), w7, w8]) ∧ Same H G1 ∧ G1 q2 = some (.lst (zs.map V.str)) ∧ G1 Rw = some (.dK rk) ∧ 
            (∀ l ns, G l = some (.lst ns) → G1 l = some (.lst ns)) ∧ ∃ fs, G1 Fo = some (.lst fs) ∧ fs.length ≤ i * 2000)
          ⟨⟨_, _, _, _, rfl⟩, (s3.trans t0).trans t1, upd_same, t1 _ _ (t0 _ _ eR), fun l ns e => t1 _ _ (t0 _ _ e), [], t1 _ _ upd_same, Nat.zero_le _⟩ (fun i σ G1 _ h => SqL.of h.2.2.1) (fun i x σ G1 G1' hi h y => ?_) (fun σ G1 h => ?_)
        · obtain ⟨⟨w3, w5, w7, w8, rfl⟩, s4, e2, eR1, kl, fs, eF, hfl⟩ := h
          obtain ⟨rfl, ex⟩ := y
          have hiz : i < zs.length := by rw [List.length_map] at hi; exact hi
          have hi2 : i < 2000 := by omega
          have ex' : x = .str zs[i] := by
            rw [List.getElem?_map, List.getElem?_eq_getElem hiz] at ex
            exact (Option.some.inj ex).symm
          subst ex'
          obtain ⟨v, hv⟩ := mem_valV (hzm _ (List.getElem_mem hiz))
          obtain ⟨z', l, ns, e, el, hnl, hns⟩ := hrk2 _ (valV_mem hv)
          cases e
          have dg : ∀ {G2 : Hp}, G2 Rw = some (.dK rk) → DGet G2 Rw (.str zs[i]) (some (.ref l)) := fun {G2} e => by
            have := DGet.k (k := Sum.inr zs[i]) e
            rw [hv] at this
            exact this
          refine ⟨_, rfl, _, rfl, Rw, _, rfl, dg eR1, l, rfl, ⟨ns, SqL.of (kl _ _ el)⟩, ?_⟩
          refine for_it (walk_list (xs := ns)) (fun j σ G2 => (∃ w3 w5 w8, σ = [some (.ref a), some (.ref a2), some (.ref L), w3, some (.ref Rw), w5, some (.ref Fo), some (.str zs[i]), w8]) ∧ Same H G2 ∧ G2 q2 = some (.lst (zs.map V.str)) ∧ G2 Rw = some (.dK rk) ∧ 
              (∀ l ns, G l = some (.lst ns) → G2 l = some (.lst ns)) ∧ ∃ fs, G2 Fo = some (.lst fs) ∧ fs.length ≤ i * 2000 + j)
            ⟨⟨_, _, _, rfl⟩, s4, e2, eR1, kl, fs, eF, hfl⟩ (fun j σ G2 _ h => SqL.of (h.2.2.2.2.1 _ _ el)) (fun j x σ G2 G2' hj h y => ?_) (fun σ G2 h => ?_)
          · obtain ⟨⟨w3, w5, w8, rfl⟩, s5, e2', eR2, kl2, fs2, eF2, hfl2⟩ := h
            obtain ⟨rfl, ex⟩ := y
            obtain ⟨dn, hdn, hln⟩ := hns x (List.mem_of_getElem? ex)
            refine ⟨_, rfl, _, rfl, Rw, _, rfl, dg eR2, l, rfl, ⟨ns, SqL.of (kl2 _ _ el)⟩, fun D nD => ?_⟩
            refine lc_any (sl := 8) (walk_list (xs := ns)) (fun j => ns[j]?.getD .non) (fun j Hj x H' hj y => ⟨y.1, (getD_of y.2).symm⟩) nD (Nat.le_of_lt (small (by omega))) (Nat.lt_succ_self 8) (fun Hj sj => SqL.of (sj _ _ (kl2 _ _ el))) (fun m Hj Q' hm sj kk => ?_) (fun Hj acc sj ej hal _ => ?_)
            · obtain ⟨dm, hdm, hlm⟩ := hns ns[m] (List.getElem_mem hm)
              have em : ns[m]?.getD .non = ns[m] := by rw [List.getElem?_eq_getElem hm]; rfl
              rw [em]
              exact ⟨ns[m], rfl, _, rfl, _, _, dm, dn, rfl, Da.same (s5.trans sj) _ _ hdm, Da.same (s5.trans sj) _ _ hdn, hlm, hln, _, rfl, kk _ Hj (Same.refl Hj)⟩
            · refine ⟨Nat.zero_le _, fun o no => ⟨D, o, acc, rfl, rfl, SqL.of ((upd_ne (ne_of_none ej no)).trans ej), SqL.of upd_same, _, rfl, ?_⟩⟩
              have sk : Same G2' (upd Hj o (.lst [])) := sj.trans (same_upd no)
              cases acc.isEmpty with
              | true =>
                refine iteT ⟨_, rfl, .inl ⟨rfl, fs2, SqL.of (sk _ _ eF2)⟩, _, rfl, Fo, fs2, x, rfl, rfl, sk _ _ eF2, small (by omega), ?_⟩
                have ne : ∀ {b : Addr} {ob : HO}, G b = some ob → b ≠ Fo := fun {b ob} e z => by rw [z, nF] at e; cases e
                refine ⟨⟨_, _, _, rfl⟩, fun b ob e => ?_, ?_, ?_, fun l' ns' e => ?_, _, upd_same, by rw [List.length_append]; exact Nat.succ_le_succ hfl2⟩
                · rw [upd_ne (ne (s3 _ _ e))]
                  exact sk _ _ (s5 _ _ e)
                · have nq : q2 ≠ Fo := (ne_of_none ((same_upd nkq) Fo _ upd_same) nq2).symm
                  rw [upd_ne nq]
                  exact sk _ _ e2'
                · rw [upd_ne (ne eR)]
                  exact sk _ _ eR2
                · rw [upd_ne (ne e)]
                  exact sk _ _ (kl2 _ _ e)
              | false =>
                exact iteF ⟨⟨_, _, _, rfl⟩, s5.trans sk, sk _ _ e2', sk _ _ eR2, fun l' ns' e => sk _ _ (kl2 _ _ e), fs2, sk _ _ eF2, Nat.le_succ_of_le hfl2⟩
          · obtain ⟨⟨w3, w5, w8, rfl⟩, s5, e2', eR2, kl2, fs2, eF2, hfl2⟩ := h
            exact ⟨⟨_, _, _, _, rfl⟩, s5, e2', eR2, kl2, fs2, eF2, by omega⟩
        · obtain ⟨⟨w3, w5, w7, w8, rfl⟩, s4, _, _, _, fs, eF, _⟩ := h
          exact ⟨_, rfl, Fo, fs, rfl, .inl ⟨SqL.of eF, fun t nt => q _ _ (s4.trans (same_upd nt))⟩⟩
end
end Ms
set_option Elab.async false
set_option linter.all false
set_option maxRecDepth 100000
set_option maxHeartbeats 4000000
namespace Ms
open PySem PySem.Spec PyProof.Rows L2
/-! ### merged, names_in, differ_in, differ -/
theorem scMerged : FnScope ["store", "other"] ["store", "other"] (defScope sMerged) := ⟨rfl, rfl, rfl, by decide +kernel, rfl, by decide +kernel, by decide +kernel⟩
theorem scDiffer : FnScope ["store", "other"] ["store", "other"] (defScope sDiffer) := ⟨rfl, rfl, rfl, by decide +kernel, rfl, by decide +kernel, by decide +kernel⟩
theorem scNames : FnScope ["store", "note"] ["store"] (defScope sNamesIn) := ⟨rfl, rfl, rfl, by decide +kernel, rfl, by decide +kernel, by decide +kernel⟩
theorem scDifferIn : FnScope ["one", "two", "first", "second", "name"] ["one", "two"] (defScope sDifferIn) := ⟨rfl, rfl, rfl, by decide +kernel, rfl, by decide +kernel, by decide +kernel⟩
def spNames : Sp := fun vs H Q _ => ∃ v ds, vs = [v] ∧ Da H v (.tuple ds) ∧ ds.length ≤ 1000 ∧ (∀ d ∈ ds, isNote d = true) ∧ ∀ (p : Addr) (ns : List Int) H', Same H H' → H' p = some (.lst (ns.map V.int)) → ns.length ≤ 1000 → Q (.ref p) H'
def spDifferIn : Sp := fun vs H Q _ => ∃ (a b : Addr) (ns ms : List Int), vs = [.ref a, .ref b] ∧ H a = some (.lst (ns.map V.int)) ∧ H b = some (.lst (ms.map V.int)) ∧ ns.length ≤ 1000 ∧ ms.length ≤ 1000 ∧ ∀ v' H', Same H H' → Q v' H'
/-- merged(store, ()), or differ((), store) -/
def spRead (C : Addr) (sw : Bool) : Sp := fun vs H Q E => ∃ v u ds, (vs = if sw = true then [u, v] else [v, u]) ∧ Da H v (.tuple ds) ∧ Da H u (.tuple []) ∧ ds.length ≤ 1000 ∧ (storeDue ds = none → ∀ v' H', Same H H' → Q v' H') ∧
  ∀ k, storeDue ds = some k → ∀ H' d, Same H H' → H' d = some (.xd [(("index" : Str), .int (k : Nat))]) → E (.ref C) (some d) H'
theorem due_good {ds : List PyData} (h : storeDue ds = none) : ∀ d ∈ ds, isNote d = true := fun d hd => by
  obtain ⟨i, hi, e⟩ := List.getElem_of_mem hd
  unfold storeDue at h
  rw [List.find?_eq_none] at h
  have h1 := h i (List.mem_range.mpr hi)
  have h2 := good_note (Bool.eq_false_iff.mpr h1)
  unfold noteAt at h2
  rw [List.getElem?_eq_getElem hi, e] at h2
  exact h2
section
variable {P : Program} {w : World} {K : PySem.W.Frag} {mg : Str → Option Value} {base : Heap} {C fI : Addr}
theorem does_names (F : At K mg "names_in" sNamesIn ["store"]) (D1 : Does P w K mg base CX0 1 "name_in" ["note"] spName) : Does P w K mg base CX0 2 "names_in" ["store"] spNames := by
  obtain ⟨f, fd, g, F, bi⟩ := F
  obtain ⟨f1, fd1, g1, k1, b1, G1⟩ := D1
  refine ⟨f, fd, g, F.kp, bi, F.ok scNames (fun vs H Q E h => ?_) (fun cdv A outer s H vs Q E hr h => ?_)⟩
  · obtain ⟨v, ds, rfl, _⟩ := h
    rfl
  · obtain ⟨v, ds, rfl, hd, hz, hn, q⟩ := h
    cases hd with | @tup a xs _ ea ha =>
    have hl := ha.length
    refine ⟨_, pss_one (ps_ret (pe_lc (own := [("note", 1)]) (g := gName 1) (tt := tYes) (by rfl) scNames.nd (pi_tup (pv 0)) (blkOk_by (own := [("note", 1)]) (N := ["store", "note"]) (sc := defScope sNamesIn) (by decide +kernel))
      (fun _ _ _ _ _ => pg_name (i := 1) scNames.nd rfl (Or.inl rfl)) (fun _ _ _ _ _ => pts_nil) (fun _ _ _ _ _ => pe_call G1 hr (by rfl) g1 k1 b1 .nil pass0 (pa_cons (pv 1) pa_nil)))), ?_⟩
    refine ⟨_, rfl, a, rfl, ⟨_, SqT.of ea⟩, fun D hD => ?_⟩
    refine lc_it (walk_tup (xs := xs)) (fun i G => Same H G ∧ ∃ ns : List Int, G D = some (.lst (ns.map V.int)) ∧ ns.length = i) ⟨same_upd hD, [], upd_same, rfl⟩ (fun i G _ h => SqT.of (h.1 _ _ ea)) (fun i x G G' hi h y => ?_) (fun G h => ?_)
    · obtain ⟨s1, ns, eD, hns⟩ := h
      obtain ⟨rfl, ex⟩ := y
      obtain ⟨d, ed, hd⟩ := ha.get ex
      refine ⟨wipe1, x, rfl, x, d, rfl, Da.same s1 _ _ hd, hn d (List.mem_of_getElem? ed), fun j => ⟨_, eD, small (by rw [List.length_map]; omega), fun b o e => ?_, ns ++ [j], ?_, by rw [List.length_append, hns]; rfl⟩⟩
      · rw [upd_ne (ne_of_none e hD)]
        exact s1 _ _ e
      · rw [upd_same, List.map_append]; rfl
    · obtain ⟨s1, ns, eD, hns⟩ := h
      exact q D ns G s1 eD (by omega)
/-- a dict display's turns over ints: some dict of them -/
theorem dcg {J : It} {n : Nat} {G : Hp → Prop} {Y : Nat → Hp → V → Hp → Prop} (w : Walk J n G Y) {sl : Nat} {σ : L2.St} {H1 : Hp} {D : Addr} {Qd : Hp → Prop}
    (hY : ∀ i H x H', i < n → Y i H x H' → H' = H ∧ ∃ j : Int, x = .int j) (hD : H1 D = none) (hn : n ≤ sizeLine) (hsl : sl < σ.length) (hG : ∀ H, Same H1 H → G H)
    (hd : ∀ H kvs, Same H1 H → H D = some (.dK kvs) → Qd H) :
    ∃ W : Nat → Nat → Hp → Prop, (∃ m, W 0 m (upd H1 D (.dK []))) ∧ ∀ i m H, W i m H →
      (J.stop i H ∧ Qd H) ∨ (J.go i H ∧ ∃ Nx : Hp → Prop, (∀ H', Nx H' → ∃ m', m' < m ∧ W (i + 1) m' H') ∧ ∀ x H', J.yld i H x H' → gName sl x (wipe σ [sl]) H' fun σ2 H2 => wipe σ2 [sl] = wipe σ [sl] ∧ tYes σ2 H2 fun b H3 =>
        if b = true then tVar sl σ2 H3 fun y H4 => tC (.bl true) σ2 H4 fun z H5 => ∃ kvs k, y = kV k ∧ H5 D = some (.dK kvs) ∧ kvs.length < sizeLine ∧ Nx (upd H5 D (.dK (putK kvs k z))) else Nx H3) := by
  refine ⟨fun i m H => m = n - i ∧ i ≤ n ∧ Same H1 H ∧ ∃ kvs, H D = some (.dK kvs) ∧ kvs.length ≤ i, ⟨n, by simp, Nat.zero_le _, same_upd hD, [], upd_same, Nat.le_refl 0⟩, ?_⟩
  rintro i m H ⟨rfl, hi, s, kvs, e, hl⟩
  by_cases hlt : i < n
  · refine .inr ⟨w.goes i H hlt (hG H s), fun H' => i + 1 ≤ n ∧ Same H1 H' ∧ ∃ kvs, H' D = some (.dK kvs) ∧ kvs.length ≤ i + 1, fun H' p' => ⟨n - (i + 1), by omega, rfl, p'⟩, fun x H' y => ?_⟩
    obtain ⟨rfl, j, rfl⟩ := hY i H x H' hlt (w.yields i H x H' hlt (hG H s) y)
    refine ⟨wipe1, ?_⟩
    refine ⟨.int j, ?_, kvs, Sum.inl j, rfl, e, by omega, hlt, fun b o hb => ?_, _, upd_same, Nat.le_trans (putK_len _ _ _) (Nat.succ_le_succ hl)⟩
    · have : sl < (wipe σ [sl]).length := by rw [wipe_length]; exact hsl
      rw [List.getElem?_set_self this]
    · rw [upd_ne (ne_of_none hb hD)]
      exact s _ _ hb
  · have e0 : i = n := by omega
    subst e0
    exact .inl ⟨w.stops H (hG H s), hd H kvs s e⟩
theorem ints_in {acc : List V} (h : ∀ x ∈ acc, ∃ i : Int, x = .int i) : ∃ ns : List Int, acc = ns.map V.int := by
  induction acc with
  | nil => exact ⟨[], rfl⟩
  | cons x r ih =>
    obtain ⟨ns, e⟩ := ih fun y hy => h y (List.mem_cons_of_mem _ hy)
    obtain ⟨i, e'⟩ := h x List.mem_cons_self
    exact ⟨i :: ns, by rw [e, e']; rfl⟩
theorem does_differ_in (F : At K mg "differ_in" sDifferIn ["one", "two"]) (b : Bl mg) : Does P w K mg base CX0 1 "differ_in" ["one", "two"] spDifferIn := by
  obtain ⟨f, fd, g, F, bi⟩ := F
  refine ⟨f, fd, g, F.kp, bi, F.ok scDifferIn (fun vs H Q E h => ?_) (fun cdv A outer s H vs Q E hr h => ?_)⟩
  · obtain ⟨a, b, ns, ms, rfl, _⟩ := h
    rfl
  · obtain ⟨a, c, ns, ms, rfl, ea, ec, hz1, hz2, q⟩ := h
    have hu := hu_of hr
    have nd := scDifferIn.nd
    refine ⟨_, pss_cons (ps_asg (pe_tup (pa_cons (pe_dc (own := [("name", 4)]) (g := gName 4) (tt := tYes) (by rfl) nd (pi_list (pv 0)) (blkOk_by (own := [("name", 4)]) (N := ["one", "two", "first", "second", "name"]) (sc := defScope sDifferIn) (by decide +kernel)) (fun _ _ _ _ _ => pg_name (i := 4) nd rfl (Or.inl rfl)) (fun _ _ _ _ _ => pts_nil) (fun _ _ _ _ _ => pv 4) (fun _ _ _ _ _ => pe_bl))
          (pa_cons (pe_dc (own := [("name", 4)]) (g := gName 4) (tt := tYes) (by rfl) nd (pi_list (pv 1)) (blkOk_by (own := [("name", 4)]) (N := ["one", "two", "first", "second", "name"]) (sc := defScope sDifferIn) (by decide +kernel)) (fun _ _ _ _ _ => pg_name (i := 4) nd rfl (Or.inl rfl)) (fun _ _ _ _ _ => pts_nil) (fun _ _ _ _ _ => pv 4) (fun _ _ _ _ _ => pe_bl)) pa_nil)))
        (pg_tup (by rfl) (pgs_cons (pg_name (i := 2) nd rfl (Or.inr rfl)) (pgs_cons (pg_name (i := 3) nd rfl (Or.inr rfl)) pgs_nil))))
      (pss_one (ps_ret (pe_callTy call_tuple_of (by rfl) b.tup boot_tuple (pa_cons (pe_callB cr_sortedI (by rfl) b.srt PyProof.Rows.boot_sorted (pa_cons (pe_op op_cat
        (pe_lc (own := [("name", 4)]) (g := gName 4) (by rfl) nd (pi_list (pv 0)) (blkOk_by (own := [("name", 4)]) (N := ["one", "two", "first", "second", "name"]) (sc := defScope sDifferIn) (by decide +kernel)) (fun _ _ _ _ _ => pg_name (i := 4) nd rfl (Or.inl rfl)) (fun _ _ _ _ _ => pts_one (pt_cmp (pc_dnotin hu (pv 4) (pv 3)))) (fun _ _ _ _ _ => pv 4))
        (pe_lc (own := [("name", 4)]) (g := gName 4) (by rfl) nd (pi_list (pv 1)) (blkOk_by (own := [("name", 4)]) (N := ["one", "two", "first", "second", "name"]) (sc := defScope sDifferIn) (by decide +kernel)) (fun _ _ _ _ _ => pg_name (i := 4) nd rfl (Or.inl rfl)) (fun _ _ _ _ _ => pts_one (pt_cmp (pc_dnotin hu (pv 4) (pv 2)))) (fun _ _ _ _ _ => pv 4))) pa_nil)) pa_nil)))), ?_⟩
    have hi : ∀ {ks : List Int} {i : Nat} {x : V}, (ks.map V.int)[i]? = some x → ∃ j : Int, x = .int j := fun {ks i x} e => by
      rw [List.getElem?_map] at e
      cases h : ks[i]? with
      | none => rw [h] at e; cases e
      | some j => rw [h] at e; exact ⟨j, (Option.some.inj e).symm⟩
    refine ⟨_, rfl, a, rfl, ⟨_, SqL.of ea⟩, fun d1 n1 => ?_⟩
    refine dcg (walk_list (xs := ns.map V.int)) (fun i G x G' hi' y => ⟨y.1, hi y.2⟩) n1 (by rw [List.length_map]; exact Nat.le_of_lt (small (by omega))) (Nat.lt_succ_self 4) (fun G s1 => SqL.of (s1 _ _ ea)) (fun G k1 s1 e1 => ?_)
    refine ⟨_, rfl, c, rfl, ⟨_, SqL.of (s1 _ _ ec)⟩, fun d2 n2 => ?_⟩
    refine dcg (walk_list (xs := ms.map V.int)) (fun i G x G' hi' y => ⟨y.1, hi y.2⟩) n2 (by rw [List.length_map]; exact Nat.le_of_lt (small (by omega))) (Nat.lt_succ_self 4) (fun G' s2 => SqL.of (s2 _ _ (s1 _ _ ec))) (fun G2 k2 s2 e2 => ?_)
    refine ⟨(by show 2 ≤ sizeLine; decide), fun t nt => ⟨t, _, rfl, SqT.of upd_same, rfl, _, _, rfl, _, _, rfl, rfl, ?_⟩⟩
    have s3 := s1.trans (s2.trans (same_upd (o := .tup [.ref d1, .ref d2]) nt))
    have e1' := (same_upd (o := .tup [.ref d1, .ref d2]) nt) _ _ (s2 _ _ e1)
    have e2' := (same_upd (o := .tup [.ref d1, .ref d2]) nt) _ _ e2
    have gi : ∀ {ks : List Int} {i : Nat}, i < (ks.map V.int).length → ∃ j : Int, (ks.map V.int)[i]?.getD .non = .int j := fun {ks i} h => by
      obtain ⟨j, e⟩ := hi (List.getElem?_eq_getElem h)
      exact ⟨j, by rw [List.getElem?_eq_getElem h, e]; rfl⟩
    refine ⟨_, rfl, a, rfl, ⟨_, SqL.of (s3 _ _ ea)⟩, fun l1 m1 => ?_⟩
    refine lc_any (sl := 4) (walk_list (xs := ns.map V.int)) (fun j => (ns.map V.int)[j]?.getD .non) (fun j Hj x H' hj y => ⟨y.1, (getD_of y.2).symm⟩) m1 (by rw [List.length_map]; exact Nat.le_of_lt (small (by omega))) (Nat.lt_succ_self 4) (fun Hj sj => SqL.of (sj _ _ (s3 _ _ ea))) (fun j Hj Q' hj sj kk => ?_) (fun G3 acc s4 e4 hl4 hm4 => ?_)
    · obtain ⟨z, ez⟩ := gi hj
      rw [ez]
      exact ⟨_, rfl, _, rfl, d2, _, rfl, DGet.k (k := Sum.inl z) (sj _ _ e2'), _, rfl, kk _ Hj (Same.refl Hj)⟩
    have s34 := s3.trans s4
    refine ⟨_, rfl, c, rfl, ⟨_, SqL.of (s34 _ _ ec)⟩, fun l2 m2 => ?_⟩
    refine lc_any (sl := 4) (walk_list (xs := ms.map V.int)) (fun j => (ms.map V.int)[j]?.getD .non) (fun j Hj x H' hj y => ⟨y.1, (getD_of y.2).symm⟩) m2 (by rw [List.length_map]; exact Nat.le_of_lt (small (by omega))) (Nat.lt_succ_self 4) (fun Hj sj => SqL.of (sj _ _ (s34 _ _ ec))) (fun j Hj Q' hj sj kk => ?_) (fun G4 acc2 s5 e5 hl5 hm5 => ?_)
    · obtain ⟨z, ez⟩ := gi hj
      rw [ez]
      exact ⟨_, rfl, _, rfl, d1, _, rfl, DGet.k (k := Sum.inl z) (sj _ _ (s4 _ _ e1')), _, rfl, kk _ Hj (Same.refl Hj)⟩
    obtain ⟨k1', rfl⟩ := ints_in (acc := acc) fun x hx => by
      obtain ⟨i, h1, h2⟩ := hm4 x hx
      obtain ⟨j, e⟩ := gi h1
      exact ⟨j, h2.trans e⟩
    obtain ⟨k2', rfl⟩ := ints_in (acc := acc2) fun x hx => by
      obtain ⟨i, h1, h2⟩ := hm5 x hx
      obtain ⟨j, e⟩ := gi h1
      exact ⟨j, h2.trans e⟩
    rw [List.length_map, List.length_map] at hl4 hl5
    refine ⟨l1, l2, _, _, rfl, rfl, s5 _ _ e4, e5, Nat.le_of_lt (small (by rw [List.length_map, List.length_map]; omega)), fun l3 m3 => ?_⟩
    refine ⟨l3, k1' ++ k2', rfl, SqL.of (by rw [upd_same, List.map_append]), fun ks' p _ _ np => ?_⟩
    refine ⟨p, _, rfl, .inl ⟨SqL.of upd_same, fun t' nt' => ?_⟩⟩
    exact q _ _ (s34.trans (s5.trans ((same_upd m3).trans ((same_upd np).trans (same_upd nt')))))
theorem does_merged (F : At K mg "merged" sMerged ["store", "other"]) (D1 : Does P w K mg base (L2.CX P w) 4 "need_store" ["store"] (spNeed C)) (D2 : Does P w K mg base CX0 2 "merged_in" ["store", "notes"] spMergedIn) :
    Does P w K mg base (L2.CX P w) 5 "merged" ["store", "other"] (spRead C false) := by
  obtain ⟨f, fd, g, F, bi⟩ := F
  obtain ⟨f1, fd1, g1, k1, b1, G1⟩ := D1
  obtain ⟨f2, fd2, g2, k2, b2, G2⟩ := D2
  refine ⟨f, fd, g, F.kp, bi, F.okX scMerged (fun vs H Q E h => ?_) (fun cdv A outer s H vs Q E hr h => ?_)⟩
  · obtain ⟨v, u, ds, rfl, _⟩ := h
    rfl
  · obtain ⟨v, u, ds, rfl, hd, hu, hz, q, qE⟩ := h
    refine ⟨_, pss_cons (ps_expr (pe_call G1 hr (by rfl) g1 k1 b1 .nil (passes_call (E := E) (takes_of rfl rfl rfl rfl) (fun _ _ _ _ h => h)) (pa_cons (pv 0) pa_nil)))
      (pss_cons (ps_expr (pe_call G1 hr (by rfl) g1 k1 b1 .nil (passes_call (E := E) (takes_of rfl rfl rfl rfl) (fun _ _ _ _ h => h)) (pa_cons (pv 1) pa_nil)))
      (pss_one (ps_ret (pe_call G2 (hr.mono (by decide)) (by rfl) g2 k2 b2 .nil pass0 (pa_cons (pv 0) (pa_cons (pv 1) pa_nil)))))), ?_⟩
    refine ⟨_, rfl, v, ds, rfl, hd, hz, fun hn H1 s1 => ?_, qE⟩
    refine ⟨_, rfl, u, [], rfl, Da.same s1 _ _ hu, Nat.zero_le _, fun _ H2 s2 => ?_, fun k hk => by cases hk⟩
    exact ⟨_, rfl, _, rfl, v, u, ds, [], rfl, Da.same (s1.trans s2) _ _ hd, Da.same (s1.trans s2) _ _ hu, by show ds.length + 0 ≤ 2000; omega, fun d hd' => isNote_like (due_good hn d hd'), (fun d hd' => nomatch hd'), fun v' H' s' => q hn v' H' ((s1.trans s2).trans s')⟩
theorem does_differ (F : At K mg "differ" sDiffer ["store", "other"]) (D1 : Does P w K mg base (L2.CX P w) 4 "need_store" ["store"] (spNeed C)) (D2 : Does P w K mg base CX0 2 "names_in" ["store"] spNames) (D3 : Does P w K mg base CX0 1 "differ_in" ["one", "two"] spDifferIn) :
    Does P w K mg base (L2.CX P w) 5 "differ" ["store", "other"] (spRead C true) := by
  obtain ⟨f, fd, g, F, bi⟩ := F
  obtain ⟨f1, fd1, g1, k1, b1, G1⟩ := D1
  obtain ⟨f2, fd2, g2, k2, b2, G2⟩ := D2
  obtain ⟨f3, fd3, g3, k3, b3, G3⟩ := D3
  refine ⟨f, fd, g, F.kp, bi, F.okX scDiffer (fun vs H Q E h => ?_) (fun cdv A outer s H vs Q E hr h => ?_)⟩
  · obtain ⟨v, u, ds, rfl, _⟩ := h
    rfl
  · obtain ⟨v, u, ds, rfl, hd, hu, hz, q, qE⟩ := h
    have hr2 := hr.mono (by decide : 2 ≤ 4)
    have hr1 := hr.mono (by decide : 1 ≤ 4)
    refine ⟨_, pss_cons (ps_expr (pe_call G1 hr (by rfl) g1 k1 b1 .nil (passes_call (E := E) (takes_of rfl rfl rfl rfl) (fun _ _ _ _ h => h)) (pa_cons (pv 0) pa_nil)))
      (pss_cons (ps_expr (pe_call G1 hr (by rfl) g1 k1 b1 .nil (passes_call (E := E) (takes_of rfl rfl rfl rfl) (fun _ _ _ _ h => h)) (pa_cons (pv 1) pa_nil)))
      (pss_one (ps_ret (pe_call G3 hr1 (by rfl) g3 k3 b3 .nil pass0 (pa_cons (pe_call G2 hr2 (by rfl) g2 k2 b2 .nil pass0 (pa_cons (pv 0) pa_nil)) (pa_cons (pe_call G2 hr2 (by rfl) g2 k2 b2 .nil pass0 (pa_cons (pv 1) pa_nil)) pa_nil)))))), ?_⟩
    refine ⟨_, rfl, u, [], rfl, hu, Nat.zero_le _, fun _ H1 s1 => ?_, fun k hk => by cases hk⟩
    refine ⟨_, rfl, v, ds, rfl, Da.same s1 _ _ hd, hz, fun hn H2 s2 => ?_, fun k hk H' d s' => qE k hk H' d (s1.trans s')⟩
    have s12 := s1.trans s2
    refine ⟨_, rfl, u, [], rfl, Da.same s12 _ _ hu, Nat.zero_le _, (fun d hd' => nomatch hd'), fun p1 n1 H3 s3 e3 h3 => ?_⟩
    refine ⟨_, rfl, v, ds, rfl, Da.same (s12.trans s3) _ _ hd, hz, due_good hn, fun p2 n2 H4 s4 e4 h4 => ?_⟩
    exact ⟨p1, p2, n1, n2, rfl, s4 _ _ e3, e4, h3, h4, fun v' H' s' => q hn v' H' (((s12.trans s3).trans s4).trans s')⟩
end
end Ms
set_option Elab.async false
set_option linter.all false
set_option maxRecDepth 100000
set_option maxHeartbeats 4000000
namespace Ms
open PySem PySem.Spec PyProof.Rows L2
/-! ### the law's draws: only the kind of what is drawn is told -/
theorem scTaken : FnScope ["_law_row", "_law_many", "_law_found", "_law_cell"] ["_law_row", "_law_many"] (defScope sTaken) := ⟨rfl, rfl, rfl, by decide +kernel, rfl, by decide +kernel, by decide +kernel⟩
theorem scPick : FnScope ["_law_row", "_law_things"] ["_law_row", "_law_things"] (defScope sPick) := ⟨rfl, rfl, rfl, by decide +kernel, rfl, by decide +kernel, by decide +kernel⟩
/-- the row of draws at R: the script, the place, the generator's number, what is left -/
def RowIn (R sc : Addr) (H : Hp) : Prop := ∃ i x r : Int, H R = some (.lst [.ref sc, .int i, .int x, .int r]) ∧ 0 ≤ i ∧ 0 ≤ x ∧ x < 2147483647 ∧ 0 ≤ r
/-- the script stands -/
def Scr (K : PySem.W.Frag) (R sc : Addr) (H : Hp) : Prop := ∃ cs : List Int, SqL K (cut R H) sc (cs.map V.int)
def RowAt (K : PySem.W.Frag) (R sc : Addr) (H : Hp) : Prop := RowIn R sc H ∧ Scr K R sc H
/-- H' is H but for the row, and more -/
abbrev SameBut (R : Addr) (H H' : Hp) : Prop := Same (cut R H) (cut R H')
def spTaken (K : PySem.W.Frag) : Sp := fun vs H Q _ => ∃ (R sc : Addr) (n : Int), vs = [.ref R, .int n] ∧ 0 < n ∧ n ≤ 4398046511104 ∧ RowAt K R sc H ∧ ∀ (t : Int) H', 0 ≤ t → t < n → RowAt K R sc H' → SameBut R H H' → Q (.int t) H'
theorem Scr.but {K : PySem.W.Frag} {R sc : Addr} {H H' : Hp} (s : SameBut R H H') (h : Scr K R sc H) : Scr K R sc H' := let ⟨cs, e⟩ := h; ⟨cs, Same.seq s e⟩
theorem RowIn.upd {R sc p : Addr} {H : Hp} {o : HO} (h : RowIn R sc H) (np : p ≠ R) : RowIn R sc (upd H p o) := by
  obtain ⟨i, x, r, e, rest⟩ := h
  exact ⟨i, x, r, (upd_ne np.symm).trans e, rest⟩
theorem but_upd {R p : Addr} {H H' : Hp} {o : HO} (s : SameBut R H H') (np : H p = none) : SameBut R H (upd H' p o) := fun b ob e => by
  obtain ⟨h1, h2⟩ := cut_get e
  rw [cut_ne h1, upd_ne (ne_of_none h2 np)]
  exact (cut_get (s _ _ e)).2
theorem but_new {R p : Addr} {H : Hp} {o : HO} (np : H p = none) : SameBut R H (upd H p o) := cut_of (same_upd np)
theorem lt_pow42 {n : Int} (h0 : 0 < n) (h : n ≤ 4398046511104) : CDivW 0 n := wide_div (b := 43) h0 (by omega) (by decide) (by decide)
section
variable {P : Program} {w : World} {K : PySem.W.Frag} {mg : Str → Option Value} {base : Heap}
theorem does_taken (F : At K mg "_law_taken" sTaken ["_law_row", "_law_many"]) (b : Bl mg) : Does P w K mg base CX0 1 "_law_taken" ["_law_row", "_law_many"] (spTaken K) := by
  obtain ⟨f, fd, g, F, bi⟩ := F
  refine ⟨f, fd, g, F.kp, bi, F.ok scTaken (fun vs H Q E h => ?_) (fun cdv A outer s H vs Q E hr h => ?_)⟩
  · obtain ⟨R, sc, n, rfl, _⟩ := h
    rfl
  · obtain ⟨R, sc, n, rfl, h0, hn, ⟨⟨i, x, r, eR, i0, x0, x1, r0⟩, cs, hS⟩, q⟩ := h
    have nd := scTaken.nd
    refine ⟨_, pss_cons (ps_if (pt_cmpR op_gt (pe_ix ix_list (pv 0) pe_int (fun _ _ => rfl)) pe_int (nomark _))
        (pss_cons (ps_set (i := 2) nd rfl (Or.inl rfl) (pe_op op_mod (pe_callTy call_int1 (by rfl) b.int boot_int (pa_cons (pe_ix ix_list (pv 0) pe_int (fun _ _ => rfl)) pa_nil)) (pv 1)))
        (pss_cons (ps_asg (pe_op op_fdivW (pe_ix ix_list (pv 0) pe_int (fun _ _ => rfl)) (pv 1)) (pg_sub (pv 0) pe_int set_list (fun _ => rfl)))
        (pss_one (ps_ret (pv 2))))) pss_nil)
      (pss_cons (ps_asg (pe_op op_add (pe_ix ix_list (pv 0) pe_int (fun _ _ => rfl)) pe_int) (pg_sub (pv 0) pe_int set_list (fun _ => rfl)))
      (pss_cons (ps_if (pt_cmpR op_gt (pe_ix ix_list (pv 0) pe_int (fun _ _ => rfl)) (pe_callB call_len_seq (by rfl) b.len boot_len (pa_cons (pe_ix ix_list (pv 0) pe_int (fun _ _ => rfl)) pa_nil)) (nomark _))
        (pss_cons (ps_asg (pe_op op_mod (pe_callTy call_int1 (by rfl) b.int boot_int (pa_cons (pe_op op_add (pe_op op_mul (pe_ix ix_list (pv 0) pe_int (fun _ _ => rfl)) pe_int) pe_int) pa_nil)) pe_int) (pg_sub (pv 0) pe_int set_list (fun _ => rfl)))
        (pss_one (ps_ret (pe_op op_mod (pe_callTy call_int1 (by rfl) b.int boot_int (pa_cons (pe_op op_fdiv (pe_ix ix_list (pv 0) pe_int (fun _ _ => rfl)) pe_int) pa_nil)) (pv 1))))) pss_nil)
      (pss_cons (ps_set (i := 3) nd rfl (Or.inl rfl) (pe_ix ix_list (pe_ix ix_list (pv 0) pe_int (fun _ _ => rfl)) (pe_op op_sub (pe_ix ix_list (pv 0) pe_int (fun _ _ => rfl)) pe_int) (fun _ _ => rfl)))
      (pss_cons (ps_asg (pe_op op_mod (pe_callTy call_int1 (by rfl) b.int boot_int (pa_cons (pe_op op_add (pe_op op_add (pe_op op_mul (pe_ix ix_list (pv 0) pe_int (fun _ _ => rfl)) pe_int) (pv 3)) pe_int) pa_nil)) pe_int) (pg_sub (pv 0) pe_int set_list (fun _ => rfl)))
      (pss_cons (ps_if (pt_cmpR op_ge (pv 3) (pe_op op_pow pe_int pe_int) (nomark _)) (pss_one (ps_asg (pe_op op_fdivW (pv 3) (pv 1)) (pg_sub (pv 0) pe_int set_list (fun _ => rfl)))) pss_nil)
      (pss_one (ps_ret (pe_op op_mod (pe_callTy call_int1 (by rfl) b.int boot_int (pa_cons (pv 3) pa_nil)) (pv 1))))))))), ?_⟩
    -- what every store leaves
    have fin : ∀ (i' x' r' t : Int), 0 ≤ i' → 0 ≤ x' → x' < 2147483647 → 0 ≤ r' → 0 ≤ t → t < n → ∀ H', H' R = some (.lst [.ref sc, .int i', .int x', .int r']) → cut R H' = cut R H → Q (.int t) H' := fun i' x' r' t h1 h2 h3 h4 h5 h6 H' e ec =>
      q t H' h5 h6 ⟨⟨i', x', r', e, h1, h2, h3, h4⟩, cs, by rw [ec]; exact hS⟩ (by rw [SameBut, ec]; exact Same.refl _)
    have md : ∀ z : Int, 0 ≤ z % n ∧ z % n < n := fun z => ⟨Int.emod_nonneg _ (by omega), Int.emod_lt_of_pos _ h0⟩
    have mx : ∀ z : Int, 0 ≤ z % 2147483647 ∧ z % 2147483647 < 2147483647 := fun z => ⟨Int.emod_nonneg _ (by decide), Int.emod_lt_of_pos _ (by decide)⟩
    have dv : ∀ z : Int, 0 ≤ z → 0 ≤ z / n := fun z hz => Int.ediv_nonneg hz (by omega)
    have hw : ∀ z : Int, CDivW z n := fun z => lt_pow42 h0 hn
    have sl : ∀ {H' : Hp}, cut R H' = cut R H → SqL K H' sc (cs.map V.int) := fun {H'} e => Same.seq (cut_le R H') (by rw [e]; exact hS)
    refine ⟨_, rfl, R, _, 3, .int r, rfl, rfl, SqL.of eR, atI_nat (j := 3) rfl, _, _, rfl, rfl, _, rfl, ?_⟩
    by_cases hr0 : 0 < r
    · rw [decide_eq_true hr0]
      refine iteT ⟨_, rfl, R, _, 3, .int r, rfl, rfl, SqL.of eR, atI_nat (j := 3) rfl, .inl ⟨_, rfl, _, rfl, _, _, rfl, rfl, h0, ?_⟩⟩
      refine ⟨_, rfl, R, _, 3, .int r, rfl, rfl, SqL.of eR, atI_nat (j := 3) rfl, _, rfl, _, _, rfl, rfl, hw r, _, rfl, R, _, 3, 3, rfl, rfl, eR, rfl, ?_⟩
      exact ⟨_, rfl, fin i x (r / n) (r % n) i0 x0 x1 (dv r r0) (md r).1 (md r).2 _ upd_same cut_upd⟩
    · rw [decide_eq_false hr0]
      refine iteF ⟨_, rfl, R, _, 1, .int i, rfl, rfl, SqL.of eR, atI_nat (j := 1) rfl, _, _, rfl, rfl, _, rfl, R, _, 1, 1, rfl, rfl, eR, rfl, ?_⟩
      generalize hH1 : upd H R (.lst ([V.ref sc, .int i, .int x, .int r].set 1 (.int (i + 1)))) = H1
      have eR1 : H1 R = some (.lst [.ref sc, .int (i + 1), .int x, .int r]) := by rw [← hH1]; exact upd_same
      have c1 : cut R H1 = cut R H := by rw [← hH1]; exact cut_upd
      refine ⟨_, rfl, R, _, 1, .int (i + 1), rfl, rfl, SqL.of eR1, atI_nat (j := 1) rfl, _, rfl, R, _, 0, .ref sc, rfl, rfl, SqL.of eR1, atI_nat (j := 0) rfl, sc, _, rfl, .inl (sl c1), _, _, rfl, rfl, _, rfl, ?_⟩
      rw [List.length_map]
      by_cases hl : (cs.length : Int) < i + 1
      · rw [decide_eq_true hl]
        refine iteT ⟨_, rfl, R, _, 2, .int x, rfl, rfl, SqL.of eR1, atI_nat (j := 2) rfl, _, _, rfl, rfl, .inl ⟨by omega, by omega⟩, _, _, rfl, rfl, .inl ⟨_, rfl, _, _, rfl, rfl, (by show (0 : Int) < 2147483647; decide), ?_⟩⟩
        refine ⟨_, rfl, R, _, 2, 2, rfl, rfl, eR1, rfl, ?_⟩
        have hx2b := mx (x * 48271 + 11)
        have eR2 : upd H1 R (.lst [.ref sc, .int (i + 1), .int ((x * 48271 + 11) % 2147483647), .int r]) R = some (.lst [.ref sc, .int (i + 1), .int ((x * 48271 + 11) % 2147483647), .int r]) := upd_same
        have c2 : cut R (upd H1 R (.lst [.ref sc, .int (i + 1), .int ((x * 48271 + 11) % 2147483647), .int r])) = cut R H := by rw [cut_upd]; exact c1
        refine ⟨_, rfl, R, _, 2, _, rfl, rfl, SqL.of eR2, atI_nat (j := 2) rfl, _, _, rfl, rfl, ⟨by decide, by decide⟩, .inl ⟨_, rfl, _, rfl, _, _, rfl, rfl, h0, ?_⟩⟩
        exact fin (i + 1) _ r _ (by omega) hx2b.1 hx2b.2 r0 (md _).1 (md _).2 _ eR2 c2
      · rw [decide_eq_false hl]
        have hi : i.toNat < cs.length := by omega
        have ec : atI (cs.map V.int) (i + 1 - 1) = some (.int cs[i.toNat]) := by
          have e1 : (cs.map V.int)[i.toNat]? = some (.int cs[i.toNat]) := by rw [List.getElem?_map, List.getElem?_eq_getElem hi]; rfl
          have := atI_nat e1
          rw [show ((i.toNat : Nat) : Int) = i + 1 - 1 by omega] at this
          exact this
        refine iteF ⟨_, rfl, R, _, 0, .ref sc, rfl, rfl, SqL.of eR1, atI_nat (j := 0) rfl, _, rfl, R, _, 1, .int (i + 1), rfl, rfl, SqL.of eR1, atI_nat (j := 1) rfl, _, _, rfl, rfl, sc, _, _, .int cs[i.toNat], rfl, rfl, sl c1, ec, ?_⟩
        generalize cs[i.toNat] = c
        refine ⟨_, rfl, R, _, 2, .int x, rfl, rfl, SqL.of eR1, atI_nat (j := 2) rfl, _, _, rfl, rfl, .inl ⟨by omega, by omega⟩, _, rfl, _, _, rfl, rfl, _, _, rfl, rfl, .inl ⟨_, rfl, _, _, rfl, rfl, (by show (0 : Int) < 2147483647; decide), ?_⟩⟩
        refine ⟨_, rfl, R, _, 2, 2, rfl, rfl, eR1, rfl, ?_⟩
        have hx2b := mx (x * 48271 + c + 11)
        have eR2 : upd H1 R (.lst [.ref sc, .int (i + 1), .int ((x * 48271 + c + 11) % 2147483647), .int r]) R = some (.lst [.ref sc, .int (i + 1), .int ((x * 48271 + c + 11) % 2147483647), .int r]) := upd_same
        have c2 : cut R (upd H1 R (.lst [.ref sc, .int (i + 1), .int ((x * 48271 + c + 11) % 2147483647), .int r])) = cut R H := by rw [cut_upd]; exact c1
        refine ⟨_, rfl, _, _, rfl, rfl, ⟨by decide, by decide, by decide⟩, _, _, rfl, rfl, _, rfl, ?_⟩
        by_cases hc : (10 : Int) ^ (18 : Int).toNat ≤ c
        · rw [decide_eq_true hc]
          have hc0 : 0 ≤ c := Int.le_trans (by decide) hc
          refine iteT ⟨_, rfl, _, rfl, _, _, rfl, rfl, hw c, _, rfl, R, _, 3, 3, rfl, rfl, eR2, rfl, ?_⟩
          exact ⟨_, rfl, .inl ⟨_, rfl, _, rfl, _, _, rfl, rfl, h0, fin (i + 1) _ (c / n) _ (by omega) hx2b.1 hx2b.2 (dv c hc0) (md _).1 (md _).2 _ upd_same (by rw [cut_upd]; exact c2)⟩⟩
        · rw [decide_eq_false hc]
          exact iteF ⟨_, rfl, .inl ⟨_, rfl, _, rfl, _, _, rfl, rfl, h0, fin (i + 1) _ r _ (by omega) hx2b.1 hx2b.2 r0 (md _).1 (md _).2 _ eR2 c2⟩⟩
end
end Ms
set_option Elab.async false
set_option linter.all false
set_option maxRecDepth 100000
set_option maxHeartbeats 4000000
namespace Ms
open PySem PySem.Spec PyProof.Rows L2
/-! ### list(text), the length of a join -/
theorem cr_listStr {X : Cx} (hc : X.calm = true) : CallR X (.type "list") (fun xs H Q => ∃ z : Str, xs = [.str z] ∧ z.cps.size ≤ sizeLine ∧ ∀ p, H p = none → Q (.ref p) (upd H p (.lst (z.cps.toList.map fun c => V.str ⟨#[c]⟩)))) := by
  intro pins s σ H xs us Q I r h
  obtain ⟨z, rfl, hz, q⟩ := h
  obtain ⟨u, rfl, t, rfl⟩ := vals1 r
  refine PySem.call_list_str (I.ok.hd hc) z t (fun h' tk acc c' hk e hi => ?_) hz
  refine ⟨.ref s.heap.objs.size, _, I.laid (t' := tk) hk (Nat.le_refl _) (o := .lst (z.cps.toList.map fun c => V.str ⟨#[c]⟩)) ?_, rfl, q _ (I.hok.fresh (Nat.le_refl _))⟩
  refine ⟨by rw [List.length_map, Array.length_toList]; exact hz, acc.toList, c', vals_of_idx _ _ (by rw [List.length_map, Array.length_toList, Array.length_toList]; exact hi.1) fun j u hj => ?_, by simpa using e⟩
  obtain ⟨c, t', h1, rfl⟩ := hi.2 j u (by simpa using hj)
  exact ⟨.str ⟨#[c]⟩, by simp [h1], ⟨t', rfl⟩⟩
theorem join_len (zs : List Str) (h : ∀ z ∈ zs, z.length = 1) : (zs.map (·.length)).sum = zs.length ∧ (Txt.join "" zs).length ≤ zs.length := by
  have e : (zs.map (·.length)).sum = zs.length := by
    induction zs with
    | nil => rfl
    | cons z r ih =>
      rw [List.map_cons, List.sum_cons, h z List.mem_cons_self, ih fun y hy => h y (List.mem_cons_of_mem _ hy), List.length_cons]
      omega
  refine ⟨e, ?_⟩
  have e1 : Txt.join "" zs = Str.join "" zs := StrLaws.glued_eq_join _ _
  have := StrLaws.join_length_le "" zs
  rw [e] at this
  rw [e1]
  exact Nat.le_trans this (by show zs.length + zs.length * 0 ≤ zs.length; omega)
end Ms
set_option Elab.async false
set_option linter.all false
set_option maxRecDepth 100000
set_option maxHeartbeats 4000000
namespace Ms
open PySem PySem.Spec PyProof.Rows L2
/-! ### pick, some_key, signed, signs_row, some_text, some_value -/
theorem scSomeKey : FnScope ["_law_row"] ["_law_row"] (defScope sSomeKey) := ⟨rfl, rfl, rfl, by decide +kernel, rfl, by decide +kernel, by decide +kernel⟩
theorem scSigned : FnScope ["_law_row", "_law_most"] ["_law_row", "_law_most"] (defScope sSigned) := ⟨rfl, rfl, rfl, by decide +kernel, rfl, by decide +kernel, by decide +kernel⟩
theorem scSignsRow : FnScope [] [] (defScope sSignsRow) := ⟨rfl, rfl, rfl, by decide +kernel, rfl, by decide +kernel, by decide +kernel⟩
theorem scSomeText : FnScope ["_law_row", "_law_most", "_law_k"] ["_law_row", "_law_most"] (defScope sSomeText) := ⟨rfl, rfl, rfl, by decide +kernel, rfl, by decide +kernel, by decide +kernel⟩
theorem scSomeValue : FnScope ["_law_row", "_law_way"] ["_law_row"] (defScope sSomeValue) := ⟨rfl, rfl, rfl, by decide +kernel, rfl, by decide +kernel, by decide +kernel⟩
def keys5 : List Str := ["a", "b", "ab", "key 1", "Z"]
def spPick (K : PySem.W.Frag) : Sp := fun vs H Q _ => ∃ (R sc a : Addr) (xs : List V), vs = [.ref R, .ref a] ∧ RowAt K R sc H ∧ a ≠ R ∧ H a = some (.lst xs) ∧ 0 < xs.length ∧ xs.length ≤ 1000000 ∧ ∀ v H', v ∈ xs → RowAt K R sc H' → SameBut R H H' → Q v H'
def spSomeKey (K : PySem.W.Frag) : Sp := fun vs H Q _ => ∃ R sc : Addr, vs = [.ref R] ∧ RowAt K R sc H ∧ ∀ (z : Str) H', z ∈ keys5 → RowAt K R sc H' → SameBut R H H' → Q (.str z) H'
def spSigned (K : PySem.W.Frag) : Sp := fun vs H Q _ => ∃ (R sc : Addr) (m : Int), vs = [.ref R, .int m] ∧ 0 ≤ m ∧ m ≤ 1099511627776 ∧ RowAt K R sc H ∧ ∀ (i : Int) H', RowAt K R sc H' → SameBut R H H' → Q (.int i) H'
def spSignsRow : Sp := fun vs H Q _ => vs = [] ∧ Q (.str signsText) H
def spSomeText (K : PySem.W.Frag) : Sp := fun vs H Q _ => ∃ (R sc : Addr) (m : Int), vs = [.ref R, .int m] ∧ 0 ≤ m ∧ m ≤ 200 ∧ RowAt K R sc H ∧ ∀ (z : Str) H', z.length ≤ 200 → RowAt K R sc H' → SameBut R H H' → Q (.str z) H'
/-- a note's value: None, a number, a short text -/
def FlatV (v : V) : Prop := v = .non ∨ (∃ i : Int, v = .int i) ∨ ∃ z : Str, v = .str z ∧ z.length ≤ 200
def spSomeValue (K : PySem.W.Frag) : Sp := fun vs H Q _ => ∃ R sc : Addr, vs = [.ref R] ∧ RowAt K R sc H ∧ ∀ v H', FlatV v → RowAt K R sc H' → SameBut R H H' → Q v H'
theorem RowIn.ne {R sc p : Addr} {H : Hp} (h : RowIn R sc H) (np : H p = none) : p ≠ R := by
  obtain ⟨i, x, r, e, _⟩ := h
  exact (ne_of_none e np).symm
theorem RowAt.upd {K : PySem.W.Frag} {R sc p : Addr} {H : Hp} {o : HO} (h : RowAt K R sc H) (np : H p = none) : RowAt K R sc (upd H p o) := ⟨h.1.upd (h.1.ne np), h.2.but (but_new np)⟩
theorem RowAt.ne {K : PySem.W.Frag} {R sc p : Addr} {H : Hp} (h : RowAt K R sc H) (np : H p = none) : p ≠ R := h.1.ne np
section
variable {P : Program} {w : World} {K : PySem.W.Frag} {mg : Str → Option Value} {base : Heap}
theorem does_pick (F : At K mg "_law_pick" sPick ["_law_row", "_law_things"]) (b : Bl mg) (D1 : Does P w K mg base CX0 1 "_law_taken" ["_law_row", "_law_many"] (spTaken K)) : Does P w K mg base CX0 2 "_law_pick" ["_law_row", "_law_things"] (spPick K) := by
  obtain ⟨f, fd, g, F, bi⟩ := F
  obtain ⟨f1, fd1, g1, k1, b1, G1⟩ := D1
  refine ⟨f, fd, g, F.kp, bi, F.ok scPick (fun vs H Q E h => ?_) (fun cdv A outer s H vs Q E hr h => ?_)⟩
  · obtain ⟨R, sc, a, xs, rfl, _⟩ := h
    rfl
  · obtain ⟨R, sc, a, xs, rfl, hR, hne, ea, h0, hz, q⟩ := h
    refine ⟨_, pss_one (ps_ret (pe_ix ix_list (pv 1) (pe_call G1 hr (by rfl) g1 k1 b1 .nil pass0 (pa_cons (pv 0) (pa_cons (pe_callB call_len_seq (by rfl) b.len boot_len (pa_cons (pv 1) pa_nil)) pa_nil))) (fun _ _ => rfl))), ?_⟩
    refine ⟨_, rfl, _, rfl, _, rfl, a, xs, rfl, .inl (SqL.of ea), R, sc, _, rfl, by omega, by omega, hR, fun t H' t0 t1 hR' s1 => ?_⟩
    have ea' : H' a = some (.lst xs) := (cut_get (s1 _ _ ((cut_ne hne).trans ea))).2
    have hi : t.toNat < xs.length := by omega
    have e1 := atI_nat (List.getElem?_eq_getElem hi)
    rw [Int.toNat_of_nonneg t0] at e1
    exact ⟨a, xs, t, _, rfl, rfl, SqL.of ea', e1, q _ H' (List.getElem_mem hi) hR' s1⟩
theorem does_some_key (F : At K mg "_law_some_key" sSomeKey ["_law_row"]) (D1 : Does P w K mg base CX0 2 "_law_pick" ["_law_row", "_law_things"] (spPick K)) : Does P w K mg base CX0 3 "_law_some_key" ["_law_row"] (spSomeKey K) := by
  obtain ⟨f, fd, g, F, bi⟩ := F
  obtain ⟨f1, fd1, g1, k1, b1, G1⟩ := D1
  refine ⟨f, fd, g, F.kp, bi, F.ok scSomeKey (fun vs H Q E h => ?_) (fun cdv A outer s H vs Q E hr h => ?_)⟩
  · obtain ⟨R, sc, rfl, _⟩ := h
    rfl
  · obtain ⟨R, sc, rfl, hR, q⟩ := h
    refine ⟨_, pss_one (ps_ret (pe_call G1 hr (by rfl) g1 k1 b1 .nil pass0 (pa_cons (pv 0) (pa_cons (pe_lst (pa_cons pe_str (pa_cons pe_str (pa_cons pe_str (pa_cons pe_str (pa_cons pe_str pa_nil)))))) pa_nil)))), ?_⟩
    refine ⟨_, rfl, (by show 5 ≤ sizeLine; decide), fun p np => ⟨R, sc, p, _, rfl, hR.upd np, hR.ne np, upd_same, (by show 0 < 5; decide), (by show 5 ≤ 1000000; decide), fun v H' hv hR' s1 => ?_⟩⟩
    have e : ∃ z ∈ keys5, v = .str z := by
      have hv' : v ∈ keys5.map V.str := hv
      obtain ⟨z, h1, h2⟩ := List.mem_map.mp hv'
      exact ⟨z, h1, h2.symm⟩
    obtain ⟨z, hz, rfl⟩ := e
    exact q z H' hz hR' (Same.trans (cut_of (same_upd np)) s1)
theorem does_signed (F : At K mg "_law_signed" sSigned ["_law_row", "_law_most"]) (D1 : Does P w K mg base CX0 1 "_law_taken" ["_law_row", "_law_many"] (spTaken K)) : Does P w K mg base CX0 2 "_law_signed" ["_law_row", "_law_most"] (spSigned K) := by
  obtain ⟨f, fd, g, F, bi⟩ := F
  obtain ⟨f1, fd1, g1, k1, b1, G1⟩ := D1
  refine ⟨f, fd, g, F.kp, bi, F.ok scSigned (fun vs H Q E h => ?_) (fun cdv A outer s H vs Q E hr h => ?_)⟩
  · obtain ⟨R, sc, m, rfl, _⟩ := h
    rfl
  · obtain ⟨R, sc, m, rfl, m0, m1, hR, q⟩ := h
    refine ⟨_, pss_one (ps_ret (pe_op op_sub (pe_call G1 hr (by rfl) g1 k1 b1 .nil pass0 (pa_cons (pv 0) (pa_cons (pe_op op_add (pe_op op_mul pe_int (pv 1)) pe_int) pa_nil))) (pv 1))), ?_⟩
    exact ⟨_, rfl, _, rfl, _, _, rfl, rfl, .inl ⟨by decide, by decide⟩, _, _, rfl, rfl, R, sc, _, rfl, by omega, by omega, hR, fun t H' _ _ hR' s1 => ⟨_, rfl, _, _, rfl, rfl, q _ H' hR' s1⟩⟩
theorem does_signs_row (F : At K mg "_law_signs_row" sSignsRow []) : Does P w K mg base CX0 1 "_law_signs_row" [] spSignsRow := by
  obtain ⟨f, fd, g, F, bi⟩ := F
  refine ⟨f, fd, g, F.kp, bi, F.ok scSignsRow (fun vs H Q E h => ?_) (fun cdv A outer s H vs Q E hr h => ?_)⟩
  · obtain ⟨rfl, _⟩ := h
    rfl
  · obtain ⟨rfl, q⟩ := h
    exact ⟨_, pss_one (ps_ret pe_str), q⟩
end
end Ms
set_option Elab.async false
set_option linter.all false
set_option maxRecDepth 100000
set_option maxHeartbeats 4000000
namespace Ms
open PySem PySem.Spec PyProof.Rows L2
/-! ### some_text, some_value -/
theorem comp_row {R sc D : Addr} {H' H1 : Hp} {o : HO} (hD : H1 D = none) (hne : D ≠ R) (r : RowIn R sc H') (s : SameBut R H1 H') : RowIn R sc (upd H' D o) ∧ SameBut R H1 (upd H' D o) := ⟨r.upd hne, but_upd s hD⟩
section
variable {P : Program} {w : World} {K : PySem.W.Frag} {mg : Str → Option Value} {base : Heap}
theorem does_some_text (F : At K mg "_law_some_text" sSomeText ["_law_row", "_law_most"]) (b : Bl mg) (D1 : Does P w K mg base CX0 1 "_law_taken" ["_law_row", "_law_many"] (spTaken K)) (D2 : Does P w K mg base CX0 2 "_law_pick" ["_law_row", "_law_things"] (spPick K))
    (D3 : Does P w K mg base CX0 1 "_law_signs_row" [] spSignsRow) : Does P w K mg base CX0 3 "_law_some_text" ["_law_row", "_law_most"] (spSomeText K) := by
  obtain ⟨f, fd, g, F, bi⟩ := F
  obtain ⟨f1, fd1, g1, k1, b1, G1⟩ := D1
  obtain ⟨f2, fd2, g2, k2, b2, G2⟩ := D2
  obtain ⟨f3, fd3, g3, k3, b3, G3⟩ := D3
  refine ⟨f, fd, g, F.kp, bi, F.ok scSomeText (fun vs H Q E h => ?_) (fun cdv A outer s H vs Q E hr h => ?_)⟩
  · obtain ⟨R, sc, m, rfl, _⟩ := h
    rfl
  · obtain ⟨R, sc, m, rfl, m0, m1, hR, q⟩ := h
    have hr1 := hr.mono (by decide : 1 ≤ 2)
    refine ⟨_, pss_one (ps_ret (pe_join pe_str (pe_lc (own := [("_law_k", 2)]) (g := gName 2) (tt := tYes) (by rfl) scSomeText.nd (pi_range1 (by rfl) b.rng (pa_cons (pe_call G1 hr1 (by rfl) g1 k1 b1 .nil pass0 (pa_cons (pv 0) (pa_cons (pe_op op_add (pv 1) pe_int) pa_nil))) pa_nil))
      (blkOk_by (own := [("_law_k", 2)]) (N := ["_law_row", "_law_most", "_law_k"]) (sc := defScope sSomeText) (by decide +kernel)) (fun _ _ _ _ _ => pg_name (i := 2) scSomeText.nd rfl (Or.inl rfl)) (fun _ _ _ _ _ => pts_nil)
      (fun _ _ _ _ _ => pe_call G2 hr (by rfl) g2 k2 b2 .nil pass0 (pa_cons (pv 0) (pa_cons (pe_callTy (cr_listStr rfl) (by rfl) b.lst boot_list (pa_cons (pe_call0 G3 hr1 (by rfl) g3 k3 b3 .nil pass0) pa_nil)) pa_nil)))))), ?_⟩
    refine ⟨⟨_, rfl⟩, _, rfl, _, rfl, _, _, rfl, rfl, R, sc, _, rfl, by omega, by omega, hR, fun t H1 t0 t1 hR1 s1 => ?_⟩
    refine ⟨t, rfl, by omega, by omega, fun D hD => ?_⟩
    have hne : D ≠ R := hR1.ne hD
    have hn : t.toNat ≤ 200 := by omega
    refine lc_it (walk_range (n := t.toNat)) (fun i G => RowIn R sc G ∧ SameBut R H1 G ∧ ∃ zs : List Str, G D = some (.lst (zs.map V.str)) ∧ zs.length = i ∧ ∀ z ∈ zs, z.length = 1)
      ⟨hR1.1.upd hne, but_new hD, [], upd_same, rfl, fun z hz => nomatch hz⟩ (fun _ _ _ _ => trivial) (fun i x G G' hi h y => ?_) (fun G h => ?_)
    · obtain ⟨hRi, s2, zs, eD, hzl, hz1⟩ := h
      obtain ⟨rfl, rfl⟩ := y
      have hRG : RowAt K R sc G' := ⟨hRi, hR1.2.but s2⟩
      refine ⟨wipe1, _, rfl, rfl, signsText, rfl, (by show 77 ≤ sizeLine; decide), fun p np => ?_⟩
      have eDp : (upd G' p (.lst (signsText.cps.toList.map fun c => V.str ⟨#[c]⟩))) D = some (.lst (zs.map V.str)) := (upd_ne (ne_of_none eD np)).trans eD
      refine ⟨R, sc, p, _, rfl, hRG.upd np, hRG.ne np, upd_same, by rw [List.length_map]; decide, by rw [List.length_map]; decide, fun v G2 hv hR2 s3 => ?_⟩
      obtain ⟨c, _, rfl⟩ := List.mem_map.mp hv
      have eD2 : G2 D = some (.lst (zs.map V.str)) := (cut_get (s3 _ _ ((cut_ne hne).trans eDp))).2
      have s23 : SameBut R H1 G2 := s2.trans ((but_new np).trans s3)
      refine ⟨_, eD2, small (by rw [List.length_map]; omega), ?_⟩
      have cr := comp_row (o := .lst (zs.map V.str ++ [V.str ⟨#[c]⟩])) hD hne hR2.1 s23
      refine ⟨cr.1, cr.2, zs ++ [⟨#[c]⟩], by rw [upd_same, List.map_append]; rfl, by rw [List.length_append, hzl]; rfl, fun z hz => ?_⟩
      rcases List.mem_append.mp hz with h | h
      · exact hz1 z h
      · rw [List.mem_singleton.mp h]; rfl
    · obtain ⟨hRi, s2, zs, eD, hzl, hz1⟩ := h
      have hj := join_len zs hz1
      refine ⟨_, D, zs, rfl, rfl, .inl (SqL.of eD), ?_, q _ G (Nat.le_trans hj.2 (by omega)) ⟨hRi, hR1.2.but s2⟩ (s1.trans s2)⟩
      rw [hj.1]
      show zs.length + zs.length * 0 ≤ 16777216
      omega
theorem does_some_value (F : At K mg "_law_some_value" sSomeValue ["_law_row"]) (D1 : Does P w K mg base CX0 1 "_law_taken" ["_law_row", "_law_many"] (spTaken K)) (D2 : Does P w K mg base CX0 2 "_law_pick" ["_law_row", "_law_things"] (spPick K))
    (D3 : Does P w K mg base CX0 3 "_law_some_text" ["_law_row", "_law_most"] (spSomeText K)) (D4 : Does P w K mg base CX0 2 "_law_signed" ["_law_row", "_law_most"] (spSigned K)) : Does P w K mg base CX0 4 "_law_some_value" ["_law_row"] (spSomeValue K) := by
  obtain ⟨f, fd, g, F, bi⟩ := F
  obtain ⟨f1, fd1, g1, k1, b1, G1⟩ := D1
  obtain ⟨f2, fd2, g2, k2, b2, G2⟩ := D2
  obtain ⟨f3, fd3, g3, k3, b3, G3⟩ := D3
  obtain ⟨f4, fd4, g4, k4, b4, G4⟩ := D4
  refine ⟨f, fd, g, F.kp, bi, F.ok scSomeValue (fun vs H Q E h => ?_) (fun cdv A outer s H vs Q E hr h => ?_)⟩
  · obtain ⟨R, sc, rfl, _⟩ := h
    rfl
  · obtain ⟨R, sc, rfl, hR, q⟩ := h
    have hr1 := hr.mono (by decide : 1 ≤ 3)
    have hr2 := hr.mono (by decide : 2 ≤ 3)
    refine ⟨_, pss_cons (ps_set (i := 1) scSomeValue.nd rfl (Or.inl rfl) (pe_call G1 hr1 (by rfl) g1 k1 b1 .nil pass0 (pa_cons (pv 0) (pa_cons pe_int pa_nil))))
      (pss_cons (ps_if (pt_cmpR op_lt (pv 1) pe_int (nomark _)) (pss_one (ps_ret (pe_call G3 hr (by rfl) g3 k3 b3 .nil pass0 (pa_cons (pv 0) (pa_cons (pe_ix ix_list (pe_lst (pa_cons pe_int (pa_cons pe_int (pa_cons pe_int pa_nil)))) (pv 1) (fun _ _ => rfl)) pa_nil))))) pss_nil)
      (pss_one (ps_ret (pe_ifExp (pt_cmpR op_eq (pv 1) pe_int (nomark _)) pe_non (pe_call G4 hr2 (by rfl) g4 k4 b4 .nil pass0 (pa_cons (pv 0) (pa_cons (pe_call G2 hr2 (by rfl) g2 k2 b2 .nil pass0 (pa_cons (pv 0) (pa_cons (pe_lst (pa_cons pe_int (pa_cons pe_int (pa_cons pe_int (pa_cons (pe_op op_shl pe_int pe_int) pa_nil))))) pa_nil))) pa_nil))))))), ?_⟩
    refine ⟨_, rfl, R, sc, _, rfl, (by decide), (by decide), hR, fun t H1 t0 t1 hR1 s1 => ?_⟩
    refine ⟨_, rfl, _, _, rfl, rfl, _, rfl, ?_⟩
    by_cases ht : t < 3
    · rw [decide_eq_true ht]
      refine iteT ⟨_, rfl, (by show 3 ≤ sizeLine; decide), fun p np => ?_⟩
      have hm : ∃ m : Int, atI [V.int 3, .int 12, .int 200] t = some (.int m) ∧ 0 ≤ m ∧ m ≤ 200 := by
        have h3 : t = 0 ∨ t = 1 ∨ t = 2 := by omega
        rcases h3 with rfl | rfl | rfl
        · exact ⟨3, rfl, by decide, by decide⟩
        · exact ⟨12, rfl, by decide, by decide⟩
        · exact ⟨200, rfl, by decide, by decide⟩
      obtain ⟨m, em, m0, m1⟩ := hm
      exact ⟨_, rfl, p, _, t, _, rfl, rfl, SqL.of upd_same, em, R, sc, m, rfl, m0, m1, hR1.upd np, fun z H2 hz hR2 s2 => q _ H2 (.inr (.inr ⟨z, rfl, hz⟩)) hR2 (s1.trans ((but_new np).trans s2))⟩
    · rw [decide_eq_false ht]
      refine iteF ⟨_, rfl, rfl, _, rfl, ?_⟩
      by_cases h3 : V.int t = V.int 3
      · rw [decide_eq_true h3]
        exact iteT (q _ H1 (.inl rfl) hR1 s1)
      · rw [decide_eq_false h3]
        refine iteF ⟨_, rfl, _, rfl, _, _, rfl, rfl, ⟨by decide, by decide, by decide⟩, (by show 4 ≤ sizeLine; decide), fun p np => ⟨R, sc, p, _, rfl, hR1.upd np, hR1.ne np, upd_same, (by show 0 < 4; decide), (by show 4 ≤ 1000000; decide), fun v H2 hv hR2 s2 => ?_⟩⟩
        have hm : ∃ m : Int, v = .int m ∧ 0 ≤ m ∧ m ≤ 1099511627776 := by
          simp only [List.mem_cons, List.not_mem_nil, or_false] at hv
          rcases hv with rfl | rfl | rfl | rfl
          · exact ⟨3, rfl, by decide, by decide⟩
          · exact ⟨70, rfl, by decide, by decide⟩
          · exact ⟨20000, rfl, by decide, by decide⟩
          · exact ⟨_, rfl, by decide, by decide⟩
        obtain ⟨m, rfl, m0, m1⟩ := hm
        exact ⟨R, sc, m, rfl, m0, m1, hR2, fun i H3 hR3 s3 => q _ H3 (.inr (.inl ⟨i, rfl⟩)) hR3 (s1.trans ((but_new np).trans (s2.trans s3)))⟩
end
end Ms
set_option Elab.async false
set_option linter.all false
set_option maxRecDepth 100000
set_option maxHeartbeats 4000000
namespace Ms
open PySem PySem.Spec PyProof.Rows L2
/-! ### sorted(xs, key=_law_place) -/
section
open PySem.W PySem.Calls
variable {prog : Program} {w : World} {A : Around} {E : Value → Shared → Prop} {s : Shared} {K : Frag}
theorem place_pure {f : Addr} {fd : FuncData} (F : L2.Fun K "_law_place" "_law_place" sPlace f fd) (X : K.In s.heap) (hlim : s.heap.NoLimit) (hroom : A.depth < recursionLimit) {a : Addr} {z : Str} {i j : Int} {t0 t1 t2 : Tok} {u v : Value}
    (ht : IsTup s.heap a #[.str z t0, .int i t1, .int j t2, u, v]) : wpAny (model prog w) A (call (.ref f) [.ref a]) (KeyPure (.tuple [.str z, .int i, .int j]) s) (fun _ _ => False) s := by
  obtain ⟨oc, od, kV, doc, pm, an, cdv, ct, osl, rfl, lk, hcd⟩ := F.ex
  refine wpAny_call (Att.call_fn (binds := [("_law_note", .ref a)]) X hlim lk hcd hroom (BindsTo.of_eq (by first | rfl | with_unfolding_all rfl)) (by first | rfl | decide | with_unfolding_all rfl) (fun s₁ IC => ?_) rfl rfl rfl)
  obtain ⟨h₁, tk₁, rfl⟩ := IC.toInCall.same
  have k : ∀ b o, s.heap.get? b = some o → h₁.get? b = some o := IC.toInCall.keep
  have hn := IC.toInCall.ns
  show wpAny _ _ (execs _ _) _ _ _
  refine wpAny_execs_cons (wpAny_Return_some ?_)
  refine Subscript_ (wpAny_Name (wpAny_loadName_local rfl (by first | rfl | decide +kernel) hn rfl ?_) (by decide))
  refine wpAny_Slice (wpAny_evalPart_none (wpAny_evalPart_some ?_))
  refine wpAny_Constant_int (wpAny_evalPart_none ?_)
  have ht2 : IsTup (h₁.push { cls := .type "slice", data := .fields #[.none, .int 3 tk₁, .none] }) a #[.str z t0, .int i t1, .int j t2, u, v] := ht.keeps fun b o e => Heap.get?_push_of_some _ (k b o e)
  refine tail_any (T := "tuple") (ops := [.ref h₁.objs.size, .ref a]) ht2.typeIs PyProof.Rows.slot_tuple_getitem.lookup ?_ (by with_unfolding_all rfl)
  refine HT.getItem_tuple_cut (lo := none) (hi := some 3) ht2 (Heap.IsSliceOf.new ..) .none (.int 3 tk₁) (show ¬ (HT.sIx 5 0 none = 0 ∧ HT.sIx 5 5 (some 3) = 5) by decide) ?_ (by show 5 ≤ sizeLine; decide)
  refine ⟨_, _, rfl, fun b o e => Heap.get?_push_of_some _ (Heap.get?_push_of_some _ (k b o e)), ?_⟩
  refine Reads.tuple (vs := #[.str z t0, .int i t1, .int j t2]) (n := 0) (Heap.get?_push_size _ rfl) rfl rfl ?_
  exact .cons (Reads.str z t0) (.cons (Reads.int i t1) (.cons (Reads.int j t2) .nil))
end
/-- sorted(xs, key=_law_place), xs notes: a list of the same notes -/
def rSortPl (K : PySem.W.Frag) (f : Addr) : List V → List V → Hp → VK → Prop := fun vs zs H Q => ∃ (l : Addr) (xs : List V), vs = [.ref l] ∧ zs = [.ref f] ∧ SqL K H l xs ∧
  (∀ x ∈ xs, ∃ (a : Addr) (z : Str) (i j : Int) (b : Addr) (y : V), x = .ref a ∧ H a = some (.tup [.str z, .int i, .int j, .ref b, y])) ∧
  ∀ (out : List V) (q : Addr), H q = none → out.length = xs.length → (∀ x ∈ out, x ∈ xs) → Q (.ref q) (upd H q (.lst out))
theorem ex_fn {α β : Type} [Inhabited β] {p : α → β → Prop} {l : List α} (h : ∀ x ∈ l, ∃ y, p x y) : ∃ g : α → β, ∀ x ∈ l, p x (g x) := by
  classical
  exact ⟨fun x => if hx : ∃ y, p x y then hx.choose else default, fun x hx => by
    have e := h x hx
    show p x (if hx : ∃ y, p x y then hx.choose else default)
    rw [dif_pos e]
    exact e.choose_spec⟩
theorem cr_sortedPl {X : Cx} {f : Addr} {fd : FuncData} (F : L2.Fun X.K "_law_place" "_law_place" sPlace f fd) (hu : X.A.units + 64 < cLine) (hd : X.A.depth + 2 < recursionLimit) : CallRK X (.builtin "sorted") [Str.ofString "key"] (rSortPl X.K f) := by
  intro pins s σ H vs zs us ws Q I r rz h
  obtain ⟨l, xs, rfl, rfl, hs, hx, q⟩ := h
  obtain rfl := Vals.ref1 r
  obtain ⟨w1, rfl, e1⟩ := vals1 rz
  obtain rfl : w1 = Value.ref f := e1
  obtain ⟨its, rv, hl, hz⟩ := I.list hs
  obtain ⟨g, hg⟩ := ex_fn (β := Str × Int × Int) (p := fun x (t : Str × Int × Int) => ∃ (a : Addr) (b : Addr) (y : V), x = .ref a ∧ H a = some (.tup [.str t.1, .int t.2.1, .int t.2.2, .ref b, y])) (l := xs) fun x hxm => by
    obtain ⟨a, z, i, j, b, y, e, e2⟩ := hx x hxm
    exact ⟨(z, i, j), a, b, y, e, e2⟩
  have each : PySem.W.EachIs (fun u x => RelV x u ∧ x ∈ xs) its xs := each_mk rv.length.symm fun j u x hu hx => by
    obtain ⟨u', h1, h2⟩ := rv.get hx
    rw [hu] at h1
    cases h1
    exact ⟨h2, List.mem_of_getElem? hx⟩
  refine PySem.W.sorted_key_data (b := false) (bs := xs) (R := fun u x => RelV x u ∧ x ∈ xs) (fun x => PyData.tuple [.str (g x).1, .int (g x).2.1, .int (g x).2.2]) hl.isList each (PySem.W.AllAlike.of fun _ _ => rfl) (PySem.W.Sortable.tuples fun _ => ⟨_, _, rfl⟩) hz
    (fun x _ => by show X.A.units + 2 + 1 < cLine; omega) (PyProof.Rows.ksk_s1 _ _) (fun _ => PyProof.Rows.ksk_l1 _ _) (fun _ => PyProof.Rows.ksk_t1 _ _) (fun u x hR hxm h tk kp => ?_) (fun out c h' tk kp hf ho hlen he => ?_)
  · obtain ⟨a, b, y, rfl, ea⟩ := hg x hxm
    obtain rfl : u = Value.ref a := hR.1
    obtain ⟨_, uts, rt, it⟩ := (show ObjOk X.prog X.w H s.heap a (.tup [.str (g (.ref a)).1, .int (g (.ref a)).2.1, .int (g (.ref a)).2.2, .ref b, y]) from I.hok a _ ea)
    cases rt with | cons r1 rt => cases rt with | cons r2 rt => cases rt with | cons r3 rt => cases rt with | cons r4 rt => cases rt with | cons r5 rt =>
    cases rt
    obtain ⟨t1, rfl⟩ := r1
    obtain ⟨t2, rfl⟩ := r2
    obtain ⟨t3, rfl⟩ := r3
    exact place_pure (s := { s with heap := h, toks := tk }) F (I.kIn.keeps kp) (I.nolimit.keeps kp) (by show X.A.depth < recursionLimit; omega) (it.keeps kp)
  · have I1 : Inv X pins σ H { s with heap := h', toks := tk } := I.kept kp
    generalize hms : xs.mergeSort (PySem.W.dataLe false fun x => PyData.tuple [.str (g x).1, .int (g x).2.1, .int (g x).2.2]) = ms at he
    have hmem : ∀ x ∈ ms, x ∈ xs := fun x hxm => by
      rw [← hms] at hxm
      exact (List.mergeSort_perm _ _).mem_iff.mp hxm
    have hlm : ms.length = xs.length := by rw [← hms, List.length_mergeSort]
    have rvo : Vals (ms.map id) out := vals_each (vs := []) (f := id) (he.mono fun u x e => e.1)
    rw [List.map_id] at rvo
    exact ⟨.ref (s.heap.objs.size + 1), upd H (s.heap.objs.size + 1) (.lst ms), I.laid (t' := tk) (o := .lst ms) kp (Nat.le_succ _) ⟨by rw [hlm]; exact hz, out, c, rvo, ho⟩, rfl, q ms _ (I.hok.fresh (Nat.le_succ _)) hlm hmem⟩
end Ms
set_option Elab.async false
set_option linter.all false
set_option maxRecDepth 100000
set_option maxHeartbeats 4000000
namespace Ms
open PySem PySem.Spec PyProof.Rows L2
/-! ### _law_written -/
theorem scWritten : FnScope ["_law_store", "_law_host", "_law_serial", "_law_key", "_law_value", "_law_past", "_law_note", "_law_rest", "_law_k"] ["_law_store", "_law_host", "_law_serial", "_law_key", "_law_value"] (defScope sWritten) := ⟨rfl, rfl, rfl, by decide +kernel, rfl, by decide +kernel, by decide +kernel⟩
def FlatD (d : PyData) : Prop := d = .none ∨ (∃ i : Int, d = .int i) ∨ ∃ z : Str, d = .str z ∧ z.length ≤ 200
def GNote (d : PyData) : Prop := ∃ (z : Str) (i j : Int) (ps : List Int) (u : PyData), d = .tuple [.str z, .int i, .int j, .tuple (ps.map PyData.int), u] ∧ ps.length = 8 ∧ 0 ≤ i ∧ i ≤ 2 ∧ z ∈ keys5 ∧ FlatD u
theorem GNote.like {d : PyData} (h : GNote d) : Nlike d := let ⟨z, i, j, ps, u, e, h8, i0, i2, _⟩ := h; ⟨z, i, j, ps, u, e, h8, i0, by omega⟩
def GNoteV (H : Hp) (v : V) : Prop := ∃ d, Da H v d ∧ GNote d
theorem GNoteV.same {H H' : Hp} {v : V} (s : Same H H') (h : GNoteV H v) : GNoteV H' v := let ⟨d, a, b⟩ := h; ⟨d, Da.same s _ _ a, b⟩
theorem GNoteV.parts {H : Hp} {v : V} (h : GNoteV H v) : ∃ (z : Str) (i j : Int) (ps : List Int) (a b : Addr) (x : V), v = .ref a ∧ H a = some (.tup [.str z, .int i, .int j, .ref b, x]) ∧ H b = some (.tup (ps.map V.int)) ∧ ps.length = 8 ∧ 0 ≤ i ∧ i ≤ 2 ∧ z ∈ keys5 := by
  obtain ⟨d, hd, z, i, j, ps, u, rfl, h8, i0, i2, hz, _⟩ := h
  obtain ⟨a, b, x, rfl, ea, eb, _⟩ := like_at hd
  exact ⟨z, i, j, ps, a, b, x, rfl, ea, eb, h8, i0, i2, hz⟩
theorem FlatV.data {v : V} (h : FlatV v) : ∃ d, FlatD d ∧ ∀ H : Hp, Da H v d := by
  rcases h with rfl | ⟨i, rfl⟩ | ⟨z, rfl, hz⟩
  · exact ⟨_, .inl rfl, fun _ => .non⟩
  · exact ⟨_, .inr (.inl ⟨i, rfl⟩), fun _ => .int i⟩
  · exact ⟨_, .inr (.inr ⟨z, rfl, hz⟩), fun _ => .str z (by omega)⟩
theorem daAll_of {H : Hp} {p : PyData → Prop} : ∀ {vs : List V}, (∀ v ∈ vs, ∃ d, Da H v d ∧ p d) → ∃ ds, DaAll H vs ds ∧ ds.length = vs.length ∧ ∀ d ∈ ds, p d
  | [], _ => ⟨[], .nil, rfl, fun d hd => nomatch hd⟩
  | v :: vs, h => by
    obtain ⟨d, h1, h2⟩ := h v List.mem_cons_self
    obtain ⟨ds, h3, h4, h5⟩ := daAll_of (vs := vs) fun x hx => h x (List.mem_cons_of_mem _ hx)
    refine ⟨d :: ds, .cons h1 h3, by rw [List.length_cons, List.length_cons, h4], fun e he => ?_⟩
    rcases List.mem_cons.mp he with z | z
    · rw [z]; exact h2
    · exact h5 e z
theorem DaAll.each {H : Hp} {p : PyData → Prop} {vs : List V} {ds : List PyData} (h : DaAll H vs ds) (hp : ∀ d ∈ ds, p d) : ∀ v ∈ vs, ∃ d, Da H v d ∧ p d := fun v hv => by
  obtain ⟨i, hi, e⟩ := List.getElem_of_mem hv
  obtain ⟨d, e1, e2⟩ := h.get (by rw [List.getElem?_eq_getElem hi, e] : vs[i]? = some v)
  exact ⟨d, e2, hp d (List.mem_of_getElem? e1)⟩
theorem key_len {z : Str} (h : z ∈ keys5) : z.length ≤ 1000 := by
  have h2 : ∀ y ∈ keys5, y.length ≤ 1000 := by decide +kernel
  exact h2 z h
def spWritten : Sp := fun vs H Q _ => ∃ (a : Addr) (h sr : Int) (z : Str) (v : V) (ds : List PyData), vs = [.ref a, .int h, .int sr, .str z, v] ∧ Da H (.ref a) (.tuple ds) ∧ (∀ d ∈ ds, GNote d) ∧ ds.length ≤ 1000 ∧ 0 ≤ h ∧ h ≤ 2 ∧ z ∈ keys5 ∧ FlatV v ∧
  ∀ (p : Addr) (es : List PyData) H', Same H H' → Da H' (.ref p) (.tuple es) → es.length ≤ ds.length + 1 → (∀ d ∈ es, GNote d) → Q (.ref p) H'
section
variable {P : Program} {w : World} {K : PySem.W.Frag} {mg : Str → Option Value} {base : Heap}
theorem does_written (F : At K mg "_law_written" sWritten ["_law_store", "_law_host", "_law_serial", "_law_key", "_law_value"]) (b : Bl mg) (Fp : At K mg "_law_place" sPlace ["_law_note"]) :
    Does P w K mg base CX0 2 "_law_written" ["_law_store", "_law_host", "_law_serial", "_law_key", "_law_value"] spWritten := by
  obtain ⟨f, fd, g, F, bi⟩ := F
  obtain ⟨fp, fdp, gp, Fp, _⟩ := Fp
  refine ⟨f, fd, g, F.kp, bi, F.ok scWritten (fun vs H Q E h => ?_) (fun cdv A outer s H vs Q E hr h => ?_)⟩
  · obtain ⟨a, h, sr, z, v, ds, rfl, _⟩ := h
    rfl
  · obtain ⟨a, h, sr, z, v, ds, rfl, hd, hg, hz, h0, h2, hk, hv, q⟩ := h
    have hu := hu_of hr
    have nd := scWritten.nd
    have hdp : (A.deeper (envOfC "_law_written" (defScope sWritten) s.heap.objs.size f cdv)).depth + 2 < recursionLimit := by
      have := hr.dp
      omega
    refine ⟨_, pss_cons (ps_set (i := 5) nd rfl (Or.inr rfl) (pe_op op_rep (pe_lst (pa_cons pe_int pa_nil)) pe_int))
      (pss_cons (ps_for PassesOwn.never rfl (pi_tup (pv 0)) (pg_name (i := 6) nd rfl (Or.inr rfl))
        (pss_one (ps_if (pt_cmpR op_eq (pe_ix ix_tup (pv 6) pe_int (fun _ _ => rfl)) (pv 3) (nomark _))
          (pss_cons (ps_set (i := 5) nd rfl (Or.inr rfl) (pe_lc (own := [("_law_k", 8)]) (g := gName 8) (tt := tYes) (by rfl) nd (pi_range1 (by rfl) b.rng (pa_cons pe_int pa_nil))
              (blkOk_by (own := [("_law_k", 8)]) (N := ["_law_store", "_law_host", "_law_serial", "_law_key", "_law_value", "_law_past", "_law_note", "_law_rest", "_law_k"]) (sc := defScope sWritten) (by decide +kernel)) (fun _ _ _ _ _ => pg_name (i := 8) nd rfl (Or.inl rfl)) (fun _ _ _ _ _ => pts_nil)
              (fun _ _ _ _ _ => pe_callB (call_max2 rfl) (by rfl) b.max PyProof.Rows.boot_max (pa_cons (pe_ix (r := rIxL K) ix_list (pv 5) (pv 8) (fun _ _ => rfl)) (pa_cons (pe_ix (r := rIxT K) ix_tup (pe_ix (r := rIxT K) ix_tup (pv 6) pe_int (fun _ _ => rfl)) (pv 8) (fun _ _ => rfl)) pa_nil)))))
          (pss_one (ps_asg (pe_callB (call_max2 rfl) (by rfl) b.max PyProof.Rows.boot_max (pa_cons (pe_ix ix_list (pv 5) (pe_ix ix_tup (pv 6) pe_int (fun _ _ => rfl)) (fun _ _ => rfl)) (pa_cons (pe_ix ix_tup (pv 6) pe_int (fun _ _ => rfl)) pa_nil)))
            (pg_sub (pv 5) (pe_ix ix_tup (pv 6) pe_int (fun _ _ => rfl)) set_list (fun _ => rfl))))) pss_nil)))
      (pss_cons (ps_setLc (i := 7) (own := [("_law_note", 6)]) (g := gName 6) (by rfl) nd rfl rfl (sw_true rfl rfl rfl (by decide +kernel)) (pi_tup (pv 0))
          (blkOk_by (own := [("_law_note", 6)]) (N := ["_law_store", "_law_host", "_law_serial", "_law_key", "_law_value", "_law_past", "_law_note", "_law_rest", "_law_k"]) (sc := defScope sWritten) (by decide +kernel)) (fun _ _ _ _ _ => pg_name (i := 6) nd rfl (Or.inl rfl))
          (fun _ _ _ _ _ => pts_one (pt_cmpR op_ne (pe_ix (r := rIxT K) ix_tup (pv 6) pe_int (fun _ _ => rfl)) (pv 3) (nomark _))) (fun _ _ _ _ _ => pv 6))
      (pss_one (ps_ret (pe_callTy call_tuple_of (by rfl) b.tup boot_tuple (pa_cons (pe_callBK (cr_sortedPl Fp hr.units hdp) (by rfl) b.srt PyProof.Rows.boot_sorted
        (pa_cons (pe_op op_cat (pv 7) (pe_lst (pa_cons (pe_tup (pa_cons (pv 3) (pa_cons (pv 1) (pa_cons (pv 2) (pa_cons (pe_callTy call_tuple_of (by rfl) b.tup boot_tuple (pa_cons (pv 5) pa_nil)) (pa_cons (pv 4) pa_nil)))))) pa_nil))) pa_nil)
        (pk_cons (pe_glob (v := .ref fp) (by rfl) gp rfl) pk_nil)) pa_nil)))))), ?_⟩
    cases hd with | @tup _ xs _ ea ha =>
    have hl := ha.length
    have hGN := ha.each hg
    obtain ⟨ud, hud, hvd⟩ := hv.data
    have cell : ∀ {qs : List Int} {k : Int}, qs.length = 8 → 0 ≤ k → k < 8 → atI (qs.map V.int) k = some (.int (cellOf qs k.toNat)) := fun {qs k} h8 k0 k8 => by
      have := atI_cell (ns := qs) (j := k.toNat) (by omega)
      rw [Int.toNat_of_nonneg k0] at this
      exact this
    refine ⟨(by show 1 ≤ sizeLine; decide), fun l0 n0 => ⟨l0, 8, [.int 0], rfl, rfl, upd_same, by decide, by decide, (by show 1 * 8 ≤ sizeLine; decide), fun p0 np0 => ?_⟩⟩
    have s0 : Same H (upd (upd H l0 (.lst [V.int 0])) p0 (.lst (([0, 0, 0, 0, 0, 0, 0, 0] : List Int).map V.int))) := (same_upd n0).trans (same_upd np0)
    refine ⟨_, rfl, a, rfl, ⟨xs, SqT.of (s0 _ _ ea)⟩, ?_⟩
    refine for_it (walk_tup (xs := xs)) (fun i σ G => (∃ (pl : Addr) (y6 y7 y8 : Option V) (qs : List Int), σ = [some (.ref a), some (.int h), some (.int sr), some (.str z), some v, some (.ref pl), y6, y7, y8] ∧ G pl = some (.lst (qs.map V.int)) ∧ H pl = none ∧ qs.length = 8) ∧ Same H G)
      ⟨⟨p0, _, _, _, [0, 0, 0, 0, 0, 0, 0, 0], rfl, upd_same, (same_upd n0).free np0, rfl⟩, s0⟩ (fun i σ G _ hh => SqT.of (hh.2 _ _ ea)) (fun i x σ G G' hi hh y => ?_) (fun σ G hh => ?_)
    · obtain ⟨⟨pl, y6, y7, y8, qs, rfl, epl, npl, h8⟩, s1⟩ := hh
      obtain ⟨rfl, ex⟩ := y
      obtain ⟨z', i', j', ps, na, nb, nx, rfl, ena, enb, hp8, i0, i2, _⟩ := GNoteV.parts (hGN x (List.mem_of_getElem? ex))
      refine ⟨_, rfl, na, _, 0, .str z', rfl, rfl, SqT.of (s1 _ _ ena), atI_nat (j := 0) rfl, _, rfl, rfl, _, rfl, ?_⟩
      by_cases hz' : V.str z' = V.str z
      · rw [decide_eq_true hz']
        refine iteT ⟨8, rfl, by decide, by decide, fun D hD => ?_⟩
        refine lc_it (walk_range (n := 8)) (fun m G1 => Same G' G1 ∧ ∃ rs : List Int, G1 D = some (.lst (rs.map V.int)) ∧ rs.length = m) ⟨same_upd hD, [], upd_same, rfl⟩ (fun _ _ _ _ => trivial) (fun m x G1 G1' hm hh y => ?_) (fun G1 hh => ?_)
        · obtain ⟨s2, rs, eD, hrs⟩ := hh
          obtain ⟨rfl, rfl⟩ := y
          have s12 := s1.trans s2
          refine ⟨wipe1, _, rfl, _, rfl, pl, _, _, _, rfl, rfl, SqL.of (s2 _ _ epl), cell (qs := qs) h8 (by omega) (by omega), _, rfl, na, _, 3, .ref nb, rfl, rfl, SqT.of (s12 _ _ ena), atI_nat (j := 3) rfl, _, rfl, nb, _, _, _, rfl, rfl, SqT.of (s12 _ _ enb), cell (qs := ps) hp8 (by omega) (by omega), _, _, rfl, ?_⟩
          refine ⟨_, eD, small (by rw [List.length_map]; omega), fun b o e => ?_, rs ++ [_], by rw [upd_same, List.map_append]; rfl, by rw [List.length_append, hrs]; rfl⟩
          rw [upd_ne (ne_of_none e hD)]
          exact s2 _ _ e
        · obtain ⟨s2, rs, eD, hrs⟩ := hh
          have s12 := s1.trans s2
          have nD : H D = none := s1.free hD
          refine ⟨_, rfl, _, rfl, na, _, 1, .int i', rfl, rfl, SqT.of (s12 _ _ ena), atI_nat (j := 1) rfl, D, _, i', _, rfl, rfl, SqL.of eD, cell hrs i0 (by omega), _, rfl, na, _, 2, .int j', rfl, rfl, SqT.of (s12 _ _ ena), atI_nat (j := 2) rfl, _, _, rfl,
            _, rfl, _, rfl, na, _, 1, .int i', rfl, rfl, SqT.of (s12 _ _ ena), atI_nat (j := 1) rfl, D, _, i', i'.toNat, rfl, rfl, eD, ?_, ?_⟩
          · unfold ixN
            rw [if_pos i0, List.length_map, hrs, if_pos (by omega)]
          · refine ⟨⟨D, _, _, _, rs.set i'.toNat _, rfl, by rw [upd_same, List.map_set], nD, by rw [List.length_set, hrs]⟩, fun b o e => ?_⟩
            rw [upd_ne (ne_of_none e nD)]
            exact s12 _ _ e
      · rw [decide_eq_false hz']
        exact iteF ⟨⟨pl, _, _, _, qs, rfl, epl, npl, h8⟩, s1⟩
    · obtain ⟨⟨pl, y6, y7, y8, qs, rfl, epl, npl, h8⟩, s1⟩ := hh
      refine ⟨_, rfl, a, rfl, ⟨xs, SqT.of (s1 _ _ ea)⟩, fun D hD => ?_⟩
      refine lc_any (sl := 6) (walk_tup (xs := xs)) (fun j => xs[j]?.getD .non) (fun j Hj x H' hj y => ⟨y.1, (getD_of y.2).symm⟩) hD (Nat.le_of_lt (small (by omega))) (by show 6 < 9; decide) (fun Hj sj => SqT.of (sj _ _ (s1 _ _ ea))) (fun j Hj Q' hj sj kk => ?_) (fun G1 acc s2 eD hal ham => ?_)
      · obtain ⟨z', i', j', ps, na, nb, nx, ex, ena, _⟩ := GNoteV.parts (hGN xs[j] (List.getElem_mem hj))
        have em : xs[j]?.getD .non = .ref na := by rw [List.getElem?_eq_getElem hj]; exact ex
        rw [em]
        exact ⟨_, rfl, na, _, 0, .str z', rfl, rfl, SqT.of (sj _ _ (s1 _ _ ena)), atI_nat (j := 0) rfl, _, rfl, rfl, _, rfl, kk _ Hj (Same.refl Hj)⟩
      · have s12 := s1.trans s2
        have hacc : ∀ x ∈ acc, GNoteV H x := fun x hx => by
          obtain ⟨j, hj, e⟩ := ham x hx
          rw [e]
          show GNoteV H (xs[j]?.getD .non)
          rw [List.getElem?_eq_getElem hj]
          exact hGN _ (List.getElem_mem hj)
        refine ⟨_, rfl, _, rfl, _, rfl, _, rfl, _, rfl, pl, _, rfl, .inl ⟨SqL.of (s2 _ _ epl), fun tp ntp => ?_⟩⟩
        refine ⟨_, rfl, (by show 5 ≤ sizeLine; decide), fun t nt => ⟨(by show 1 ≤ sizeLine; decide), fun l1 nl1 => ?_⟩⟩
        have k1 : Same G1 (upd G1 tp (.tup (qs.map V.int))) := same_upd ntp
        have k2 := k1.trans (same_upd (o := .tup [.str z, .int h, .int sr, .ref tp, v]) nt)
        have k3 := k2.trans (same_upd (o := .lst [.ref t]) nl1)
        refine ⟨D, l1, acc, [.ref t], rfl, rfl, k3 _ _ eD, upd_same, Nat.le_of_lt (small (by rw [List.length_singleton]; omega)), fun l2 nl2 => ?_⟩
        have k4 := k3.trans (same_upd (o := .lst (acc ++ [.ref t])) nl2)
        have s14 := s12.trans k4
        have et := (same_upd (o := .lst (acc ++ [V.ref t])) nl2) _ _ ((same_upd (o := .lst [.ref t]) nl1) _ _ (show upd (upd G1 tp (.tup (qs.map V.int))) t (.tup [.str z, .int h, .int sr, .ref tp, v]) t = some _ from upd_same))
        have etp := (same_upd (o := .lst (acc ++ [V.ref t])) nl2) _ _ ((same_upd (o := .lst [.ref t]) nl1) _ _ ((same_upd (o := .tup [.str z, .int h, .int sr, .ref tp, v]) nt) _ _ (show upd G1 tp (.tup (qs.map V.int)) tp = some _ from upd_same)))
        have hall : ∀ x ∈ acc ++ [V.ref t], GNoteV (upd (upd (upd (upd G1 tp (.tup (qs.map V.int))) t (.tup [.str z, .int h, .int sr, .ref tp, v])) l1 (.lst [.ref t])) l2 (.lst (acc ++ [.ref t]))) x := fun x hx => by
          rcases List.mem_append.mp hx with e | e
          · exact (hacc x e).same s14
          · rw [List.mem_singleton.mp e]
            exact ⟨_, .tup et (.cons (.str z (key_len hk)) (.cons (.int h) (.cons (.int sr) (.cons (.tup etp (DaAll.ints qs)) (.cons (hvd _) .nil))))), z, h, sr, qs, ud, rfl, h8, h0, h2, hk, hud⟩
        refine ⟨l2, acc ++ [.ref t], rfl, rfl, SqL.of upd_same, fun x hx => ?_, fun out q0 nq hol hom => ?_⟩
        · obtain ⟨z', i', j', ps, na, nb, nx, ex, ena, _⟩ := (hall x hx).parts
          exact ⟨na, z', i', j', nb, nx, ex, ena⟩
        · refine ⟨q0, out, rfl, .inl ⟨SqL.of upd_same, fun p np => ?_⟩⟩
          have k5 := (same_upd (o := .lst out) nq).trans (same_upd (o := .tup out) np)
          obtain ⟨es, h1, h2', h3⟩ := daAll_of (vs := out) (p := GNote) fun x hx => ((hall x (hom x hx)).same k5)
          refine q p es _ (s14.trans k5) (.tup upd_same h1) ?_ h3
          rw [h2', hol, List.length_append, List.length_singleton, ← hl]
          omega
end
end Ms
set_option Elab.async false
set_option linter.all false
set_option maxRecDepth 100000
set_option maxHeartbeats 4000000
namespace Ms
open PySem PySem.Spec PyProof.Rows L2
/-! ### _law_merged -/
theorem scLMerged : FnScope ["_law_store", "_law_other", "_law_rows", "_law_note", "_law_found", "_law_place_here", "_law_one"] ["_law_store", "_law_other"] (defScope sLMerged) := ⟨rfl, rfl, rfl, by decide +kernel, rfl, by decide +kernel, by decide +kernel⟩
/-- the scope of the outer comprehension -/
def keepScope : Scope := { kind := .function, names := [((".0" : Str), .local), (("_law_note" : Str), .cell), (("_law_found" : Str), .cell)], isGenerator := false, isCoroutine := false, more := [] }
def places15 : List (List Key) := keys5.flatMap fun z => [[Sum.inr z, Sum.inl 0], [Sum.inr z, Sum.inl 1], [Sum.inr z, Sum.inl 2]]
theorem place_in {z : Str} {i : Int} (hz : z ∈ keys5) (h0 : 0 ≤ i) (h2 : i ≤ 2) : [Sum.inr z, Sum.inl i] ∈ places15 := by
  unfold places15
  refine List.mem_flatMap.mpr ⟨z, hz, ?_⟩
  have h : i = 0 ∨ i = 1 ∨ i = 2 := by omega
  rcases h with rfl | rfl | rfl
  · exact List.mem_cons_self
  · exact List.mem_cons_of_mem _ List.mem_cons_self
  · exact List.mem_cons_of_mem _ (List.mem_cons_of_mem _ List.mem_cons_self)
theorem place_shape {k : List Key} (h : k ∈ places15) : ∃ z i, k = [Sum.inr z, Sum.inl i] := by
  unfold places15 at h
  obtain ⟨z, _, hk⟩ := List.mem_flatMap.mp h
  simp only [List.mem_cons, List.not_mem_nil, or_false] at hk
  rcases hk with rfl | rfl | rfl
  · exact ⟨z, 0, rfl⟩
  · exact ⟨z, 1, rfl⟩
  · exact ⟨z, 2, rfl⟩
/-- no item twice, all among P: no more than P -/
theorem nd_le {α : Type} [DecidableEq α] : ∀ (l P : List α), l.Nodup → (∀ x ∈ l, x ∈ P) → l.length ≤ P.length
  | [], _, _, _ => Nat.zero_le _
  | a :: l, P, h, hP => by
    have h1 := List.nodup_cons.mp h
    have ha : a ∈ P := hP a List.mem_cons_self
    have h2 := nd_le l (P.erase a) h1.2 fun x hx => by
      have hne : x ≠ a := fun e => h1.1 (e ▸ hx)
      exact (List.mem_erase_of_ne hne).mpr (hP x (List.mem_cons_of_mem _ hx))
    have h3 := List.length_erase_of_mem ha
    have h4 : 0 < P.length := List.length_pos_of_mem ha
    rw [List.length_cons]
    omega
theorem putK_nd {κ : Type} [DecidableEq κ] {kvs : List (κ × V)} {k : κ} {v : V} (h : (kvs.map (·.1)).Nodup) : ((putK kvs k v).map (·.1)).Nodup := by
  unfold putK
  split
  · have e : (kvs.map fun kv => if kv.1 = k then (kv.1, v) else kv).map (·.1) = kvs.map (·.1) := by
      rw [List.map_map]
      refine List.map_congr_left fun kv _ => ?_
      show (if kv.1 = k then (kv.1, v) else kv).1 = kv.1
      split <;> rfl
    rw [e]; exact h
  · rename_i hn
    rw [List.map_append]
    refine List.nodup_append.mpr ⟨h, List.nodup_cons.mpr ⟨List.not_mem_nil, List.nodup_nil⟩, fun x hx y hy e => ?_⟩
    have hy' : y = k := List.mem_singleton.mp hy
    obtain ⟨kv, h1, h2⟩ := List.mem_map.mp hx
    exact hn (List.any_eq_true.mpr ⟨kv, h1, decide_eq_true (by rw [h2, e, hy'])⟩)
def LatG (H : Hp) (kvs : List (List Key × V)) : Prop := (kvs.map (·.1)).Nodup ∧ ∀ kv ∈ kvs, kv.1 ∈ places15 ∧ GNoteV H kv.2
theorem LatG.put {H : Hp} {kvs : List (List Key × V)} {z : Str} {i : Int} {v : V} (h : LatG H kvs) (n : GNoteV H v) (hz : z ∈ keys5) (h0 : 0 ≤ i) (h2 : i ≤ 2) : LatG H (putK kvs [Sum.inr z, Sum.inl i] v) := ⟨putK_nd h.1, fun p hp => by
  rcases putK_mem hp with e | e
  · rw [e]; exact ⟨place_in hz h0 h2, n⟩
  · exact h.2 p e⟩
theorem LatG.few {H : Hp} {kvs : List (List Key × V)} (h : LatG H kvs) : kvs.length ≤ 15 := by
  have := nd_le (kvs.map (·.1)) places15 h.1 fun x hx => by
    obtain ⟨kv, h1, h2⟩ := List.mem_map.mp hx
    exact h2 ▸ (h.2 kv h1).1
  rw [List.length_map] at this
  exact this
def spLMerged : Sp := fun vs H Q _ => ∃ (a c : Addr) (ds es : List PyData), vs = [.ref a, .ref c] ∧ Da H (.ref a) (.tuple ds) ∧ Da H (.ref c) (.tuple es) ∧ (∀ d ∈ ds, GNote d) ∧ (∀ d ∈ es, GNote d) ∧ ds.length + es.length ≤ 2000 ∧
  ∀ (p : Addr) (fs : List PyData) H', Same H H' → Da H' (.ref p) (.tuple fs) → fs.length ≤ 15 → (∀ d ∈ fs, GNote d) → Q (.ref p) H'
section
variable {P : Program} {w : World} {K : PySem.W.Frag} {mg : Str → Option Value} {base : Heap}
theorem does_lmerged (F : At K mg "_law_merged" sLMerged ["_law_store", "_law_other"]) (b : Bl mg) (D2 : Does P w K mg base CX0 1 "_law_over" ["_law_note", "_law_other"] spCov) :
    Does P w K mg base CX0 2 "_law_merged" ["_law_store", "_law_other"] spLMerged := by
  obtain ⟨f, fd, g, F, bi⟩ := F
  obtain ⟨f2, fd2, g2, k2, b2, G2⟩ := D2
  refine ⟨f, fd, g, F.kp, bi, F.ok scLMerged (fun vs H Q E h => ?_) (fun cdv A outer s H vs Q E hr h => ?_)⟩
  · obtain ⟨a, c, ds, es, rfl, _⟩ := h
    rfl
  · obtain ⟨a, a2, ds, es, rfl, hd, he, hg1, hg2, hz, q⟩ := h
    have hu := hu_of hr
    have hu0 := Nat.lt_of_succ_lt hu
    have nd := scLMerged.nd
    have hu64 : (A.deeper (envOfC "_law_merged" (defScope sLMerged) s.heap.objs.size f cdv)).units + 64 < cLine := hr.units
    refine ⟨_, pss_cons (ps_set (i := 2) nd rfl (Or.inr rfl) pe_dnewT)
      (pss_cons (ps_for PassesOwn.never rfl (pi_tup (pe_op op_catA (pv 0) (pv 1))) (pg_name (i := 3) nd rfl (Or.inl rfl))
        (pss_one (ps_if (pw_or (pt_cmp (pc_dnotin hu (pe_slice sl_tup (pv 3) po_none (po_some pe_int)) (pv 2)))
            (pw_or1 (pt_cmpR op_lt (pe_ix ix_tup (pe_dget hu (pv 2) (pe_slice sl_tup (pv 3) po_none (po_some pe_int)) (fun _ _ => rfl)) pe_int (fun _ _ => rfl)) (pe_ix ix_tup (pv 3) pe_int (fun _ _ => rfl)) (nomark _)))).pt
          (pss_one (ps_dput hu (pv 2) (pe_slice sl_tup (pv 3) po_none (po_some pe_int)) (pv 3) rfl)) pss_nil)))
      (pss_cons (ps_set (i := 4) nd rfl (Or.inr rfl) (pe_lc (own := [("_law_place_here", 5)]) (g := gName 5) (tt := tYes) (by rfl) nd
          (pi_list (pe_callB (cr_sortedKT hu64 rfl) (by rfl) b.srt PyProof.Rows.boot_sorted (pa_cons (pe_bm0 PySem.F.plainAttrs_dict PySem.F.slot_dict_keys PySem.F.type_dict_keys mt_keys (pv 2)) pa_nil)))
          (blkOk_by (own := [("_law_place_here", 5)]) (N := ["_law_store", "_law_other", "_law_rows", "_law_note", "_law_found", "_law_place_here", "_law_one"]) (sc := defScope sLMerged) (by decide +kernel)) (fun _ _ _ _ _ => pg_name (i := 5) nd rfl (Or.inl rfl)) (fun _ _ _ _ _ => pts_nil)
          (fun _ _ _ _ _ => pe_dget hu (pv 2) (pv 5) (fun _ _ => rfl))))
      (pss_one (ps_ret (pe_callTy call_tuple_of (by rfl) b.tup boot_tuple (pa_cons (pe_lc (own := [("_law_note", 3)]) (g := gName 3) (by rfl) nd (pi_list (pv 4))
          (blkOk_by (own := [("_law_note", 3)]) (N := ["_law_store", "_law_other", "_law_rows", "_law_note", "_law_found", "_law_place_here", "_law_one"]) (sc := defScope sLMerged) (by decide +kernel)) (fun _ _ _ _ _ => pg_name (i := 3) nd rfl (Or.inr rfl))
          (fun _ _ _ _ _ => pts_one (pt_cmpR (r := rEqNil K) (op_eqNil hu0) (pe_lc (own := [("_law_one", 6)]) (g := gName 6) (wi := iList K (tVar 4)) (by rfl) nd (pi_list (pv 4)) (blkOk_by (own := [("_law_one", 6)]) (N := ["_law_store", "_law_other", "_law_rows", "_law_note", "_law_found", "_law_place_here", "_law_one"]) (sc := keepScope) (by decide +kernel))
            (fun _ _ _ _ _ => pg_name (i := 6) nd rfl (Or.inl rfl)) (fun _ _ _ _ _ => pts_one (pt_val (pe_call G2 hr (by rfl) g2 k2 b2 .nil pass0 (pa_cons (pv 6) (pa_cons (pv 3) pa_nil))))) (fun _ _ _ _ _ => pv 6)) (pe_lst pa_nil) (nomark _)))
          (fun _ _ _ _ _ => pv 3)) pa_nil)))))), ?_⟩
    cases hd with | @tup _ xs _ ea ha =>
    cases he with | @tup _ ys _ ea2 ha2 =>
    have hlx := ha.length
    have hly := ha2.length
    refine fun L nL => ⟨_, rfl, _, rfl, ?_⟩
    have s0 : Same H (upd H L (.dT [])) := same_upd nL
    have hN : ∀ x ∈ xs ++ ys, GNoteV H x := fun x hx => by
      rcases List.mem_append.mp hx with z | z
      · exact ha.each hg1 x z
      · exact ha2.each hg2 x z
    have hlen : (xs ++ ys).length ≤ 2000 := by rw [List.length_append, hlx, hly]; exact hz
    refine catA_all (s0 _ _ ea) (s0 _ _ ea2) (by rw [hlx, hly]; exact Nat.le_of_lt (small (by omega))) _ (fun c H1 s1 ec => ?_)
    have eL1 : H1 L = some (.dT []) := s1 _ _ upd_same
    refine ⟨c, rfl, ⟨_, SqT.of ec⟩, ?_⟩
    refine for_it (walk_tup (xs := xs ++ ys)) (fun i σ H2 => (∃ y3 y4 y5 y6, σ = [some (.ref a), some (.ref a2), some (.ref L), y3, y4, y5, y6]) ∧ Same H H2 ∧ H2 c = some (.tup (xs ++ ys)) ∧ ∃ kvs, H2 L = some (.dT kvs) ∧ LatG H kvs)
      ⟨⟨_, _, _, _, rfl⟩, s0.trans s1, ec, [], eL1, List.nodup_nil, (fun kv hkv => nomatch hkv)⟩ (fun i σ H2 _ h => SqT.of h.2.2.1) (fun i x σ H2 H2' hi h y => ?_) (fun σ H2 h => ?_)
    · obtain ⟨⟨y3, y4, y5, y6, rfl⟩, s2, ec2, kvs, eL, hk⟩ := h
      obtain ⟨rfl, ex⟩ := y
      have nx : GNoteV H x := hN x (List.mem_of_getElem? ex)
      obtain ⟨z, ii, jj, ps, na, nb, nu, rfl, ena, _, _, i0, i2, hzk⟩ := nx.parts
      have e2 := s2 _ _ ena
      have hkl := hk.few
      have lay : ∀ {G : Hp} {p : Addr} (o : HO), G p = none → (Same H G ∧ G c = some (.tup (xs ++ ys)) ∧ G L = some (.dT kvs)) → (Same H (upd G p o) ∧ upd G p o c = some (.tup (xs ++ ys)) ∧ upd G p o L = some (.dT kvs)) := fun {G p} o np h =>
        ⟨h.1.trans (same_upd np), (upd_ne (ne_of_none h.2.1 np)).trans h.2.1, (upd_ne (ne_of_none h.2.2 np)).trans h.2.2⟩
      have put : ∀ {G : Hp}, (Same H G ∧ G c = some (.tup (xs ++ ys)) ∧ G L = some (.dT kvs)) → ∀ p, G p = none →
          DPut (upd G p (.tup (cutV [V.str z, .int ii, .int jj, .ref nb, nu] none (some 2)))) L (.ref p) (.ref na) (upd (upd G p (.tup (cutV [V.str z, .int ii, .int jj, .ref nb, nu] none (some 2)))) L (.dT (putK kvs [Sum.inr z, Sum.inl ii] (.ref na)))) ∧
          (Same H (upd (upd G p (.tup (cutV [V.str z, .int ii, .int jj, .ref nb, nu] none (some 2)))) L (.dT (putK kvs [Sum.inr z, Sum.inl ii] (.ref na)))) ∧ (upd (upd G p (.tup (cutV [V.str z, .int ii, .int jj, .ref nb, nu] none (some 2)))) L (.dT (putK kvs [Sum.inr z, Sum.inl ii] (.ref na)))) c = some (.tup (xs ++ ys))) := fun {G} h p np => by
        have h' := lay (.tup (cutV [V.str z, .int ii, .int jj, .ref nb, nu] none (some 2))) np h
        refine ⟨DPut.t (k := [Sum.inr z, Sum.inl ii]) h'.2.2 upd_same (small (by omega)), fun b o hb => ?_, ?_⟩
        · have hbL : b ≠ L := fun z => by rw [z, nL] at hb; cases hb
          rw [upd_ne hbL]
          exact h'.1 _ _ hb
        · rw [upd_ne (ne_of h'.2.1 h'.2.2 (by intro z; cases z))]
          exact h'.2.1
      have fin : ∀ {G : Hp}, (Same H G ∧ G c = some (.tup (xs ++ ys))) → G L = some (.dT (putK kvs [Sum.inr z, Sum.inl ii] (.ref na))) → Same H G ∧ G c = some (.tup (xs ++ ys)) ∧ ∃ kvs, G L = some (.dT kvs) ∧ LatG H kvs := fun {G} h e =>
        ⟨h.1, h.2, _, e, hk.put nx hzk i0 i2⟩
      refine ⟨_, rfl, 2, rfl, na, _, rfl, SqT.of e2, not_whole (k := 2) (by show 2 < 5; decide), fun c1 n1 => ?_⟩
      have h1 := lay (.tup (cutV [V.str z, .int ii, .int jj, .ref nb, nu] none (some 2))) n1 ⟨s2, ec2, eL⟩
      refine ⟨_, rfl, L, _, rfl, DGet.t (k := [Sum.inr z, Sum.inl ii]) h1.2.2 upd_same, _, rfl, ?_⟩
      cases hv : valV kvs [Sum.inr z, Sum.inl ii] with
      | none =>
        refine iteT ⟨_, rfl, _, rfl, _, rfl, 2, rfl, na, _, rfl, SqT.of (h1.1 _ _ ena), not_whole (k := 2) (by show 2 < 5; decide), fun c2 n2 => ?_⟩
        exact ⟨L, _, rfl, (put h1 c2 n2).1, ⟨_, _, _, _, rfl⟩, fin (put h1 c2 n2).2 upd_same⟩
      | some old =>
        obtain ⟨z', ii', jj', ps', na', nb', nu', rfl, ena', _⟩ := (hk.2 _ (valV_mem hv)).2.parts
        refine iteF ⟨_, rfl, _, rfl, 2, rfl, na, _, rfl, SqT.of (h1.1 _ _ ena), not_whole (k := 2) (by show 2 < 5; decide), fun c2 n2 => ?_⟩
        have h2 := lay (.tup (cutV [V.str z, .int ii, .int jj, .ref nb, nu] none (some 2))) n2 h1
        have dg := DGet.t (k := [Sum.inr z, Sum.inl ii]) h2.2.2 (b := c2) upd_same
        rw [hv] at dg
        refine ⟨L, _, rfl, dg, na', _, 2, .int jj', rfl, rfl, SqT.of (h2.1 _ _ ena'), atI_nat (j := 2) rfl, _, rfl, na, _, 2, .int jj, rfl, rfl, SqT.of (h2.1 _ _ ena), atI_nat (j := 2) rfl, _, _, rfl, rfl, _, rfl, ?_⟩
        by_cases hj : jj' < jj
        · rw [decide_eq_true hj]
          refine iteT ⟨_, rfl, _, rfl, _, rfl, 2, rfl, na, _, rfl, SqT.of (h2.1 _ _ ena), not_whole (k := 2) (by show 2 < 5; decide), fun c3 n3 => ?_⟩
          exact ⟨L, _, rfl, (put h2 c3 n3).1, ⟨_, _, _, _, rfl⟩, fin (put h2 c3 n3).2 upd_same⟩
        · rw [decide_eq_false hj]
          exact iteF ⟨⟨_, _, _, _, rfl⟩, h2.1, h2.2.1, kvs, h2.2.2, hk⟩
    · obtain ⟨⟨y3, y4, y5, y6, rfl⟩, s2, _, kvs, eL, hk⟩ := h
      have hk15 := hk.few
      refine ⟨_, rfl, .inr (.inr (.inl ⟨rfl, .inr ⟨kvs, eL⟩⟩)), L, rfl, rfl, .inl ⟨kvs, eL⟩, fun kp nk => ⟨kp, L, kvs, rfl, upd_same, (upd_ne (ne_of_none eL nk)).trans eL, fun kv hkv => place_shape (hk.2 kv hkv).1, fun bs sq nq hbl hb => ?_⟩⟩
      have sA : Same H2 (upd (upd H2 kp (keysO kp L)) sq (.lst (bs.map fun b => V.ref b.1))) := (same_upd nk).trans (same_upd nq)
      generalize hG : upd (upd H2 kp (keysO kp L)) sq (.lst (bs.map fun b => V.ref b.1)) = G at sA
      have eq : G sq = some (.lst (bs.map fun b => V.ref b.1)) := by rw [← hG]; exact upd_same
      have hbG : ∀ b ∈ bs, G b.1 = some (.tup (b.2.map kV)) := fun b hb' => by rw [← hG]; exact (same_upd nq) _ _ (hb b hb').1
      refine ⟨sq, rfl, ⟨_, SqL.of eq⟩, fun D hD => ?_⟩
      refine lc_it (walk_list (xs := bs.map fun b => V.ref b.1)) (fun m G1 => Same G G1 ∧ ∃ fs, G1 D = some (.lst fs) ∧ fs.length = m ∧ ∀ x ∈ fs, GNoteV H x) ⟨same_upd hD, [], upd_same, rfl, fun x hx => nomatch hx⟩ (fun m G1 _ h => SqL.of (h.1 _ _ eq)) (fun m x G1 G1' hm h y => ?_) (fun G1 h => ?_)
      · obtain ⟨s3, fs, eD, hfl, hfg⟩ := h
        obtain ⟨rfl, ex⟩ := y
        have hmb : m < bs.length := by rw [List.length_map] at hm; exact hm
        have ex' : x = .ref bs[m].1 := by
          rw [List.getElem?_map, List.getElem?_eq_getElem hmb] at ex
          exact (Option.some.inj ex).symm
        subst ex'
        have hbm : bs[m] ∈ bs := List.getElem_mem hmb
        obtain ⟨v, hv⟩ := mem_valV (hb _ hbm).2
        have dg := DGet.t (b := bs[m].1) (k := bs[m].2) (s3 _ _ (sA _ _ eL)) (s3 _ _ (hbG _ hbm))
        rw [hv] at dg
        refine ⟨wipe1, _, rfl, _, rfl, L, v, rfl, dg, _, eD, small (by omega), fun b o e => ?_, _, upd_same, by rw [List.length_append, hfl]; rfl, fun x hx => ?_⟩
        · rw [upd_ne (ne_of_none e hD)]
          exact s3 _ _ e
        · rcases List.mem_append.mp hx with z | z
          · exact hfg x z
          · rw [List.mem_singleton.mp z]
            exact (hk.2 _ (valV_mem hv)).2
      · obtain ⟨s3, fs, eD, hfl, hfg⟩ := h
        rw [List.length_map, hbl] at hfl
        have s23 := (s2.trans sA).trans s3
        refine ⟨_, rfl, D, rfl, ⟨_, SqL.of eD⟩, fun D2 hD2 => ?_⟩
        refine lc_any (sl := 3) (walk_list (xs := fs)) (fun j => fs[j]?.getD .non) (fun j Hj x H' hj y => ⟨y.1, (getD_of y.2).symm⟩) hD2 (Nat.le_of_lt (small (by omega))) (by show 3 < 7; decide) (fun Hj sj => SqL.of (sj _ _ eD)) (fun j Hj Q' hj sj kk => ?_) (fun G2 acc s4 eD3 hal ham => ?_)
        · obtain ⟨dn, hdn, hln⟩ := hfg fs[j] (List.getElem_mem hj)
          have em : fs[j]?.getD .non = fs[j] := by rw [List.getElem?_eq_getElem hj]; rfl
          rw [em]
          refine ⟨_, rfl, D, rfl, ⟨fs, SqL.of (sj _ _ eD)⟩, fun D4 hD4 => ?_⟩
          refine lc_any (sl := 6) (walk_list (xs := fs)) (fun j => fs[j]?.getD .non) (fun j Hj x H' hj y => ⟨y.1, (getD_of y.2).symm⟩) hD4 (Nat.le_of_lt (small (by omega))) (by show 6 < 7; decide) (fun Hk sk => SqL.of (sk _ _ (sj _ _ eD))) (fun m Hk Q2 hm sk kk2 => ?_) (fun G3 acc2 s5 eD5 hal2 _ => ?_)
          · obtain ⟨dm, hdm, hlm⟩ := hfg fs[m] (List.getElem_mem hm)
            have em2 : fs[m]?.getD .non = fs[m] := by rw [List.getElem?_eq_getElem hm]; rfl
            rw [em2]
            have sH : Same H Hk := (s23.trans sj).trans sk
            exact ⟨_, rfl, _, rfl, _, _, dm, dn, rfl, Da.same sH _ _ hdm, Da.same sH _ _ hdn, hlm.like, hln.like, _, rfl, kk2 _ Hk (Same.refl Hk)⟩
          · exact ⟨Nat.zero_le _, fun o no => ⟨D4, o, acc2, rfl, rfl, SqL.of ((upd_ne (ne_of_none eD5 no)).trans eD5), SqL.of upd_same, _, rfl, kk _ _ (s5.trans (same_upd no))⟩⟩
        · refine ⟨D2, acc, rfl, .inl ⟨SqL.of eD3, fun p np => ?_⟩⟩
          have sF := (s23.trans s4).trans (same_upd (o := .tup acc) np)
          obtain ⟨es', h1, h2', h3⟩ := daAll_of (vs := acc) (p := GNote) fun x hx => by
            obtain ⟨j, hj, e⟩ := ham x hx
            rw [e]
            show ∃ d, Da (upd G2 p (.tup acc)) (fs[j]?.getD .non) d ∧ GNote d
            rw [List.getElem?_eq_getElem hj]
            exact (hfg _ (List.getElem_mem hj)).same sF
          exact q p es' _ sF (.tup upd_same h1) (by rw [h2']; omega) h3
end
end Ms
set_option Elab.async false
set_option linter.all false
set_option maxRecDepth 100000
set_option maxHeartbeats 4000000
namespace Ms
open PySem PySem.Spec PyProof.Rows L2
/-! ### _law_stores -/
theorem scStores : FnScope ["_law_row", "_law_many", "_law_turns", "_law_stores_here", "_law_serials", "_law_notes", "_law_turn", "_law_host", "_law_other", "_law_key", "_law_note"] ["_law_row", "_law_many", "_law_turns"] (defScope sStores) := ⟨rfl, rfl, rfl, by decide +kernel, rfl, by decide +kernel, by decide +kernel⟩
/-- the tuples alone: they never change -/
def tups (G : Hp) : Hp := fun b => match G b with
  | some (.tup xs) => some (.tup xs)
  | _ => none
theorem tups_le (G : Hp) : Same (tups G) G := fun b o e => by
  unfold tups at e
  split at e
  · rename_i xs h; rw [h]; exact e
  · cases e
theorem tups_at {G : Hp} {b : Addr} {xs : List V} (h : G b = some (.tup xs)) : tups G b = some (.tup xs) := by unfold tups; rw [h]
theorem tups_get {G : Hp} {b : Addr} {o : HO} (h : tups G b = some o) : ∃ xs, o = .tup xs ∧ G b = some (.tup xs) := by
  unfold tups at h
  split at h
  · rename_i xs e; cases h; exact ⟨xs, rfl, e⟩
  · cases h
theorem tups_of {G G' : Hp} (h : ∀ b xs, G b = some (.tup xs) → G' b = some (.tup xs)) : Same (tups G) (tups G') := fun b o e => by
  obtain ⟨xs, rfl, e'⟩ := tups_get e
  exact tups_at (h b xs e')
theorem tups_same {G G' : Hp} (s : Same G G') : Same (tups G) (tups G') := tups_of fun b xs e => s _ _ e
theorem tups_but {R sc : Addr} {G G' : Hp} (r : RowIn R sc G) (s : SameBut R G G') : Same (tups G) (tups G') := tups_of fun b xs e => by
  obtain ⟨i, x, r', er, _⟩ := r
  have hb : b ≠ R := ne_of e er (by intro z; cases z)
  exact (cut_get (s _ _ ((cut_ne hb).trans e))).2
theorem tups_upd {S : Addr} {G : Hp} {xs ys : List V} (h : G S = some (.lst xs)) : Same (tups G) (tups (upd G S (.lst ys))) := tups_of fun b zs e => by
  rw [upd_ne (ne_of e h (by intro z; cases z))]
  exact e
theorem da_tups_ints {H : Hp} : ∀ {ps : List Int} {xs : List V}, DaAll H xs (ps.map PyData.int) → DaAll (tups H) xs (ps.map PyData.int)
  | [], _, h => by cases h; exact .nil
  | p :: ps, _, h => by
    cases h with
    | cons a b => cases a; exact .cons (.int _) (da_tups_ints b)
theorem flat_tups {H : Hp} {v : V} {u : PyData} (h : Da H v u) (hu : FlatD u) : Da (tups H) v u := by
  rcases hu with rfl | ⟨i, rfl⟩ | ⟨z, rfl, _⟩
  · cases h; exact .non
  · cases h; exact .int i
  · cases h with | str _ hz => exact .str z hz
theorem GNote.tups {H : Hp} {v : V} {d : PyData} (h : Da H v d) (g : GNote d) : Da (tups H) v d := by
  obtain ⟨z, i, j, ps, u, rfl, _, _, _, _, hu⟩ := g
  cases h with
  | tup e ha =>
    cases ha with | cons d1 ha => cases ha with | cons d2 ha => cases ha with | cons d3 ha => cases ha with | cons d4 ha => cases ha with | cons d5 ha =>
    cases ha
    cases d1 with | str _ hz =>
    cases d2
    cases d3
    cases d4 with | tup eb hb =>
    have d5' := flat_tups d5 hu
    exact .tup (tups_at e) (.cons (.str z hz) (.cons (.int i) (.cons (.int j) (.cons (.tup (tups_at eb) (da_tups_ints hb)) (.cons d5' .nil)))))
theorem gnotes_tups {H : Hp} : ∀ {vs : List V} {ds : List PyData}, DaAll H vs ds → (∀ d ∈ ds, GNote d) → DaAll (tups H) vs ds
  | _, [], h, _ => by cases h; exact .nil
  | _, d :: ds, h, g => by
    cases h with
    | cons a b => exact .cons (GNote.tups a (g d List.mem_cons_self)) (gnotes_tups b fun e he => g e (List.mem_cons_of_mem _ he))
/-- a store of at most n notes -/
def StoreV (G : Hp) (n : Nat) (v : V) : Prop := ∃ ds, Da (tups G) v (.tuple ds) ∧ ds.length ≤ n ∧ ∀ d ∈ ds, GNote d
def NoteT (G : Hp) (v : V) : Prop := ∃ d, Da (tups G) v d ∧ GNote d
theorem StoreV.mono {G G' : Hp} {n m : Nat} {v : V} (h : StoreV G n v) (s : Same (tups G) (tups G')) (hn : n ≤ m) : StoreV G' m v := let ⟨ds, a, b, c⟩ := h; ⟨ds, Da.same s _ _ a, Nat.le_trans b hn, c⟩
theorem NoteT.mono {G G' : Hp} {v : V} (h : NoteT G v) (s : Same (tups G) (tups G')) : NoteT G' v := let ⟨d, a, b⟩ := h; ⟨d, Da.same s _ _ a, b⟩
theorem StoreV.of {G : Hp} {n : Nat} {p : Addr} {es : List PyData} (h : Da G (.ref p) (.tuple es)) (hn : es.length ≤ n) (g : ∀ d ∈ es, GNote d) : StoreV G n (.ref p) := by
  cases h with
  | tup e ha => exact ⟨es, .tup (tups_at e) (gnotes_tups ha g), hn, g⟩
/-- what stands between the turns -/
structure StInv (R sc S Sr Nn : Addr) (H G : Hp) (n m : Nat) : Prop where
  row : RowIn R sc G
  but : SameBut R H G
  st : ∃ vs, G S = some (.lst vs) ∧ vs.length = 3 ∧ ∀ v ∈ vs, StoreV G n v
  sr : ∃ ks : List Int, G Sr = some (.lst (ks.map V.int)) ∧ ks.length = 3
  nt : ∃ ns, G Nn = some (.lst ns) ∧ ns.length ≤ m ∧ ∀ x ∈ ns, NoteT G x
  hS : H S = none ∧ S ≠ R
  hSr : H Sr = none ∧ Sr ≠ R
  hN : Nn ≠ R
  d1 : S ≠ Sr
  d2 : Nn ≠ S
  d3 : Nn ≠ Sr
section
variable {R sc S Sr Nn : Addr} {H G G' : Hp} {n m : Nat}
theorem StInv.move (h : StInv R sc S Sr Nn H G n m) (s : SameBut R G G') (r : RowIn R sc G') : StInv R sc S Sr Nn H G' n m := by
  have t := tups_but h.row s
  have g : ∀ {b : Addr} {o : HO}, G b = some o → b ≠ R → G' b = some o := fun {b o} e hb => (cut_get (s _ _ ((cut_ne hb).trans e))).2
  obtain ⟨vs, e1, l1, a1⟩ := h.st
  obtain ⟨ks, e2, l2⟩ := h.sr
  obtain ⟨ns, e3, l3, a3⟩ := h.nt
  exact ⟨r, h.but.trans s, ⟨vs, g e1 h.hS.2, l1, fun v hv => (a1 v hv).mono t (Nat.le_refl _)⟩, ⟨ks, g e2 h.hSr.2, l2⟩, ⟨ns, g e3 h.hN, l3, fun x hx => (a3 x hx).mono t⟩, h.hS, h.hSr, h.hN, h.d1, h.d2, h.d3⟩
theorem StInv.same (h : StInv R sc S Sr Nn H G n m) (s : Same G G') : StInv R sc S Sr Nn H G' n m := h.move (cut_of s) (let ⟨i, x, r, e, q⟩ := h.row; ⟨i, x, r, s _ _ e, q⟩)
theorem StInv.putS {n' : Nat} {vs : List V} {v : V} {k : Nat} (h : StInv R sc S Sr Nn H G n m) (e : G S = some (.lst vs)) (hn : n ≤ n') (hv : StoreV G n' v) : StInv R sc S Sr Nn H (upd G S (.lst (vs.set k v))) n' m := by
  have t : Same (tups G) (tups (upd G S (.lst (vs.set k v)))) := tups_upd e
  obtain ⟨vs', e1, l1, a1⟩ := h.st
  rw [e] at e1
  cases e1
  obtain ⟨ks, e2, l2⟩ := h.sr
  obtain ⟨ns, e3, l3, a3⟩ := h.nt
  refine ⟨h.row.upd h.hS.2, but_upd h.but h.hS.1, ⟨_, upd_same, by rw [List.length_set]; exact l1, fun x hx => ?_⟩, ⟨ks, by rw [upd_ne h.d1.symm]; exact e2, l2⟩, ⟨ns, by rw [upd_ne h.d2]; exact e3, l3, fun x hx => (a3 x hx).mono t⟩, h.hS, h.hSr, h.hN, h.d1, h.d2, h.d3⟩
  rcases List.mem_or_eq_of_mem_set hx with z | z
  · exact (a1 x z).mono t hn
  · rw [z]; exact hv.mono t (Nat.le_refl _)
theorem StInv.putSr {ks : List Int} {i : Int} {k : Nat} (h : StInv R sc S Sr Nn H G n m) (e : G Sr = some (.lst (ks.map V.int))) : StInv R sc S Sr Nn H (upd G Sr (.lst ((ks.map V.int).set k (.int i)))) n m := by
  have t : Same (tups G) (tups (upd G Sr (.lst ((ks.map V.int).set k (.int i))))) := tups_upd e
  obtain ⟨vs, e1, l1, a1⟩ := h.st
  obtain ⟨ks', e2, l2⟩ := h.sr
  obtain ⟨ns, e3, l3, a3⟩ := h.nt
  have lk : ks.length = 3 := by
    rw [e] at e2
    have := congrArg (fun o : Option HO => match o with | some (.lst xs) => xs.length | _ => 0) e2
    simp only [List.length_map] at this
    omega
  exact ⟨h.row.upd h.hSr.2, but_upd h.but h.hSr.1, ⟨vs, by rw [upd_ne h.d1]; exact e1, l1, fun v hv => (a1 v hv).mono t (Nat.le_refl _)⟩, ⟨ks.set k i, by rw [upd_same, List.map_set], by rw [List.length_set]; exact lk⟩, ⟨ns, by rw [upd_ne h.d3]; exact e3, l3, fun x hx => (a3 x hx).mono t⟩, h.hS, h.hSr, h.hN, h.d1, h.d2, h.d3⟩
end
theorem StoreV.ref {G : Hp} {n : Nat} {v : V} (h : StoreV G n v) : ∃ (a : Addr) (ds : List PyData) (xs : List V), v = .ref a ∧ G a = some (.tup xs) ∧ DaAll (tups G) xs ds ∧ ds.length ≤ n ∧ ∀ d ∈ ds, GNote d := by
  obtain ⟨ds, hd, hl, hg⟩ := h
  cases hd with
  | tup e ha =>
    obtain ⟨zs, ez, e'⟩ := tups_get e
    cases ez
    exact ⟨_, ds, _, rfl, e', ha, hl, hg⟩
theorem StInv.newN {R sc S Sr Nn p : Addr} {H G : Hp} {n m m' : Nat} {xs : List V} (h : StInv R sc S Sr Nn H G n m) (np : G p = none) (hx : ∀ x ∈ xs, NoteT G x) (hl : xs.length ≤ m') : StInv R sc S Sr p H (upd G p (.lst xs)) n m' := by
  have h' := h.same (same_upd (o := .lst xs) np)
  obtain ⟨vs, e1, _⟩ := h.st
  obtain ⟨ks, e2, _⟩ := h.sr
  exact ⟨h'.row, h'.but, h'.st, h'.sr, ⟨xs, upd_same, hl, fun x hx' => (hx x hx').mono (tups_same (same_upd np))⟩, h.hS, h.hSr, h.row.ne np, h.d1, (ne_of_none e1 np).symm, (ne_of_none e2 np).symm⟩
theorem at3 {α : Type} {xs : List α} {t : Int} (h : xs.length = 3) (t0 : 0 ≤ t) (t1 : t < 3) : ∃ v, atI xs t = some v ∧ v ∈ xs ∧ ixN xs.length t = some t.toNat := by
  have hi : t.toNat < xs.length := by omega
  have e := atI_nat (List.getElem?_eq_getElem hi)
  rw [Int.toNat_of_nonneg t0] at e
  refine ⟨_, e, List.getElem_mem hi, ?_⟩
  unfold ixN
  rw [if_pos t0, h, if_pos (by omega)]
theorem atInts {ks : List Int} {t : Int} (h : ks.length = 3) (t0 : 0 ≤ t) (t1 : t < 3) : ∃ k : Int, atI (ks.map V.int) t = some (.int k) ∧ ixN (ks.map V.int).length t = some t.toNat := by
  obtain ⟨v, e, hv, hx⟩ := at3 (xs := ks.map V.int) (by rw [List.length_map]; exact h) t0 t1
  obtain ⟨k, _, rfl⟩ := List.mem_map.mp hv
  exact ⟨k, e, hx⟩
def spStores (K : PySem.W.Frag) : Sp := fun vs H Q _ => ∃ R sc : Addr, vs = [.ref R, .int 3, .int 14] ∧ RowAt K R sc H ∧ ∀ (T S Nn : Addr) (vs ns : List V) H', RowAt K R sc H' → SameBut R H H' → H' T = some (.tup [.ref S, .ref Nn]) → H' S = some (.lst vs) → vs.length = 3 → (∀ v ∈ vs, StoreV H' 29 v) →
  H' Nn = some (.lst ns) → ns.length ≤ 560 → (∀ x ∈ ns, NoteT H' x) → S ≠ R → Nn ≠ R → Q (.ref T) H'
section
variable {P : Program} {w : World} {K : PySem.W.Frag} {mg : Str → Option Value} {base : Heap}
theorem does_stores (F : At K mg "_law_stores" sStores ["_law_row", "_law_many", "_law_turns"]) (b : Bl mg) (D1 : Does P w K mg base CX0 1 "_law_taken" ["_law_row", "_law_many"] (spTaken K)) (D2 : Does P w K mg base CX0 3 "_law_some_key" ["_law_row"] (spSomeKey K))
    (D3 : Does P w K mg base CX0 2 "_law_written" ["_law_store", "_law_host", "_law_serial", "_law_key", "_law_value"] spWritten) (D4 : Does P w K mg base CX0 4 "_law_some_value" ["_law_row"] (spSomeValue K)) (D5 : Does P w K mg base CX0 2 "_law_merged" ["_law_store", "_law_other"] spLMerged) :
    Does P w K mg base CX0 5 "_law_stores" ["_law_row", "_law_many", "_law_turns"] (spStores K) := by
  obtain ⟨f, fd, g, F, bi⟩ := F
  obtain ⟨f1, fd1, g1, k1, b1, G1⟩ := D1
  obtain ⟨f2, fd2, g2, k2, b2, G2⟩ := D2
  obtain ⟨f3, fd3, g3, k3, b3, G3⟩ := D3
  obtain ⟨f4, fd4, g4, k4, b4, G4⟩ := D4
  obtain ⟨f5, fd5, g5, k5, b5, G5⟩ := D5
  refine ⟨f, fd, g, F.kp, bi, F.ok scStores (fun vs H Q E h => ?_) (fun cdv A outer s H vs Q E hr h => ?_)⟩
  · obtain ⟨R, sc, rfl, _⟩ := h
    rfl
  · obtain ⟨R, sc, rfl, hR, q⟩ := h
    have hr1 := hr.mono (by decide : 1 ≤ 4)
    have hr2 := hr.mono (by decide : 2 ≤ 4)
    have hr3 := hr.mono (by decide : 3 ≤ 4)
    have nd := scStores.nd
    refine ⟨_, pss_cons (ps_asg (pe_tup (pa_cons (pe_op op_rep (pe_lst (pa_cons (pe_tup pa_nil) pa_nil)) (pv 1)) (pa_cons (pe_op op_rep (pe_lst (pa_cons pe_int pa_nil)) (pv 1)) (pa_cons (pe_lst pa_nil) pa_nil))))
        (pg_tup (by rfl) (pgs_cons (pg_name (i := 3) nd rfl (Or.inl rfl)) (pgs_cons (pg_name (i := 4) nd rfl (Or.inr rfl)) (pgs_cons (pg_name (i := 5) nd rfl (Or.inl rfl)) pgs_nil)))))
      (pss_cons (ps_for PassesOwn.never rfl (pi_range1 (by rfl) b.rng (pa_cons (pv 2) pa_nil)) (pg_name (i := 6) nd rfl (Or.inl rfl))
        (pss_cons (ps_asg (pe_tup (pa_cons (pe_call G1 hr1 (by rfl) g1 k1 b1 .nil pass0 (pa_cons (pv 0) (pa_cons (pv 1) pa_nil))) (pa_cons (pe_call G1 hr1 (by rfl) g1 k1 b1 .nil pass0 (pa_cons (pv 0) (pa_cons (pv 1) pa_nil))) pa_nil)))
            (pg_tup (by rfl) (pgs_cons (pg_name (i := 7) nd rfl (Or.inr rfl)) (pgs_cons (pg_name (i := 8) nd rfl (Or.inl rfl)) pgs_nil))))
        (pss_one (ps_if (pt_cmpR op_gt (pe_call G1 hr1 (by rfl) g1 k1 b1 .nil pass0 (pa_cons (pv 0) (pa_cons pe_int pa_nil))) pe_int (nomark _))
          (pss_cons (ps_asg (pe_op op_add (pe_op op_add (pe_ix ix_list (pv 4) (pv 7) (fun _ _ => rfl)) pe_int) (pe_call G1 hr1 (by rfl) g1 k1 b1 .nil pass0 (pa_cons (pv 0) (pa_cons pe_int pa_nil)))) (pg_sub (pv 4) (pv 7) set_list (fun _ => rfl)))
          (pss_cons (ps_set (i := 9) nd rfl (Or.inl rfl) (pe_call G2 hr3 (by rfl) g2 k2 b2 .nil pass0 (pa_cons (pv 0) pa_nil)))
          (pss_cons (ps_asg (pe_call G3 hr2 (by rfl) g3 k3 b3 .nil pass0 (pa_cons (pe_ix ix_list (pv 3) (pv 7) (fun _ _ => rfl)) (pa_cons (pv 7) (pa_cons (pe_ix ix_list (pv 4) (pv 7) (fun _ _ => rfl)) (pa_cons (pv 9)
              (pa_cons (pe_call G4 hr (by rfl) g4 k4 b4 .nil pass0 (pa_cons (pv 0) pa_nil)) pa_nil)))))) (pg_sub (pv 3) (pv 7) set_list (fun _ => rfl)))
          (pss_one (ps_set (i := 5) nd rfl (Or.inl rfl) (pe_op op_cat (pv 5) (pe_lc (own := [("_law_note", 10)]) (g := gName 10) (by rfl) nd (pi_tup (pe_ix ix_list (pv 3) (pv 7) (fun _ _ => rfl)))
              (blkOk_by (own := [("_law_note", 10)]) (N := ["_law_row", "_law_many", "_law_turns", "_law_stores_here", "_law_serials", "_law_notes", "_law_turn", "_law_host", "_law_other", "_law_key", "_law_note"]) (sc := defScope sStores) (by decide +kernel)) (fun _ _ _ _ _ => pg_name (i := 10) nd rfl (Or.inl rfl))
              (fun _ _ _ _ _ => pts_one (pw_and (pt_cmpR op_eq (pe_ix (r := rIxT K) ix_tup (pv 10) pe_int (fun _ _ => rfl)) (pv 7) (nomark _)) (pw_and1 (pt_cmpR op_eq (pe_ix (r := rIxT K) ix_tup (pv 10) pe_int (fun _ _ => rfl)) (pe_ix (r := rIxL K) ix_list (pv 4) (pv 7) (fun _ _ => rfl)) (nomark _)))).pt)
              (fun _ _ _ _ _ => pv 10))))))))
          (pss_one (ps_asg (pe_call G5 hr2 (by rfl) g5 k5 b5 .nil pass0 (pa_cons (pe_ix ix_list (pv 3) (pv 7) (fun _ _ => rfl)) (pa_cons (pe_ix ix_list (pv 3) (pv 8) (fun _ _ => rfl)) pa_nil))) (pg_sub (pv 3) (pv 7) set_list (fun _ => rfl))))))))
      (pss_one (ps_ret (pe_tup (pa_cons (pv 3) (pa_cons (pv 5) pa_nil)))))), ?_⟩
    have scr : ∀ {G : Hp}, SameBut R H G → Scr K R sc G := fun {G} s => hR.2.but s
    refine ⟨Nat.zero_le _, fun t0 nt0 => ⟨(by show 1 ≤ sizeLine; decide), fun l0 nl0 => ⟨_, rfl, l0, 3, [.ref t0], rfl, rfl, upd_same, by decide, by decide, (by show 1 * 3 ≤ sizeLine; decide), fun S nS => ?_⟩⟩⟩
    have s1 : Same H (upd H t0 (.tup [])) := same_upd nt0
    have s2 := s1.trans (same_upd (o := .lst [.ref t0]) nl0)
    have s3 := s2.trans (same_upd (o := .lst (List.replicate (3 : Int).toNat [V.ref t0]).flatten) nS)
    refine ⟨(by show 1 ≤ sizeLine; decide), fun l1 nl1 => ⟨_, rfl, l1, 3, [.int 0], rfl, rfl, upd_same, by decide, by decide, (by show 1 * 3 ≤ sizeLine; decide), fun Sr nSr => ?_⟩⟩
    have k4 := same_upd (o := .lst [V.int 0]) nl1
    have k5 := k4.trans (same_upd (o := .lst (List.replicate (3 : Int).toNat [V.int 0]).flatten) nSr)
    refine ⟨Nat.zero_le _, fun Nn nNn => ⟨(by show 3 ≤ sizeLine; decide), fun T nT => ⟨T, _, rfl, SqT.of upd_same, rfl, _, _, rfl, _, _, rfl, _, _, rfl, rfl, ?_⟩⟩⟩
    have k6 := same_upd (o := .lst []) nNn
    have k7 := same_upd (o := .tup [.ref S, .ref Sr, .ref Nn]) nT
    have k67 := k6.trans k7
    have k47 := k5.trans k67
    have sF := s3.trans k47
    have hSR : S ≠ R := hR.1.ne (s2.free nS)
    have hSrR : Sr ≠ R := hR.1.ne ((s3.trans k4).free nSr)
    have hNR : Nn ≠ R := hR.1.ne ((s3.trans k5).free nNn)
    have eS := k47 _ _ (show upd (upd (upd H t0 (.tup [])) l0 (.lst [.ref t0])) S (.lst (List.replicate (3 : Int).toNat [V.ref t0]).flatten) S = some _ from upd_same)
    have et0 := ((same_upd (o := .lst [.ref t0]) nl0).trans ((same_upd (o := .lst (List.replicate (3 : Int).toNat [V.ref t0]).flatten) nS).trans k47)) _ _ (show upd H t0 (.tup []) t0 = some _ from upd_same)
    have start : StInv R sc S Sr Nn H _ (15 + 0) (0 * 40) := ⟨let ⟨i, x, r, e, q⟩ := hR.1; ⟨i, x, r, sF _ _ e, q⟩, cut_of sF, ⟨_, eS, rfl, fun v hv => by
        have hv' : v ∈ [V.ref t0, .ref t0, .ref t0] := hv
        have ev : v = .ref t0 := by
          simp only [List.mem_cons, List.not_mem_nil, or_false, or_self] at hv'
          exact hv'
        rw [ev]
        exact ⟨[], .tup (tups_at et0) .nil, Nat.zero_le _, fun d hd => nomatch hd⟩⟩,
      ⟨[0, 0, 0], k67 _ _ upd_same, rfl⟩, ⟨[], k7 _ _ upd_same, Nat.le_refl 0, fun x hx => nomatch hx⟩, ⟨s2.free nS, hSR⟩, ⟨(s3.trans k4).free nSr, hSrR⟩, hNR,
      ne_of_none (k4 _ _ upd_same) nSr, (ne_of_none (k5 _ _ upd_same) nNn).symm, (ne_of_none (show upd _ Sr _ Sr = some _ from upd_same) nNn).symm⟩
    refine ⟨_, rfl, 14, rfl, by decide, by decide, ?_⟩
    refine for_it (walk_range (n := 14)) (fun i σ G => ∃ (Nn : Addr) (y6 y7 y8 y9 y10 : Option V), σ = [some (.ref R), some (.int 3), some (.int 14), some (.ref S), some (.ref Sr), some (.ref Nn), y6, y7, y8, y9, y10] ∧ StInv R sc S Sr Nn H G (15 + i) (i * 40))
      ⟨Nn, _, _, _, _, _, rfl, start⟩ (fun _ _ _ _ _ => trivial) (fun i x σ G G' hi h y => ?_) (fun σ G h => ?_)
    · obtain ⟨Nn, y6, y7, y8, y9, y10, rfl, I0⟩ := h
      obtain ⟨rfl, rfl⟩ := y
      have hi14 : i < 14 := hi
      refine ⟨_, rfl, _, rfl, R, sc, 3, rfl, by decide, by decide, ⟨I0.row, scr I0.but⟩, fun t1 Ga ta0 ta1 hRa sa => ?_⟩
      have Ia := I0.move sa hRa.1
      refine ⟨_, rfl, _, rfl, R, sc, 3, rfl, by decide, by decide, hRa, fun t2 Gb tb0 tb1 hRb sb => ?_⟩
      have Ib := Ia.move sb hRb.1
      refine ⟨(by show 2 ≤ sizeLine; decide), fun T nT => ⟨T, _, rfl, SqT.of upd_same, rfl, _, _, rfl, _, _, rfl, rfl, ?_⟩⟩
      have I1 := Ib.same (same_upd (o := .tup [.int t1, .int t2]) nT)
      refine ⟨_, rfl, R, sc, 3, rfl, by decide, by decide, ⟨I1.row, scr I1.but⟩, fun t3 Gc tc0 tc1 hRc sc3 => ⟨_, _, rfl, rfl, _, rfl, ?_⟩⟩
      have I2 := I1.move sc3 hRc.1
      by_cases ht3 : 0 < t3
      · rw [decide_eq_true ht3]
        obtain ⟨ks2, eSr2, l2⟩ := I2.sr
        obtain ⟨k2, at2, _⟩ := atInts l2 ta0 ta1
        refine iteT ⟨_, rfl, _, rfl, Sr, _, t1, .int k2, rfl, rfl, SqL.of eSr2, at2, _, _, rfl, rfl, _, rfl, R, sc, 2, rfl, by decide, by decide, hRc, fun t4 Gd td0 td1 hRd sd => ?_⟩
        have I3 := I2.move sd hRd.1
        obtain ⟨ks3, eSr3, l3⟩ := I3.sr
        obtain ⟨k3, _, ix3⟩ := atInts l3 ta0 ta1
        refine ⟨_, _, rfl, rfl, _, rfl, _, rfl, Sr, _, t1, t1.toNat, rfl, rfl, eSr3, ix3, ?_⟩
        have I4 := I3.putSr (i := k2 + 1 + t4) (k := t1.toNat) eSr3
        refine ⟨_, rfl, R, sc, rfl, ⟨I4.row, scr I4.but⟩, fun z Ge hz hRe se => ?_⟩
        have I5 := I4.move se hRe.1
        obtain ⟨vs5, eS5, lv5, av5⟩ := I5.st
        obtain ⟨v5, atv5, mv5, _⟩ := at3 lv5 ta0 ta1
        obtain ⟨a5, ds5, xs5, rfl, ea5, hda5, hl5, hg5⟩ := (av5 v5 mv5).ref
        obtain ⟨ks5, eSr5, lk5⟩ := I5.sr
        obtain ⟨k5', atk5, _⟩ := atInts lk5 ta0 ta1
        refine ⟨_, rfl, _, rfl, S, _, t1, _, rfl, rfl, SqL.of eS5, atv5, _, rfl, _, rfl, _, rfl, Sr, _, t1, _, rfl, rfl, SqL.of eSr5, atk5, _, rfl, _, rfl, R, sc, rfl, hRe, fun vv Gf hfl hRf sf => ?_⟩
        have I6 := I5.move sf hRf.1
        have tf := tups_but I5.row sf
        refine ⟨a5, t1, k5', z, vv, ds5, rfl, Da.same (tf.trans (tups_le Gf)) _ _ (.tup (tups_at ea5) hda5), hg5, by omega, ta0, by omega, hz, hfl, fun p es Gg sg hp hel heg => ?_⟩
        have I7 := I6.same sg
        obtain ⟨vs7, eS7, lv7, av7⟩ := I7.st
        obtain ⟨_, _, _, ixv7⟩ := at3 lv7 ta0 ta1
        refine ⟨_, rfl, _, rfl, S, _, t1, t1.toNat, rfl, rfl, eS7, ixv7, ?_⟩
        have I8 := I7.putS (n' := 15 + (i + 1)) (k := t1.toNat) eS7 (by omega) (StoreV.of hp (by omega) heg)
        obtain ⟨vs8, eS8, lv8, av8⟩ := I8.st
        obtain ⟨v8, atv8, mv8, _⟩ := at3 lv8 ta0 ta1
        obtain ⟨a8, ds8, xs8, rfl, ea8, hda8, hl8, hg8⟩ := (av8 v8 mv8).ref
        have hlx8 := hda8.length
        obtain ⟨ks8, eSr8, lk8⟩ := I8.sr
        obtain ⟨k8, atk8, _⟩ := atInts lk8 ta0 ta1
        obtain ⟨ns8, eN8, ln8, an8⟩ := I8.nt
        refine ⟨_, rfl, _, rfl, _, rfl, S, _, t1, _, rfl, rfl, SqL.of eS8, atv8, a8, rfl, ⟨xs8, SqT.of ea8⟩, fun D nD => ?_⟩
        have hN8 : ∀ j (hj : j < xs8.length), ∃ d, Da (tups _) xs8[j] d ∧ GNote d := fun j hj => hda8.each hg8 _ (List.getElem_mem hj)
        refine lc_any (sl := 10) (walk_tup (xs := xs8)) (fun j => xs8[j]?.getD .non) (fun j Hj x H' hj y => ⟨y.1, (getD_of y.2).symm⟩) nD (Nat.le_of_lt (small (by omega))) (by show 10 < 11; decide) (fun Hj sj => SqT.of (sj _ _ ea8)) (fun j Hj Q' hj sj kk => ?_) (fun Gh acc sh eD hal ham => ?_)
        · obtain ⟨d, hd, hgd⟩ := hN8 j hj
          obtain ⟨z', i', j', ps, na, nb, nx, ex, ena, _⟩ := GNoteV.parts (H := Hj) ⟨d, Da.same ((tups_le _).trans sj) _ _ hd, hgd⟩
          have em : xs8[j]?.getD .non = .ref na := by rw [List.getElem?_eq_getElem hj]; exact ex
          rw [em]
          refine ⟨_, rfl, na, _, 1, .int i', rfl, rfl, SqT.of ena, atI_nat (j := 1) rfl, _, rfl, rfl, _, rfl, ?_⟩
          cases decide (V.int i' = V.int t1) with
          | true => exact iteT ⟨_, rfl, na, _, 2, .int j', rfl, rfl, SqT.of ena, atI_nat (j := 2) rfl, _, rfl, _, rfl, Sr, _, t1, _, rfl, rfl, SqL.of (sj _ _ eSr8), atk8, rfl, _, rfl, kk _ Hj (Same.refl Hj)⟩
          | false => exact iteF (kk _ Hj (Same.refl Hj))
        · have I9 := I8.same sh
          refine ⟨Nn, D, ns8, acc, rfl, rfl, sh _ _ eN8, eD, Nat.le_of_lt (small (by omega)), fun N2 nN2 => ?_⟩
          refine ⟨N2, _, _, _, _, _, rfl, I9.newN nN2 (fun x hx => ?_) (by rw [List.length_append]; omega)⟩
          rcases List.mem_append.mp hx with e | e
          · exact (an8 x e).mono (tups_same sh)
          · obtain ⟨j, hj, e⟩ := ham x e
            rw [e]
            show NoteT Gh (xs8[j]?.getD .non)
            rw [List.getElem?_eq_getElem hj]
            exact NoteT.mono (hN8 j hj) (tups_same sh)
      · rw [decide_eq_false ht3]
        obtain ⟨vs3, eS3, lv3, av3⟩ := I2.st
        obtain ⟨v3, atv3, mv3, _⟩ := at3 lv3 ta0 ta1
        obtain ⟨w3, atw3, mw3, _⟩ := at3 lv3 tb0 tb1
        obtain ⟨a3, ds3, xs3, rfl, ea3, hda3, hl3, hg3⟩ := (av3 v3 mv3).ref
        obtain ⟨c3, es3, ys3, rfl, ec3, hdc3, hm3, hh3⟩ := (av3 w3 mw3).ref
        refine iteF ⟨_, rfl, _, rfl, S, _, t1, _, rfl, rfl, SqL.of eS3, atv3, _, rfl, _, rfl, S, _, t2, _, rfl, rfl, SqL.of eS3, atw3, a3, c3, ds3, es3, rfl, Da.same (tups_le _) _ _ (.tup (tups_at ea3) hda3), Da.same (tups_le _) _ _ (.tup (tups_at ec3) hdc3), hg3, hh3, by omega, fun p fs Gg sg hp hfl hfg => ?_⟩
        have I7 := I2.same sg
        obtain ⟨vs7, eS7, lv7, av7⟩ := I7.st
        obtain ⟨_, _, _, ixv7⟩ := at3 lv7 ta0 ta1
        refine ⟨_, rfl, _, rfl, S, _, t1, t1.toNat, rfl, rfl, eS7, ixv7, ?_⟩
        have I8 := I7.putS (n' := 15 + (i + 1)) (k := t1.toNat) eS7 (by omega) (StoreV.of hp (by omega) hfg)
        obtain ⟨ns8, eN8, ln8, an8⟩ := I8.nt
        exact ⟨Nn, _, _, _, _, _, rfl, I8.row, I8.but, I8.st, I8.sr, ⟨ns8, eN8, by omega, an8⟩, I8.hS, I8.hSr, I8.hN, I8.d1, I8.d2, I8.d3⟩
    · obtain ⟨Nn, y6, y7, y8, y9, y10, rfl, I0⟩ := h
      refine ⟨_, rfl, _, rfl, (by show 2 ≤ sizeLine; decide), fun T nT => ?_⟩
      have I1 := I0.same (same_upd (o := .tup [.ref S, .ref Nn]) nT)
      obtain ⟨vs, e1, l1, a1⟩ := I1.st
      obtain ⟨ns, e2, l2, a2⟩ := I1.nt
      exact q T S Nn vs ns _ ⟨I1.row, scr I1.but⟩ I1.but upd_same e1 l1 a1 e2 l2 a2 I1.hS.2 I1.hN
end
end Ms
set_option Elab.async false
set_option linter.all false
set_option maxRecDepth 100000
set_option maxHeartbeats 4000000
namespace Ms
open PySem PySem.Spec PyProof.Rows L2
/-! ### min, max of a tuple of ints -/
def rMinT (K : PySem.W.Frag) : List V → Hp → VK → Prop := fun vs H Q => ∃ (a : Addr) (n : Int) (ns : List Int), vs = [V.ref a] ∧ SqT K H a ((n :: ns).map V.int) ∧ Q (.int (ns.foldl min n)) H
def rMaxT (K : PySem.W.Frag) : List V → Hp → VK → Prop := fun vs H Q => ∃ (a : Addr) (n : Int) (ns : List Int), vs = [V.ref a] ∧ SqT K H a ((n :: ns).map V.int) ∧ Q (.int (ns.foldl max n)) H
theorem reads_nums {h : Heap} : ∀ {ns : List Int} {us : List Value}, Vals (ns.map V.int) us → ReadsAll h us (ns.map PyData.int) []
  | [], _, r => by rw [List.map_nil] at r; cases r; exact .nil
  | n :: ns, _, r => by
    rw [List.map_cons] at r
    cases r with
    | cons a b =>
      obtain ⟨t, rfl⟩ := a
      exact .cons (as := []) (bs := []) (.int n t) (reads_nums b)
theorem alike_nums (ns : List Int) : PySem.W.AlikeAll (ns.map PyData.int) := ⟨fun x hx y hy => by
  obtain ⟨i, _, rfl⟩ := List.mem_map.mp hx
  obtain ⟨j, _, rfl⟩ := List.mem_map.mp hy
  rfl, fun x hx => by
  obtain ⟨i, _, rfl⟩ := List.mem_map.mp hx
  intro z
  cases z⟩
theorem depth_nums : ∀ ns : List Int, PyData.depthAll (ns.map PyData.int) = 0
  | [] => rfl
  | n :: ns => by
    show max (PyData.depth (.int n)) (PyData.depthAll (ns.map PyData.int)) = 0
    rw [depth_nums ns]
    rfl
section
variable {X : Cx}
theorem cr_minT (hc : X.calm = true) (hu : X.A.units + 1 < cLine) : CallR X (.builtin "min") (rMinT X.K) := by
  intro pins s σ H vs us Q I r h
  obtain ⟨a, n, ns, rfl, hs, q⟩ := h
  obtain ⟨its, rv, hl, _⟩ := I.tuple hs
  rw [Vals.ref1 r]
  have hd := depth_nums (n :: ns)
  refine PySem.W.min_tuple_data (x := .int n) (xs := ns.map PyData.int) (I.ok.hd hc) hl (reads_nums (ns := n :: ns) rv) (alike_nums (n :: ns)) ?_ fun i v h' tk bs hi hr hk => ?_
  · rw [show (PyData.int n :: ns.map PyData.int) = (n :: ns).map PyData.int from rfl, hd]
    omega
  · rw [PySem.W.minD_ints] at hr
    cases hr with
    | int _ t => exact ⟨.int _, H, I.kept hk, ⟨t, rfl⟩, q⟩
theorem cr_maxT (hc : X.calm = true) (hu : X.A.units + 1 < cLine) : CallR X (.builtin "max") (rMaxT X.K) := by
  intro pins s σ H vs us Q I r h
  obtain ⟨a, n, ns, rfl, hs, q⟩ := h
  obtain ⟨its, rv, hl, _⟩ := I.tuple hs
  rw [Vals.ref1 r]
  have hd := depth_nums (n :: ns)
  refine PySem.W.max_tuple_data (x := .int n) (xs := ns.map PyData.int) (I.ok.hd hc) hl (reads_nums (ns := n :: ns) rv) (alike_nums (n :: ns)) ?_ fun i v h' tk bs hi hr hk => ?_
  · rw [show (PyData.int n :: ns.map PyData.int) = (n :: ns).map PyData.int from rfl, hd]
    omega
  · rw [PySem.W.maxD_ints] at hr
    cases hr with
    | int _ t => exact ⟨.int _, H, I.kept hk, ⟨t, rfl⟩, q⟩
end
theorem le_min : ∀ (ns : List Int) (n c : Int), c ≤ ns.foldl min n ↔ c ≤ n ∧ ∀ y ∈ ns, c ≤ y
  | [], n, c => ⟨fun h => ⟨h, fun y hy => nomatch hy⟩, fun h => h.1⟩
  | m :: ns, n, c => by
    rw [List.foldl_cons, le_min ns (min n m) c]
    constructor
    · rintro ⟨h1, h2⟩
      refine ⟨by omega, fun y hy => ?_⟩
      rcases List.mem_cons.mp hy with e | e
      · rw [e]; omega
      · exact h2 y e
    · rintro ⟨h1, h2⟩
      have := h2 m List.mem_cons_self
      exact ⟨by omega, fun y hy => h2 y (List.mem_cons_of_mem _ hy)⟩
theorem max_le : ∀ (ns : List Int) (n c : Int), ns.foldl max n ≤ c ↔ n ≤ c ∧ ∀ y ∈ ns, y ≤ c
  | [], n, c => ⟨fun h => ⟨h, fun y hy => nomatch hy⟩, fun h => h.1⟩
  | m :: ns, n, c => by
    rw [List.foldl_cons, max_le ns (max n m) c]
    constructor
    · rintro ⟨h1, h2⟩
      refine ⟨by omega, fun y hy => ?_⟩
      rcases List.mem_cons.mp hy with e | e
      · rw [e]; omega
      · exact h2 y e
    · rintro ⟨h1, h2⟩
      have := h2 m List.mem_cons_self
      exact ⟨by omega, fun y hy => h2 y (List.mem_cons_of_mem _ hy)⟩
end Ms
set_option Elab.async false
set_option linter.all false
set_option maxRecDepth 100000
set_option maxHeartbeats 4000000
namespace Ms
open PySem PySem.Spec PyProof.Rows L2
/-! ### _law_is_vector, _law_is_note -/
def plainInt (d : PyData) : Bool := isInt d && !isBool d
def isVec (d : PyData) (n : Int) : Bool := match d with
  | .tuple ds => decide (V.int ds.length = V.int n) && (List.range ds.length).all fun i => plainInt (ds[i]?.getD .none)
  | _ => false
theorem scIsVec : FnScope ["_law_value", "_law_size", "_law_x"] ["_law_value", "_law_size"] (defScope sIsVec) := ⟨rfl, rfl, rfl, by decide +kernel, rfl, by decide +kernel, by decide +kernel⟩
theorem scLIsNote : FnScope ["_law_value", "_law_sign"] ["_law_value"] (defScope sLIsNote) := ⟨rfl, rfl, rfl, by decide +kernel, rfl, by decide +kernel, by decide +kernel⟩
def spIsVec : Sp := fun vs H Q _ => ∃ v d n, vs = [v, .int n] ∧ Da H v d ∧ n ≤ 100000 ∧ ∀ H', Same H H' → Q (.bl (isVec d n)) H'
theorem plain_int {d : PyData} (h : plainInt d = true) : ∃ i, d = .int i := by
  cases d with
  | int i => exact ⟨i, rfl⟩
  | none => cases h
  | bool _ => cases h
  | str _ => cases h
  | list _ => cases h
  | tuple _ => cases h
  | dict _ => cases h
theorem isIn_plain {d : PyData} {a c : Int} (h : plainInt d = false) : isIn d a c = false := by
  cases d with
  | int i => cases h
  | _ => rfl
theorem isVec_two {h sr : PyData} : isVec (.tuple [h, sr]) 2 = (plainInt h && plainInt sr) := by
  show (decide (V.int 2 = V.int 2) && (plainInt h && (plainInt sr && true))) = _
  rw [decide_eq_true rfl, Bool.true_and, Bool.and_true]
theorem isVec_one {u : PyData} : isVec (.tuple [u]) 1 = plainInt u := by
  show (decide (V.int 1 = V.int 1) && (plainInt u && true)) = _
  rw [decide_eq_true rfl, Bool.true_and, Bool.and_true]
theorem plain_all : ∀ {ds : List PyData}, (∀ i < ds.length, plainInt (ds[i]?.getD .none) = true) → ∃ ns : List Int, ds = ns.map PyData.int
  | [], _ => ⟨[], rfl⟩
  | d :: ds, h => by
    obtain ⟨i, e⟩ := plain_int (h 0 (by simp))
    have e' : d = .int i := by simpa using e
    obtain ⟨ns, e2⟩ := plain_all (ds := ds) fun i hi => by
      have := h (i + 1) (by simpa using hi)
      simpa using this
    exact ⟨i :: ns, by rw [e', e2]; rfl⟩
theorem isVec_ints {p : PyData} {n : Nat} (h : isVec p n = true) : ∃ ns : List Int, p = .tuple (ns.map PyData.int) ∧ ns.length = n := by
  cases p with
  | tuple ds =>
    have h1 : (decide (V.int ds.length = V.int n) && (List.range ds.length).all fun i => plainInt (ds[i]?.getD .none)) = true := h
    rw [Bool.and_eq_true] at h1
    have hn := V.int.inj (of_decide_eq_true h1.1)
    obtain ⟨ns, rfl⟩ := plain_all fun i hi => (List.all_eq_true.mp h1.2) i (List.mem_range.mpr hi)
    refine ⟨ns, rfl, ?_⟩
    rw [List.length_map] at hn
    omega
  | none => cases h
  | bool _ => cases h
  | str _ => cases h
  | list _ => cases h
  | int _ => cases h
  | dict _ => cases h
theorem isPast_vec {p : PyData} (h : isVec p 8 = false) : isPast p = false := by
  cases p with
  | tuple ds =>
    have h1 : (decide (V.int ds.length = V.int 8) && (List.range ds.length).all fun i => plainInt (ds[i]?.getD .none)) = false := h
    show (decide (V.int ds.length = V.int 8) && (List.range ds.length).all fun i => isIn (ds[i]?.getD .none) 0 134217727) = false
    by_cases h8 : V.int (ds.length : Int) = V.int 8
    · rw [decide_eq_true h8, Bool.true_and] at h1 ⊢
      rw [List.all_eq_false] at h1 ⊢
      obtain ⟨i, hi, e⟩ := h1
      exact ⟨i, hi, by rw [isIn_plain (Bool.eq_false_iff.mpr e)]; exact Bool.false_ne_true⟩
    · rw [decide_eq_false h8, Bool.false_and]
  | _ => rfl
theorem isPast_ints {n : Int} {ns : List Int} (h8 : (n :: ns).length = 8) : isPast (.tuple ((n :: ns).map PyData.int)) = (decide (0 ≤ ns.foldl min n) && decide (ns.foldl max n ≤ 134217727)) := by
  have e : isPast (.tuple ((n :: ns).map PyData.int)) = (decide (V.int (((n :: ns).map PyData.int).length : Nat) = V.int 8) && (List.range ((n :: ns).map PyData.int).length).all fun i => isIn (((n :: ns).map PyData.int)[i]?.getD .none) 0 134217727) := rfl
  have hl : V.int ((((n :: ns).map PyData.int).length : Nat) : Int) = V.int 8 := by rw [List.length_map, h8]; rfl
  rw [e, decide_eq_true hl, Bool.true_and]
  rw [Bool.eq_iff_iff, Bool.and_eq_true, decide_eq_true_eq, decide_eq_true_eq, le_min, max_le, List.all_eq_true]
  constructor
  · intro h
    have key : ∀ y ∈ n :: ns, 0 ≤ y ∧ y ≤ 134217727 := fun y hy => by
      obtain ⟨i, hi, ey⟩ := List.getElem_of_mem hy
      have := h i (List.mem_range.mpr (by rw [List.length_map]; exact hi))
      rw [List.getElem?_map, List.getElem?_eq_getElem hi, ey] at this
      obtain ⟨j, ej, h1, h2⟩ := isIn_int this
      cases ej
      exact ⟨h1, h2⟩
    exact ⟨⟨(key n List.mem_cons_self).1, fun y hy => (key y (List.mem_cons_of_mem _ hy)).1⟩, (key n List.mem_cons_self).2, fun y hy => (key y (List.mem_cons_of_mem _ hy)).2⟩
  · rintro ⟨⟨a1, a2⟩, b1, b2⟩ i hi
    have hi' : i < (n :: ns).length := by
      have := List.mem_range.mp hi
      rwa [List.length_map] at this
    rw [List.getElem?_map, List.getElem?_eq_getElem hi']
    show (decide (0 ≤ (n :: ns)[i]) && decide ((n :: ns)[i] ≤ 134217727)) = true
    have hm : (n :: ns)[i] ∈ n :: ns := List.getElem_mem hi'
    have : 0 ≤ (n :: ns)[i] ∧ (n :: ns)[i] ≤ 134217727 := by
      rcases List.mem_cons.mp hm with z | z
      · rw [z]; exact ⟨a1, b1⟩
      · exact ⟨a2 _ z, b2 _ z⟩
    rw [decide_eq_true this.1, decide_eq_true this.2]
    rfl
theorem str_empty {z : Str} : (V.str z = V.str "") ↔ z.length = 0 := by
  constructor
  · intro h
    have e := V.str.inj h
    rw [e]; rfl
  · intro h
    obtain ⟨cps⟩ := z
    have h' : cps.size = 0 := h
    have e : cps = #[] := Array.size_eq_zero_iff.mp h'
    rw [e]; rfl
theorem isKey_eq {z : Str} : isKey (.str z) = (decide ((1 : Int) ≤ z.length) && decide ((z.length : Int) ≤ 40) && okSigns z) := by
  show (decide ((z.length : Int) ≤ 40) && okSigns z && !decide (V.str z = V.str "")) = _
  have e : (!decide (V.str z = V.str "")) = decide ((1 : Int) ≤ z.length) := by
    by_cases h : V.str z = V.str ""
    · rw [decide_eq_true h, decide_eq_false (by have := str_empty.mp h; omega)]; rfl
    · rw [decide_eq_false h, decide_eq_true (by
        have : z.length ≠ 0 := fun e => h (str_empty.mpr e)
        omega)]; rfl
  rw [e]
  cases decide ((1 : Int) ≤ z.length) <;> cases decide ((z.length : Int) ≤ 40) <;> cases okSigns z <;> rfl
section
variable {P : Program} {w : World} {K : PySem.W.Frag} {mg : Str → Option Value} {base : Heap}
theorem does_is_vec (F : At K mg "_law_is_vector" sIsVec ["_law_value", "_law_size"]) (b : Bl mg) : Does P w K mg base CX0 1 "_law_is_vector" ["_law_value", "_law_size"] spIsVec := by
  obtain ⟨f, fd, g, F, bi⟩ := F
  refine ⟨f, fd, g, F.kp, bi, F.ok scIsVec (fun vs H Q E h => ?_) (fun cdv A outer s H vs Q E hr h => ?_)⟩
  · obtain ⟨v, d, n, rfl, _⟩ := h
    rfl
  · obtain ⟨v, d, n, rfl, hd, hz, q⟩ := h
    have nd := scIsVec.nd
    refine ⟨_, pss_cons (ps_if (pw_or (pt_not (pt_val (pe_callB call_isi (by rfl) b.isi boot_isinstance (pa_cons (pv 0) (pa_cons (pe_bltn (v := .ty "tuple") (by rfl) b.tup boot_tuple rfl) pa_nil)))))
        (pw_or1 (pt_cmpR op_ne (pe_callB call_len_seq (by rfl) b.len boot_len (pa_cons (pv 0) pa_nil)) (pv 1) (nomark _)))).pt (pss_one (ps_ret pe_bl)) pss_nil)
      (pss_one (ps_ret (pe_cmpR (op_eqNil (Nat.lt_of_succ_lt (hu_of hr))) (pe_lc (own := [("_law_x", 2)]) (g := gName 2) (by rfl) nd (pi_tup (pv 0)) (blkOk_by (own := [("_law_x", 2)]) (N := ["_law_value", "_law_size", "_law_x"]) (sc := defScope sIsVec) (by decide +kernel))
        (fun _ _ _ _ _ => pg_name (i := 2) nd rfl (Or.inl rfl))
        (fun _ _ _ _ _ => pts_one (pw_or (pt_not (pt_val (pe_callB (r := rIsi K) call_isi (by rfl) b.isi boot_isinstance (pa_cons (pv 2) (pa_cons (pe_bltn (v := .ty "int") (by rfl) b.int boot_int rfl) pa_nil)))))
          (pw_or1 (pt_val (pe_callB (r := rIsi K) call_isi (by rfl) b.isi boot_isinstance (pa_cons (pv 2) (pa_cons (pe_bltn (v := .ty "bool") (by rfl) b.bool boot_bool rfl) pa_nil)))))).pt)
        (fun _ _ _ _ _ => pv 2)) (pe_lst pa_nil) (nomark _)))), ?_⟩
    refine ⟨v, rfl, _, _, _, _, _, rfl, .ty _, hd.ty, kT hd, _, rfl, ?_⟩
    cases hd with
    | @tup a xs ds e ha =>
      have hl := ha.length
      refine iteF ⟨_, rfl, a, xs, rfl, .inr (SqT.of e), _, rfl, rfl, _, rfl, ?_⟩
      have e0 : isVec (.tuple ds) n = (decide (V.int ds.length = V.int n) && (List.range ds.length).all fun i => plainInt (ds[i]?.getD .none)) := rfl
      by_cases h8 : V.int (xs.length : Int) = V.int n
      · rw [decide_eq_true h8]
        rw [hl] at h8
        rw [decide_eq_true h8, Bool.true_and] at e0
        have hz' : ds.length ≤ 100000 := by
          have := V.int.inj h8
          omega
        refine iteF ⟨_, rfl, a, rfl, ⟨xs, SqT.of e⟩, fun D hD => lc_flt (sl := 2) (walk_tup (xs := xs)) (fun i => xs[i]?.getD .non) (fun i => !plainInt (ds[i]?.getD .none)) (fun i H x H' hi y => ⟨y.1, (getD_of y.2).symm⟩) hD (Nat.le_of_lt (small (by omega))) (Nat.lt_succ_self 2) (fun _ s => SqT.of (s _ _ e)) (fun i H Q hi s k => ?_) (fun H s e1 => ?_)⟩
        · obtain ⟨d, e2, hd⟩ := ha.get (List.getElem?_eq_getElem hi)
          rw [e2] at k
          have hd2 : Da H (xs[i]?.getD .non) d := by
            rw [List.getElem?_eq_getElem hi]
            exact Da.same s _ _ hd
          refine ⟨xs[i]?.getD .non, rfl, _, _, _, _, _, rfl, .ty _, hd2.ty, kI hd2, _, rfl, ?_⟩
          have ek : (!plainInt (Option.getD (some d) .none)) = (!isInt d || isBool d) := by
            show (!(isInt d && !isBool d)) = _
            rw [Bool.not_and, Bool.not_not]
          rw [ek] at k
          cases hI : isInt d with
          | false =>
            rw [hI] at k
            exact iteT (k H (Same.refl H))
          | true =>
            rw [hI] at k
            exact iteF ⟨_, rfl, _, _, _, _, _, rfl, .ty _, hd2.ty, kB hd2, _, rfl, k H (Same.refl H)⟩
        · refine ⟨Nat.zero_le _, fun o no => ⟨D, o, _, rfl, rfl, SqL.of ((upd_ne (ne_of_none e1 no)).trans e1), SqL.of upd_same, ?_⟩⟩
          rw [flt_empty, hl]
          simp only [Bool.not_not]
          rw [e0] at q
          exact q _ (s.trans (same_upd no))
      · rw [decide_eq_false h8]
        rw [hl] at h8
        rw [decide_eq_false h8, Bool.false_and] at e0
        rw [e0] at q
        exact iteT (q H (Same.refl H))
    | int i => exact iteT (q H (Same.refl H))
    | bl x => exact iteT (q H (Same.refl H))
    | non => exact iteT (q H (Same.refl H))
    | str _ _ => exact iteT (q H (Same.refl H))
    | lst _ _ => exact iteT (q H (Same.refl H))
theorem does_lis_note (F : At K mg "_law_is_note" sLIsNote ["_law_value"]) (b : Bl mg) (D1 : Does P w K mg base CX0 1 "_law_is_vector" ["_law_value", "_law_size"] spIsVec) (D2 : Does P w K mg base CX0 1 "_law_signs_row" [] spSignsRow) :
    Does P w K mg base CX0 2 "_law_is_note" ["_law_value"] spIsNote := by
  obtain ⟨f, fd, g, F, bi⟩ := F
  obtain ⟨f1, fd1, g1, k1, b1, G1⟩ := D1
  obtain ⟨f2, fd2, g2, k2, b2, G2⟩ := D2
  refine ⟨f, fd, g, F.kp, bi, F.ok scLIsNote (fun vs H Q E h => ?_) (fun cdv A outer s H vs Q E hr h => ?_)⟩
  · obtain ⟨v, d, rfl, _⟩ := h
    rfl
  · obtain ⟨v, d, rfl, hd, q⟩ := h
    have nd := scLIsNote.nd
    have hu := hu_of hr
    have hu0 := Nat.lt_of_succ_lt hu
    refine ⟨_, pss_cons (ps_if (pw_or (pt_not (pt_val (pe_callB call_isi (by rfl) b.isi boot_isinstance (pa_cons (pv 0) (pa_cons (pe_bltn (v := .ty "tuple") (by rfl) b.tup boot_tuple rfl) pa_nil)))))
        (pw_or (pt_cmpR op_ne (pe_callB call_len_seq (by rfl) b.len boot_len (pa_cons (pv 0) pa_nil)) pe_int (nomark _))
        (pw_or1 (pt_not (pt_val (pe_callB call_isi (by rfl) b.isi boot_isinstance (pa_cons (pe_ix ix_tup (pv 0) pe_int (fun _ _ => rfl)) (pa_cons (pe_bltn (v := .ty "str") (by rfl) b.str boot_str rfl) pa_nil)))))))).pt (pss_one (ps_ret pe_bl)) pss_nil)
      (pss_cons (ps_if (pt_not (pt_chain op_le op_le pe_int (pe_callB call_len_str (by rfl) b.len boot_len (pa_cons (pe_ix ix_tup (pv 0) pe_int (fun _ _ => rfl)) pa_nil)) pe_int)) (pss_one (ps_ret pe_bl)) pss_nil)
      (pss_cons (ps_if (pw_or (pt_cmpR (op_neNil hu0) (pe_lc (own := [("_law_sign", 1)]) (g := gName 1) (by rfl) nd (pi_str (pe_ix ix_tup (pv 0) pe_int (fun _ _ => rfl))) (blkOk_by (own := [("_law_sign", 1)]) (N := ["_law_value", "_law_sign"]) (sc := defScope sLIsNote) (by decide +kernel))
            (fun _ _ _ _ _ => pg_name (i := 1) nd rfl (Or.inl rfl)) (fun _ _ _ _ _ => pts_one (pt_cmpR op_notIn_sign (pv 1) (pe_call0 G2 hr (by rfl) g2 k2 b2 .nil pass0) (by rfl))) (fun _ _ _ _ _ => pv 1)) (pe_lst pa_nil) (nomark _))
          (pw_or1 (pt_not (pt_val (pe_call G1 hr (by rfl) g1 k1 b1 .nil pass0 (pa_cons (pe_slice sl_tup (pv 0) (po_some pe_int) (po_some pe_int)) (pa_cons pe_int pa_nil))))))).pt (pss_one (ps_ret pe_bl)) pss_nil)
      (pss_cons (ps_if (pt_not (pt_val (pe_call G1 hr (by rfl) g1 k1 b1 .nil pass0 (pa_cons (pe_ix ix_tup (pv 0) pe_int (fun _ _ => rfl)) (pa_cons pe_int pa_nil))))) (pss_one (ps_ret pe_bl)) pss_nil)
      (pss_cons (ps_if (pw_or (pt_not (pt_val (pe_callB call_isi (by rfl) b.isi boot_isinstance (pa_cons (pe_ix ix_tup (pv 0) pe_int (fun _ _ => rfl)) (pa_cons (pe_bltn (v := .ty "tuple") (by rfl) b.tup boot_tuple rfl) pa_nil)))))
          (pw_or (pt_not (pt_chain op_le op_lt pe_int (pe_ix ix_tup (pv 0) pe_int (fun _ _ => rfl)) pe_int)) (pw_or1 (pt_not (pt_chain op_le op_lt pe_int (pe_ix ix_tup (pv 0) pe_int (fun _ _ => rfl)) pe_int))))).pt (pss_one (ps_ret pe_bl)) pss_nil)
      (pss_cons (ps_if (pw_or (pt_cmpR op_lt (pe_callB (cr_minT rfl hu) (by rfl) b.min (by decide +kernel) (pa_cons (pe_ix ix_tup (pv 0) pe_int (fun _ _ => rfl)) pa_nil)) pe_int (nomark _))
          (pw_or (pt_cmpR op_gt (pe_callB (cr_maxT rfl hu) (by rfl) b.max (by decide +kernel) (pa_cons (pe_ix ix_tup (pv 0) pe_int (fun _ _ => rfl)) pa_nil)) pe_int (nomark _))
          (pw_or1 (pt_cmpR op_ge (pe_ix ix_tup (pe_ix ix_tup (pv 0) pe_int (fun _ _ => rfl)) (pe_ix ix_tup (pv 0) pe_int (fun _ _ => rfl)) (fun _ _ => rfl)) (pe_ix ix_tup (pv 0) pe_int (fun _ _ => rfl)) (nomark _))))).pt (pss_one (ps_ret pe_bl)) pss_nil)
      (pss_cons (ps_if (pt_val (pe_callB call_isi (by rfl) b.isi boot_isinstance (pa_cons (pe_ix ix_tup (pv 0) pe_int (fun _ _ => rfl)) (pa_cons (pe_bltn (v := .ty "str") (by rfl) b.str boot_str rfl) pa_nil))))
          (pss_one (ps_ret (pe_and (pe_cmpR op_le (pe_callB call_len_str (by rfl) b.len boot_len (pa_cons (pe_ix ix_tup (pv 0) pe_int (fun _ _ => rfl)) pa_nil)) pe_int (nomark _))
            (pe_one (pe_cmpR (op_eqNil hu0) (pe_lc (own := [("_law_sign", 1)]) (g := gName 1) (by rfl) nd (pi_str (pe_ix ix_tup (pv 0) pe_int (fun _ _ => rfl))) (blkOk_by (own := [("_law_sign", 1)]) (N := ["_law_value", "_law_sign"]) (sc := defScope sLIsNote) (by decide +kernel))
              (fun _ _ _ _ _ => pg_name (i := 1) nd rfl (Or.inl rfl)) (fun _ _ _ _ _ => pts_one (pt_cmpR op_notIn_sign (pv 1) (pe_call0 G2 hr (by rfl) g2 k2 b2 .nil pass0) (by rfl))) (fun _ _ _ _ _ => pv 1)) (pe_lst pa_nil) (nomark _)))))) pss_nil)
      (pss_one (ps_ret (pe_or (pe_cmpR op_isN (pe_ix ix_tup (pv 0) pe_int (fun _ _ => rfl)) pe_non (nomark _))
        (pe_one (pe_and (pe_call G1 hr (by rfl) g1 k1 b1 .nil pass0 (pa_cons (pe_slice sl_tup (pv 0) (po_some pe_int) po_none) (pa_cons pe_int pa_nil)))
          (pe_one (pe_cmpR op_le (pe_callB call_abs (by rfl) b.abs (by decide +kernel) (pa_cons (pe_ix ix_tup (pv 0) pe_int (fun _ _ => rfl)) pa_nil)) (pe_op op_shl pe_int pe_int) (nomark _)))))))))))))), ?_⟩
    -- the signs of a text
    have signs : ∀ {σ : L2.St} {H : Hp} {D : Addr} {z : Str} {Qd : Hp → Prop}, z.length ≤ 1000 → σ.length = 2 → H D = none → (∀ H', Same H H' → ∀ acc, H' D = some (.lst acc) → acc.isEmpty = okSigns z → Qd H') →
        ∃ W : Nat → Nat → Hp → Prop, (∃ m, W 0 m (upd H D (.lst []))) ∧ ∀ i m G, W i m G →
        ((Its z).stop i G ∧ Qd G) ∨ ((Its z).go i G ∧ ∃ Nx : Hp → Prop, (∀ H', Nx H' → ∃ m', m' < m ∧ W (i + 1) m' H') ∧ ∀ x H', (Its z).yld i G x H' → gName 1 x (wipe σ [1]) H' fun σ2 H2 => wipe σ2 [1] = wipe σ [1] ∧
          (tTest (tOp (fun x y H Q => ∃ (c : Nat) (z : Str), x = .str ⟨#[c]⟩ ∧ y = .str z ∧ Q (.bl (!decide (c ∈ z.cps.toList))) H) (tVar 1) (tCall spSignsRow [] E0 tNil))) σ2 H2 fun b H3 =>
          if b = true then tVar 1 σ2 H3 fun y H4 => ∃ acc, H4 D = some (.lst acc) ∧ acc.length < sizeLine ∧ Nx (upd H4 D (.lst (acc ++ [y]))) else Nx H3) := fun {σ H D z Qd} hz hσ hD k => by
      refine lc_flt (sl := 1) walk_str (fun i => .str ⟨#[z.cps[i]!]⟩) (fun i => !decide (z.cps[i]! ∈ signsText.cps.toList)) (fun i H x H' hi y => ?_) hD (Nat.le_trans hz (by decide)) (by rw [hσ]; decide) (fun _ _ => trivial) (fun i H Q hi s k => ?_) (fun G s e => ?_)
      · obtain ⟨rfl, c, e1, e2⟩ := y
        refine ⟨rfl, ?_⟩
        rw [e2]
        simp [Array.getElem!_eq_getD, Array.getD_eq_getD_getElem?, e1]
      · refine ⟨.str ⟨#[z.cps[i]!]⟩, ?_, rfl, _, _, rfl, rfl, _, rfl, k H (Same.refl H)⟩
        have : 1 < (wipe σ [1]).length := by rw [wipe_length, hσ]; decide
        rw [List.getElem?_set_self this]
      · refine k G s _ e ?_
        rw [flt_empty]
        simp only [Bool.not_not]
        rfl
    refine ⟨v, rfl, _, _, _, _, _, rfl, .ty _, hd.ty, kT hd, _, rfl, ?_⟩
    cases hd with
    | int i => exact iteT (q H (Same.refl H))
    | bl x => exact iteT (q H (Same.refl H))
    | non => exact iteT (q H (Same.refl H))
    | str _ _ => exact iteT (q H (Same.refl H))
    | lst _ _ => exact iteT (q H (Same.refl H))
    | @tup a xs ds e ha =>
    have hl := ha.length
    refine iteF ⟨_, rfl, a, xs, rfl, .inr (SqT.of e), rfl, _, rfl, ?_⟩
    by_cases h5 : V.int (xs.length : Int) = V.int 5
    case neg =>
      rw [decide_eq_false h5]
      rw [isNote_len (fun z => h5 (by rw [hl, z]; rfl))] at q
      exact iteT (q H (Same.refl H))
    rw [decide_eq_true h5]
    have h5n : ds.length = 5 := by
      have := V.int.inj h5
      omega
    obtain ⟨k, h, sr, p, u, rfl⟩ := five h5n
    cases ha with | cons dk ha => cases ha with | cons dh ha => cases ha with | cons dsr ha => cases ha with | cons dp ha => cases ha with | cons du ha =>
    cases ha
    rename_i vk vh vs vp vu
    have e0 : isNote (.tuple [k, h, sr, p, u]) = (isKey k && isIn h 0 7 && isIn sr 1 134217727 && isPast p && decide (pastAt p (numD h) < numD sr) && isValue u) := rfl
    rw [e0] at q
    refine iteF ⟨_, rfl, a, _, 0, vk, rfl, rfl, SqT.of e, atI_nat (j := 0) rfl, _, _, _, _, _, rfl, .ty _, dk.ty, kS dk, _, rfl, ?_⟩
    cases dk with
    | int i => exact iteT (q H (Same.refl H))
    | bl x => exact iteT (q H (Same.refl H))
    | non => exact iteT (q H (Same.refl H))
    | lst _ _ => exact iteT (q H (Same.refl H))
    | tup _ _ => exact iteT (q H (Same.refl H))
    | str z hz =>
    have hz2 : z.length ≤ sizeLine := Nat.le_trans hz (by decide)
    rw [isKey_eq] at q
    refine iteF ⟨_, rfl, a, _, 0, .str z, rfl, rfl, SqT.of e, atI_nat (j := 0) rfl, z, rfl, hz2, _, _, rfl, rfl, _, rfl, ?_⟩
    by_cases q1 : (1 : Int) ≤ z.length
    case neg =>
      rw [decide_eq_false q1] at q ⊢
      simp only [Bool.false_and] at q
      exact iteF ⟨_, rfl, iteT (q H (Same.refl H))⟩
    rw [decide_eq_true q1] at q ⊢
    refine iteT ⟨_, _, rfl, rfl, _, rfl, ?_⟩
    by_cases q2 : (z.length : Int) ≤ 40
    case neg =>
      rw [decide_eq_false q2] at q ⊢
      simp only [Bool.false_and, Bool.and_false] at q
      exact iteT (q H (Same.refl H))
    rw [decide_eq_true q2] at q ⊢
    simp only [Bool.true_and] at q
    refine iteF ⟨_, rfl, a, _, 0, .str z, rfl, rfl, SqT.of e, atI_nat (j := 0) rfl, z, rfl, fun D hD => signs hz rfl hD fun H1 s1 acc eD hacc => ?_⟩
    refine ⟨Nat.zero_le _, fun o no => ⟨D, o, acc, rfl, rfl, SqL.of ((upd_ne (ne_of_none eD no)).trans eD), SqL.of upd_same, _, rfl, ?_⟩⟩
    have s2 := s1.trans (same_upd (o := .lst []) no)
    rw [hacc]
    by_cases q3 : okSigns z = true
    case neg =>
      rw [Bool.eq_false_iff.mpr q3] at q ⊢
      simp only [Bool.false_and] at q
      exact iteT (q _ s2)
    rw [q3] at q ⊢
    simp only [Bool.true_and] at q
    -- value[1:3]
    refine iteF ⟨_, rfl, 1, rfl, 3, rfl, a, _, rfl, SqT.of (s2 _ _ e), (show ¬ (HT.sIx 5 0 (some 1) = 0 ∧ HT.sIx 5 5 (some 3) = 5) by decide), fun c1 n1 => ?_⟩
    have s3 := s2.trans (same_upd (o := .tup [vh, vs]) n1)
    refine ⟨.ref c1, .tuple [h, sr], 2, rfl, .tup upd_same (.cons (Da.same s3 _ _ dh) (.cons (Da.same s3 _ _ dsr) .nil)), by decide, fun H4 s4 => ⟨_, rfl, ?_⟩⟩
    have s5 := s3.trans s4
    rw [isVec_two]
    by_cases p1 : plainInt h = true
    case neg =>
      rw [isIn_plain (Bool.eq_false_iff.mpr p1)] at q
      rw [Bool.eq_false_iff.mpr p1]
      simp only [Bool.false_and] at q
      exact iteT (q _ s5)
    by_cases p2 : plainInt sr = true
    case neg =>
      rw [isIn_plain (Bool.eq_false_iff.mpr p2)] at q
      rw [Bool.eq_false_iff.mpr p2, Bool.and_false]
      simp only [Bool.false_and, Bool.and_false] at q
      exact iteT (q _ s5)
    rw [p1, p2]
    obtain ⟨i, rfl⟩ := plain_int p1
    obtain ⟨j, rfl⟩ := plain_int p2
    cases dh
    cases dsr
    refine iteF ⟨_, rfl, a, _, 3, vp, rfl, rfl, SqT.of (s5 _ _ e), atI_nat (j := 3) rfl, vp, p, 8, rfl, Da.same s5 _ _ dp, by decide, fun H6 s6 => ⟨_, rfl, ?_⟩⟩
    have s7 := s5.trans s6
    by_cases q4 : isVec p 8 = true
    case neg =>
      rw [isPast_vec (Bool.eq_false_iff.mpr q4)] at q
      rw [Bool.eq_false_iff.mpr q4]
      simp only [Bool.false_and, Bool.and_false] at q
      exact iteT (q _ s7)
    rw [q4]
    obtain ⟨nl, rfl, h8⟩ := isVec_ints (n := 8) q4
    cases nl with
    | nil => cases h8
    | cons n ns =>
    have dp' := Da.same s7 _ _ dp
    cases dp with | @tup pa px _ ep0 hp =>
    have epx : px = (n :: ns).map V.int := DaAll.ints_of hp
    subst epx
    have ep := s7 _ _ ep0
    have e7 := s7 _ _ e
    refine iteF ⟨_, rfl, a, _, 3, .ref pa, rfl, rfl, SqT.of e7, atI_nat (j := 3) rfl, _, _, _, _, _, rfl, .ty _, dp'.ty, kT dp', _, rfl, iteF ?_⟩
    rw [show isIn (.int i) 0 7 = (decide (0 ≤ i) && decide (i ≤ 7)) from rfl, show isIn (.int j) 1 134217727 = (decide (1 ≤ j) && decide (j ≤ 134217727)) from rfl, isPast_ints h8, show numD (.int i) = i from rfl, show numD (.int j) = j from rfl] at q
    refine ⟨_, rfl, a, _, 1, .int i, rfl, rfl, SqT.of e7, atI_nat (j := 1) rfl, _, _, rfl, rfl, _, rfl, ?_⟩
    by_cases a1 : 0 ≤ i
    case neg =>
      rw [decide_eq_false a1] at q ⊢
      simp only [Bool.false_and] at q
      exact iteF ⟨_, rfl, iteT (q _ s7)⟩
    rw [decide_eq_true a1] at q ⊢
    refine iteT ⟨_, _, rfl, rfl, _, rfl, ?_⟩
    by_cases a2 : i ≤ 7
    case neg =>
      rw [decide_eq_false (show ¬ i < 8 by omega)]
      rw [decide_eq_false a2] at q
      simp only [Bool.false_and, Bool.and_false] at q
      exact iteT (q _ s7)
    rw [decide_eq_true (show i < 8 by omega)]
    rw [decide_eq_true a2] at q
    refine iteF ⟨_, rfl, a, _, 2, .int j, rfl, rfl, SqT.of e7, atI_nat (j := 2) rfl, _, _, rfl, rfl, _, rfl, ?_⟩
    by_cases a3 : 1 ≤ j
    case neg =>
      rw [decide_eq_false a3] at q ⊢
      simp only [Bool.false_and, Bool.and_false] at q
      exact iteF ⟨_, rfl, iteT (q _ s7)⟩
    rw [decide_eq_true a3] at q ⊢
    refine iteT ⟨_, _, rfl, rfl, _, rfl, ?_⟩
    by_cases a4 : j ≤ 134217727
    case neg =>
      rw [decide_eq_false (show ¬ j < 134217728 by omega)]
      rw [decide_eq_false a4] at q
      simp only [Bool.false_and, Bool.and_false] at q
      exact iteT (q _ s7)
    rw [decide_eq_true (show j < 134217728 by omega)]
    rw [decide_eq_true a4] at q
    simp only [Bool.true_and, Bool.and_true] at q
    refine iteF ⟨_, rfl, a, _, 3, .ref pa, rfl, rfl, SqT.of e7, atI_nat (j := 3) rfl, pa, n, ns, rfl, SqT.of ep, _, _, rfl, rfl, _, rfl, ?_⟩
    by_cases a5 : 0 ≤ ns.foldl min n
    case neg =>
      rw [decide_eq_true (show ns.foldl min n < 0 by omega)]
      rw [decide_eq_false a5] at q
      simp only [Bool.false_and] at q
      exact iteT (q _ s7)
    rw [decide_eq_false (show ¬ ns.foldl min n < 0 by omega)]
    rw [decide_eq_true a5] at q
    refine iteF ⟨_, rfl, a, _, 3, .ref pa, rfl, rfl, SqT.of e7, atI_nat (j := 3) rfl, pa, n, ns, rfl, SqT.of ep, _, _, rfl, rfl, _, rfl, ?_⟩
    by_cases a6 : ns.foldl max n ≤ 134217727
    case neg =>
      rw [decide_eq_true (show 134217727 < ns.foldl max n by omega)]
      rw [decide_eq_false a6] at q
      simp only [Bool.false_and, Bool.and_false] at q
      exact iteT (q _ s7)
    rw [decide_eq_false (show ¬ 134217727 < ns.foldl max n by omega)]
    rw [decide_eq_true a6] at q
    simp only [Bool.true_and, Bool.and_true] at q
    refine iteF ⟨_, rfl, a, _, 3, .ref pa, rfl, rfl, SqT.of e7, atI_nat (j := 3) rfl, _, rfl, a, _, 1, .int i, rfl, rfl, SqT.of e7, atI_nat (j := 1) rfl, pa, _, i, _, rfl, rfl, SqT.of ep, past_like (ps := n :: ns) h8 a1 a2, _, rfl, a, _, 2, .int j, rfl, rfl, SqT.of e7, atI_nat (j := 2) rfl, _, _, rfl, rfl, _, rfl, ?_⟩
    by_cases a7 : pastAt (.tuple ((n :: ns).map PyData.int)) i < j
    case neg =>
      rw [decide_eq_true (show j ≤ pastAt (.tuple ((n :: ns).map PyData.int)) i by omega)]
      rw [decide_eq_false a7] at q
      simp only [Bool.false_and] at q
      exact iteT (q _ s7)
    rw [decide_eq_false (show ¬ j ≤ pastAt (.tuple ((n :: ns).map PyData.int)) i by omega)]
    rw [decide_eq_true a7] at q
    simp only [Bool.true_and] at q
    -- the value
    have du' := Da.same s7 _ _ du
    refine iteF ⟨_, rfl, a, _, 4, vu, rfl, rfl, SqT.of e7, atI_nat (j := 4) rfl, _, _, _, _, _, rfl, .ty _, du'.ty, kS du', _, rfl, ?_⟩
    -- what is left where it is no text
    have tail : isStr u = false → isValue u = (match u with | .none => true | u => isIn u (-1099511627776) 1099511627776) := fun hs => by
      cases u <;> first | rfl | cases hs
    have last : isStr u = false → ∀ (hn : vu ≠ .non), (∀ H', Same H6 H' → ∀ b, b = isValue u → Q (.bl b) H') := fun hs hn H' s' b hb => by
      rw [hb]; exact q H' (s7.trans s')
    cases du with
    | str y hy =>
      have hy2 : y.length ≤ sizeLine := Nat.le_trans hy (by decide)
      have ev : isValue (.str y) = (decide ((y.length : Int) ≤ 200) && okSigns y) := by
        show ((decide ((y.length : Int) ≤ 200) && okSigns y) || false) = _
        rw [Bool.or_false]
      rw [ev] at q
      refine iteT ⟨_, rfl, a, _, 4, .str y, rfl, rfl, SqT.of e7, atI_nat (j := 4) rfl, y, rfl, hy2, _, _, rfl, rfl, _, rfl, ?_⟩
      by_cases b1 : (y.length : Int) ≤ 200
      case neg =>
        rw [decide_eq_false b1] at q ⊢
        simp only [Bool.false_and] at q
        exact iteF (q _ s7)
      rw [decide_eq_true b1] at q ⊢
      simp only [Bool.true_and] at q
      refine iteT ⟨_, rfl, a, _, 4, .str y, rfl, rfl, SqT.of e7, atI_nat (j := 4) rfl, y, rfl, fun D2 hD2 => signs hy rfl hD2 fun H8 s8 acc2 eD2 hacc2 => ?_⟩
      refine ⟨Nat.zero_le _, fun o2 no2 => ⟨D2, o2, acc2, rfl, rfl, SqL.of ((upd_ne (ne_of_none eD2 no2)).trans eD2), SqL.of upd_same, ?_⟩⟩
      rw [hacc2]
      exact q _ ((s7.trans s8).trans (same_upd no2))
    | non => exact iteF ⟨_, rfl, a, _, 4, .non, rfl, rfl, SqT.of e7, atI_nat (j := 4) rfl, rfl, _, rfl, iteT (q _ s7)⟩
    | int m =>
      refine iteF ⟨_, rfl, a, _, 4, .int m, rfl, rfl, SqT.of e7, atI_nat (j := 4) rfl, rfl, _, rfl, iteF ?_⟩
      refine ⟨_, rfl, 4, rfl, a, _, rfl, SqT.of e7, (show ¬ (HT.sIx 5 0 (some 4) = 0 ∧ HT.sIx 5 5 none = 5) by decide), fun c2 n2 => ?_⟩
      have s8 := s7.trans (same_upd (o := .tup [.int m]) n2)
      refine ⟨.ref c2, .tuple [.int m], 1, rfl, .tup upd_same (.cons (.int m) .nil), by decide, fun H9 s9 => ⟨_, rfl, ?_⟩⟩
      have s10 := s8.trans s9
      rw [isVec_one]
      refine iteT ⟨_, rfl, a, _, 4, .int m, rfl, rfl, SqT.of (s10 _ _ e), atI_nat (j := 4) rfl, m, rfl, _, _, rfl, rfl, ⟨by decide, by decide, by decide⟩, _, _, rfl, rfl, ?_⟩
      have ev : isValue (.int m) = decide ((if m < 0 then -m else m) ≤ 1 * 2 ^ (40 : Int).toNat) := by
        show (false || (decide (-1099511627776 ≤ m) && decide (m ≤ 1099511627776))) = _
        rw [Bool.false_or, show (1 * 2 ^ (40 : Int).toNat : Int) = 1099511627776 from rfl]
        rw [Bool.eq_iff_iff, Bool.and_eq_true, decide_eq_true_eq, decide_eq_true_eq, decide_eq_true_eq]
        constructor
        · rintro ⟨h1, h2⟩
          split <;> omega
        · intro h1
          split at h1 <;> constructor <;> omega
      rw [ev] at q
      exact q _ s10
    | bl x =>
      refine iteF ⟨_, rfl, a, _, 4, .bl x, rfl, rfl, SqT.of e7, atI_nat (j := 4) rfl, rfl, _, rfl, iteF ?_⟩
      refine ⟨_, rfl, 4, rfl, a, _, rfl, SqT.of e7, (show ¬ (HT.sIx 5 0 (some 4) = 0 ∧ HT.sIx 5 5 none = 5) by decide), fun c2 n2 => ?_⟩
      have s8 := s7.trans (same_upd (o := .tup [.bl x]) n2)
      refine ⟨.ref c2, .tuple [.bool x], 1, rfl, .tup upd_same (.cons (.bl x) .nil), by decide, fun H9 s9 => ⟨_, rfl, ?_⟩⟩
      rw [isVec_one]
      exact iteF (q _ (s8.trans s9))
    | @lst b ys es eb hb =>
      refine iteF ⟨_, rfl, a, _, 4, .ref b, rfl, rfl, SqT.of e7, atI_nat (j := 4) rfl, rfl, _, rfl, iteF ?_⟩
      refine ⟨_, rfl, 4, rfl, a, _, rfl, SqT.of e7, (show ¬ (HT.sIx 5 0 (some 4) = 0 ∧ HT.sIx 5 5 none = 5) by decide), fun c2 n2 => ?_⟩
      have s8 := s7.trans (same_upd (o := .tup [.ref b]) n2)
      refine ⟨.ref c2, .tuple [.list es], 1, rfl, .tup upd_same (.cons (Da.same s8 _ _ (.lst eb hb)) .nil), by decide, fun H9 s9 => ⟨_, rfl, ?_⟩⟩
      rw [isVec_one]
      exact iteF (q _ (s8.trans s9))
    | @tup b ys es eb hb =>
      refine iteF ⟨_, rfl, a, _, 4, .ref b, rfl, rfl, SqT.of e7, atI_nat (j := 4) rfl, rfl, _, rfl, iteF ?_⟩
      refine ⟨_, rfl, 4, rfl, a, _, rfl, SqT.of e7, (show ¬ (HT.sIx 5 0 (some 4) = 0 ∧ HT.sIx 5 5 none = 5) by decide), fun c2 n2 => ?_⟩
      have s8 := s7.trans (same_upd (o := .tup [.ref b]) n2)
      refine ⟨.ref c2, .tuple [.tuple es], 1, rfl, .tup upd_same (.cons (Da.same s8 _ _ (.tup eb hb)) .nil), by decide, fun H9 s9 => ⟨_, rfl, ?_⟩⟩
      rw [isVec_one]
      exact iteF (q _ (s8.trans s9))
end
end Ms
set_option Elab.async false
set_option linter.all false
set_option maxRecDepth 100000
set_option maxHeartbeats 4000000
namespace Ms
open PySem PySem.Spec PyProof.Rows L2
/-! ### _law_alike, of the same None or number -/
theorem scAlike : FnScope ["_law_found", "_law_due", "_law_k"] ["_law_found", "_law_due"] (defScope sAlike) := ⟨rfl, rfl, rfl, by decide +kernel, rfl, by decide +kernel, by decide +kernel⟩
def spAlike : Sp := fun vs H Q _ => ∃ v d, vs = [v, v] ∧ Da H v d ∧ (d = .none ∨ ∃ i : Int, d = .int i) ∧ ∀ H', Same H H' → Q (.bl true) H'
section
variable {P : Program} {w : World} {K : PySem.W.Frag} {mg : Str → Option Value} {base : Heap}
theorem does_alike (F : At K mg "_law_alike" sAlike ["_law_found", "_law_due"]) (b : Bl mg) : Does P w K mg base CX0 1 "_law_alike" ["_law_found", "_law_due"] spAlike := by
  obtain ⟨f, fd, g, F, bi⟩ := F
  refine ⟨f, fd, g, F.kp, bi, F.ok scAlike (fun vs H Q E h => ?_) (fun cdv A outer s H vs Q E hr h => ?_)⟩
  · obtain ⟨v, d, rfl, _⟩ := h
    rfl
  · obtain ⟨v, d, rfl, hd, hk, q⟩ := h
    refine ⟨_, pss_cons (ps_if (pt_val (pe_callB call_isiT (by rfl) b.isi boot_isinstance (pa_cons (pv 1) (pa_cons (pe_tup (pa_cons (pe_bltn (v := .ty "tuple") (by rfl) b.tup boot_tuple rfl) (pa_cons (pe_bltn (v := .ty "list") (by rfl) b.lst boot_list rfl) pa_nil))) pa_nil)))) pss_never pss_nil)
      (pss_cons (ps_if (pw_or (pt_cmpR op_isN (pv 1) pe_non (nomark _)) (pw_or1 (pt_val (pe_callB call_isi (by rfl) b.isi boot_isinstance (pa_cons (pv 1) (pa_cons (pe_bltn (v := .ty "str") (by rfl) b.str boot_str rfl) pa_nil)))))).pt
        (pss_one (ps_ret (pe_and (pe_cmpR op_eq (pv 0) (pv 1) (nomark _)) (pe_one (pe_cmpR op_eq (pe_callB call_isi (by rfl) b.isi boot_isinstance (pa_cons (pv 0) (pa_cons (pe_bltn (v := .ty "str") (by rfl) b.str boot_str rfl) pa_nil)))
          (pe_callB call_isi (by rfl) b.isi boot_isinstance (pa_cons (pv 1) (pa_cons (pe_bltn (v := .ty "str") (by rfl) b.str boot_str rfl) pa_nil))) (nomark _)))))) pss_nil)
      (pss_one (ps_ret (pe_and (pe_callB call_isi (by rfl) b.isi boot_isinstance (pa_cons (pv 0) (pa_cons (pe_bltn (v := .ty "int") (by rfl) b.int boot_int rfl) pa_nil)))
        (pe_and (pe_cmpR op_eq (pe_callB call_isi (by rfl) b.isi boot_isinstance (pa_cons (pv 0) (pa_cons (pe_bltn (v := .ty "bool") (by rfl) b.bool boot_bool rfl) pa_nil)))
          (pe_callB call_isi (by rfl) b.isi boot_isinstance (pa_cons (pv 1) (pa_cons (pe_bltn (v := .ty "bool") (by rfl) b.bool boot_bool rfl) pa_nil))) (nomark _))
        (pe_one (pe_cmpR op_eq (pv 0) (pv 1) (nomark _)))))))), ?_⟩
    have k2 : ∀ t : String, kitB t "tuple" = some false → kitB t "list" = some false → PySem.W.kitAny K (.type t) [.type "tuple", .type "list"] = some false := fun t h1 h2 =>
      kitAny_cons (kit_ty h1) (fun _ => kitAny_cons (kit_ty h2) (fun _ => kitAny_nil) (fun z => nomatch z)) (fun z => nomatch z)
    refine ⟨v, rfl, (by show 2 ≤ sizeLine; decide), fun t nt => ?_⟩
    have s1 : Same H (upd H t (.tup [.ty "tuple", .ty "list"])) := same_upd nt
    have hd1 := Da.same s1 _ _ hd
    rcases hk with rfl | ⟨i, rfl⟩
    · cases hd
      refine ⟨.non, t, _, _, [.type "tuple", .type "list"], false, rfl, upd_same, .cons (.ty _) (.cons (.ty _) .nil), hd1.ty, k2 _ (by decide +kernel) (by decide +kernel), _, rfl, iteF ?_⟩
      refine ⟨_, rfl, rfl, _, rfl, iteT ?_⟩
      exact ⟨_, rfl, _, rfl, rfl, _, rfl, iteT ⟨_, rfl, _, _, _, _, _, rfl, .ty _, hd1.ty, kS hd1, _, rfl, _, _, _, _, _, rfl, .ty _, hd1.ty, kS hd1, rfl, q _ s1⟩⟩
    · cases hd
      refine ⟨.int i, t, _, _, [.type "tuple", .type "list"], false, rfl, upd_same, .cons (.ty _) (.cons (.ty _) .nil), hd1.ty, k2 "int" (by decide +kernel) (by decide +kernel), _, rfl, iteF ?_⟩
      refine ⟨_, rfl, rfl, _, rfl, iteF ⟨_, rfl, _, _, _, _, _, rfl, .ty _, hd1.ty, kS hd1, _, rfl, iteF ?_⟩⟩
      refine ⟨_, rfl, _, _, _, _, _, rfl, .ty _, hd1.ty, kI hd1, _, rfl, iteT ⟨_, rfl, _, _, _, _, _, rfl, .ty _, hd1.ty, kB hd1, _, rfl, _, _, _, _, _, rfl, .ty _, hd1.ty, kB hd1, rfl, _, rfl, iteT ⟨_, rfl, _, rfl, rfl, ?_⟩⟩⟩
      rw [decide_eq_true rfl]
      exact q _ s1
end
end Ms
set_option Elab.async false
set_option linter.all false
set_option maxRecDepth 100000
set_option maxHeartbeats 4000000
namespace Ms
open PySem PySem.Spec PyProof.Rows L2
/-! ### error.index, isinstance(error, BadStore), error the exception that the suite holds -/
/-- more of BadStore's class: what isinstance asks -/
structure BadIs (K : PySem.W.Frag) (C : Addr) : Prop where
  ha : PySem.W.findIn K (.ref C) "__class__" = some (some (.builtin "object.__class__"))
  hn : PySem.W.specialIn K (.builtin "object.__class__") "__get__" = some (some (.builtin "getset_descriptor.__get__"))
  ht : PySem.W.takesIn K (.builtin "object.__class__") = some true
  hm : PySem.W.mroIn K C (.type "object") = some true
  kit : PySem.W.kitOne K (.ref C) (.ref C) = some true
section
variable {X : Cx} {C fI : Addr}
def rIsBad (C a : Addr) (cls : Value) (d : Option Addr) : List V → Hp → VK → Prop := fun xs H Q => xs = [.ref a, .ref C] ∧ cls = .ref C ∧ (∃ (dd : Addr) (v : V), d = some dd ∧ H dd = some (.xd [(("index" : Str), v)])) ∧ Q (.bl true) H
theorem exc_inst {a : Addr} {oe : Obj} {d : Option Addr} {dd : Addr} {v : V} {pn pins : List (Addr × Obj)} {σ : L2.St} {H : Hp} {s : Shared} (hz : Zc (.ref C) d oe) (hf : ∃ vs, oe.data = .fields vs) (I : Inv (X.suite a ((a, oe) :: pn)) pins σ H s) (ed : d = some dd) (ea : H dd = some (.xd [(("index" : Str), v)])) :
    ∃ (od : Obj) (u : Value), PySem.W.InstAt s.heap a oe C (some od) ∧ RelV v u ∧ PySem.W.lookIn "index" od = some (some u) := by
  obtain ⟨ha, _⟩ := I.pin (a, oe) (List.mem_append_left _ List.mem_cons_self)
  obtain ⟨vs, hd⟩ := hf
  have hx : ObjOk X.prog X.w H s.heap dd (.xd [(("index" : Str), v)]) := I.hok dd _ ea
  obtain ⟨mA, hns, hr⟩ := hx
  obtain ⟨od, ho, hl⟩ := lookIn_ns hns
  have l : List.lookup ("index" : Str) [(("index" : Str), v)] = some v := by simp [List.lookup]
  obtain ⟨u, hu, ru⟩ := RelO.some_of (v := v) (o := mA "index") (by rw [← l]; exact hr "index")
  subst ed
  exact ⟨od, u, ⟨ha, hz.1, by unfold PySem.W.notCls; rw [hd] <;> rfl, by rw [hz.2]; exact ho⟩, ru, by rw [hl, hu]⟩
theorem call_isBad {a : Addr} {oe : Obj} {cls : Value} {d : Option Addr} {pn : List (Addr × Obj)} (T : BadTxt X.prog X.K X.mg C fI) (B : BadIs X.K C) (hz : Zc cls d oe) (hf : ∃ vs, oe.data = .fields vs) : CallR (X.suite a ((a, oe) :: pn)) (.builtin "isinstance") (rIsBad C a cls d) := by
  intro pins s σ H xs us Q I r h
  obtain ⟨rfl, rfl, ⟨dd, v, ed, ea⟩, q⟩ := h
  obtain ⟨od, u, J, _, _⟩ := exc_inst hz hf I ed ea
  obtain ⟨u1, u2, rfl, r1, r2⟩ := vals2 r
  cases r1
  cases r2
  obtain ⟨nm, q', N, bs, bm, sn, sub, ab, col, dd', k0, k1, k2, k3, k5, hC, hbm⟩ := T.cls
  have hcl : (PySem.W.clsIn X.K C).isSome = true := by unfold PySem.W.clsIn; rw [hC] <;> rfl
  exact PySem.W.kia_one (PySem.W.kitx_exc hcl T.ga T.gg T.exC B.ha B.hn B.ht B.hm) I.kIn J B.kit (fun z => nomatch z) fun tk => ⟨.bl true, H, I.kept (t' := tk) fun _ _ z => z, rfl, q⟩
/-- error.index -/
def tByIndex (C : Addr) (a : Addr) (cls : Value) (d : Option Addr) (te : TE) : TE := fun σ H Q => te σ H fun x H1 => x = .ref a ∧ cls = .ref C ∧ ∃ (dd : Addr) (v : V), d = some dd ∧ H1 dd = some (.xd [(("index" : Str), v)]) ∧ Q v H1
theorem pe_byIndex {a : Addr} {oe : Obj} {cls : Value} {d : Option Addr} {pn : List (Addr × Obj)} {e : Expr} {te : TE} {pos : Pos} (T : BadTxt X.prog X.K X.mg C fI) (hz : Zc cls d oe) (hf : ∃ vs, oe.data = .fields vs) (he : PE (X.suite a ((a, oe) :: pn)) e te)
    (hb : attributeBase e "index" X.env (eval e X.env) = eval e X.env := by rfl) : PE (X.suite a ((a, oe) :: pn)) (.Attribute e "index" pos) (tByIndex C a cls d te) := by
  refine ⟨fun pins s σ H Q I h => ?_⟩
  refine attr_of hb (thn (he.run pins s σ H _ I h) fun u s1 hh => ?_)
  obtain ⟨x, H1, I1, rx, rfl, rfl, dd, v, ed, ea, q⟩ := hh
  obtain rfl : u = Value.ref a := rx
  obtain ⟨od, u, J, ru, hl⟩ := exc_inst hz hf I1 ed ea
  exact PySem.HandSPX.exc_get I1.kIn J T.ga T.gg T.exC (PySem.W.findObj_own T.hdC T.noN rfl hl) (handed_of ru) ⟨v, H1, I1.tok _, ru, q⟩
end
end Ms
set_option Elab.async false
set_option linter.all false
set_option maxRecDepth 100000
set_option maxHeartbeats 4000000
namespace Ms
open PySem PySem.Spec PyProof.Rows L2
/-! ### lambdas made in a def, called by a local name -/

section
open LamX NdefX
/-- the object at f: a lambda; dV its defaults' tuple or None -/
def LamO (f : Addr) (q : Str) (params : Arguments) (body : Expr) (scope : Scope) (cl : List (Str × Addr)) (c : Addr) (dV : Value) : HO := .ext fun h => ∃ doc pm ctv : Value, h.get? f = some (PySem.W.kdv_obj "<lambda>" q params (.expr body) scope cl dV doc pm c ctv)
variable {X : Cx} {pins : List (Addr × Obj)} {σ : L2.St} {H : Hp} {s : Shared}
theorem lamO_at {P : Program} {w : World} {H : Hp} {h : Heap} {f : Addr} {q : Str} {params : Arguments} {body : Expr} {scope : Scope} {cl : List (Str × Addr)} {c : Addr} {dV : Value} (hok : HOk P w H h) (e : H f = some (LamO f q params body scope cl c dV)) :
    ∃ doc pm ctv : Value, h.get? f = some (PySem.W.kdv_obj "<lambda>" q params (.expr body) scope cl dV doc pm c ctv) := by
  obtain ⟨z, _, _⟩ := hok f _ e
  exact z
theorem inv_lam {q : Str} {params : Arguments} {body : Expr} {scope : Scope} {cl : List (Str × Addr)} {c : Addr} {dV doc pm ctv : Value} {t' : Nat} {o : Obj} (I : Inv X pins σ H s) (ho : o = PySem.W.kdv_obj "<lambda>" q params (.expr body) scope cl dV doc pm c ctv) :
    Inv X pins σ (upd H s.heap.objs.size (LamO s.heap.objs.size q params body scope cl c dV)) { s with heap := s.heap.push o, toks := t' } := by
  subst ho
  refine I.laid (a := s.heap.objs.size) (fun b u e => Heap.get?_push_of_some _ e) (Nat.le_refl _) ?_
  have e : (s.heap.push (PySem.W.kdv_obj "<lambda>" q params (.expr body) scope cl dV doc pm c ctv)).get? s.heap.objs.size = some (PySem.W.kdv_obj "<lambda>" q params (.expr body) scope cl dV doc pm c ctv) := Heap.get?_push_size _ rfl
  exact ⟨⟨doc, pm, ctv, e⟩, ⟨_, e⟩, fun h1 h2 ⟨d, p, t, z⟩ st => ⟨d, p, t, st _ z⟩⟩
/-- the lambda's object is made: its code object is new, or found in the table -/
theorem lam_tail {T : List (Addr × Str)} {c P : Addr} {params : Arguments} {body : Expr} {scope : Scope} {pos : Pos} {dV : Value} {E : Value → Shared → Prop} {Q : Value → Shared → Prop} (I : Inv X pins σ H s) (TB : TabB X.base X.mg c P) (hcode : X.env.code = .ref c)
    (hm : (P, X.env.qual ++ "<lambda>") ∈ T) (hu : ∀ p ∈ T, p.1 = P → p.2 = X.env.qual ++ "<lambda>") (hT : Tabs T H) (hfree : ∀ y ∈ scope.names, y.2 = .free → ∃ c, X.env.cells.lookup y.1 = some c)
    (h : ∀ (f c' : Addr) (H1 : Hp) (s' : Shared), Inv X pins σ H1 s' → ExtN H H1 → Tabs T H1 → H f = none → H1 f = some (LamO f (X.env.qual ++ "<lambda>") params body scope (cloFrom X.env.cells scope.names []) c' dV) → H1 c' = some (CodeO c' (X.env.qual ++ "<lambda>")) → Q (.ref f) s') :
    wpAny (model X.prog X.w) X.A (makeTail "<lambda>" (X.env.qual ++ "<lambda>") params (.expr body) scope X.env dV .none none pos pos.line) Q E s := by
  obtain ⟨ps, hP, ht, ha⟩ := hT _ hm
  have bP : s.heap.BuiltinsAt X.mg P := TB.bm.keeps I.bk
  have hP' : s.heap.get? P = some { cls := .none, data := .fields ps } := I.hok P _ hP
  cases hc : codeAmong pos ps.toList with
  | none =>
    refine PySem.W.kdv_makeTail (mg := X.mg) (c := c) (P := P) (ps := ps) (closure_ok hfree) I.ok.glob (I.mod.glob.keeps I.bk) hcode (TB.code.keeps I.bk) hP' ht hc TB.gP bP fun c' ctv doc h' tk hx hge hlt hrec htb => ?_
    obtain ⟨c2, oc, vs, t, e2, hoc, hd, hv⟩ := hrec
    cases e2
    have nC : H c' = none := I.hok.fresh hge
    have I1 := inv_table (t' := tk) (more := #[rawInt pos.line, rawInt pos.col, .ref c']) (h' := h') I hP (fun b o hb e => hx b o hb e) htb hge ⟨oc, vs, t, hoc, hd, hv⟩
    generalize hH1 : upd (upd H P (.tbl (ps ++ #[rawInt pos.line, rawInt pos.col, .ref c']))) c' (CodeO c' (X.env.qual ++ "<lambda>")) = H1 at I1
    have eP : H1 P = some (.tbl (ps ++ #[rawInt pos.line, rawInt pos.col, .ref c'])) := by rw [← hH1, upd_ne (ne_of_none hP nC), upd_same]
    have ec : H1 c' = some (CodeO c' (X.env.qual ++ "<lambda>")) := by rw [← hH1]; exact upd_same
    have hE : ExtN H H1 := fun b o e n => by
      rw [← hH1, upd_ne (ne_of_none e nC), upd_ne (fun z => n ps (Option.some.inj (e.symm.trans (by rw [z]; exact hP))))]
      exact e
    have eN : ∀ b, b ≠ P → H b ≠ none → H1 b = H b := fun b hb hn => by
      rw [← hH1, upd_ne (fun z => hn (by rw [z]; exact nC)), upd_ne hb]
    have eL : (ps ++ #[rawInt pos.line, rawInt pos.col, .ref c']).toList = ps.toList ++ [rawInt pos.line, rawInt pos.col, .ref c'] := by simp
    have T1 : Tabs T H1 := fun p hp => by
      by_cases hb : p.1 = P
      · rw [hu p hp hb, hb]
        refine ⟨_, eP, by rw [eL]; exact PySem.TriplesOk_snoc _ _ _ _ ht, fun p' cv hcv => ?_⟩
        rw [eL] at hcv
        rcases among_app _ ht hcv with z | z
        · obtain ⟨c0, e1, e2⟩ := ha p' cv z
          exact ⟨c0, e1, hE _ _ e2 codeO_ne⟩
        · exact ⟨c', z, ec⟩
      · obtain ⟨ps', a1, a2, a3⟩ := hT p hp
        refine ⟨ps', (eN _ hb (by rw [a1]; exact fun z => nomatch z)).trans a1, a2, fun p' cv hcv => ?_⟩
        obtain ⟨c0, e1, e2⟩ := a3 p' cv hcv
        exact ⟨c0, e1, hE _ _ e2 codeO_ne⟩
    have nF := I1.hok.fresh (Nat.le_refl _)
    have I2 := inv_lam (q := X.env.qual ++ "<lambda>") (params := params) (body := body) (scope := scope) (cl := cloFrom X.env.cells scope.names []) (c := c') (dV := dV) (doc := doc) (pm := (X.mg "__name__").getD .none) (ctv := ctv) (t' := tk) I1 rfl
    refine h h'.objs.size c' _ _ I2 (fun b o e n => ?_) (T1.ext fun b o e => ?_) (I.hok.fresh (Nat.le_trans hge (Nat.le_of_lt hlt))) upd_same ?_
    · have e1 := hE b o e n
      exact (upd_ne (ne_of_none e1 nF)).trans e1
    · exact (upd_ne (ne_of_none e nF)).trans e
    · exact (upd_ne (Nat.ne_of_lt hlt)).trans ec
  | some cv =>
    obtain ⟨c', e, hco⟩ := ha pos cv hc
    subst e
    refine PySem.W.kdv_makeTailHit (mg := X.mg) (c := c) (P := P) (ps := ps) (closure_ok hfree) I.ok.glob (I.mod.glob.keeps I.bk) hcode (TB.code.keeps I.bk) hP' ht hc bP fun ctv doc h' tk hx hsz => ?_
    have I1 : Inv X pins σ H { s with heap := h', toks := tk } := I.kept hx
    have nF : H h'.objs.size = none := I1.hok.fresh (Nat.le_refl _)
    have I2 := inv_lam (q := X.env.qual ++ "<lambda>") (params := params) (body := body) (scope := scope) (cl := cloFrom X.env.cells scope.names []) (c := c') (dV := dV) (doc := doc) (pm := (X.mg "__name__").getD .none) (ctv := ctv) (t' := tk) I1 rfl
    refine h h'.objs.size c' _ _ I2 (fun b o e n => ?_) (hT.ext fun b o e => ?_) nF upd_same ?_
    · exact (upd_ne (ne_of_none e nF)).trans e
    · exact (upd_ne (ne_of_none e nF)).trans e
    · exact (upd_ne (ne_of_none hco nF)).trans hco
/-- lambda: body -/
def tLam0 (T : List (Addr × Str)) (q : Str) (params : Arguments) (body : Expr) (scope : Scope) (cl : List (Str × Addr)) : TE := fun σ H Q => Tabs T H ∧ ∀ (f c' : Addr) (H1 : Hp), ExtN H H1 → Tabs T H1 → H f = none → H1 f = some (LamO f q params body scope cl c' .none) → H1 c' = some (CodeO c' q) → Q (.ref f) H1
theorem pe_lam0 {T : List (Addr × Str)} {c P : Addr} {params : Arguments} {body : Expr} {scope : Scope} {pos : Pos} (TB : TabB X.base X.mg c P) (hcode : X.env.code = .ref c) (hm : (P, X.env.qual ++ "<lambda>") ∈ T) (hu : ∀ p ∈ T, p.1 = P → p.2 = X.env.qual ++ "<lambda>")
    (hfree : ∀ y ∈ scope.names, y.2 = .free → X.env.scope.names.lookup y.1 = some .cell ∨ X.env.scope.names.lookup y.1 = some .free) (hdef : defaultsOf params X.env = ([], [])) :
    PE X (.Lambda params body scope pos) (tLam0 T (X.env.qual ++ "<lambda>") params body scope (cloFrom X.env.cells scope.names [])) := by
  refine ⟨fun pins s σ H Q I h => ?_⟩
  obtain ⟨hT, h⟩ := h
  have hfr : ∀ y ∈ scope.names, y.2 = .free → ∃ c, X.env.cells.lookup y.1 = some c := fun y hy e => (hfree y hy e).elim (fun z => I.ok.has _ (.inl z)) fun z => I.ok.has _ (.inr z)
  refine PySem.W.kla_eval hdef ?_
  rw [makeFunction_eq]
  simp only [List.zip_nil_right, List.filterMap_nil, List.isEmpty_nil, if_true, pure_bind]
  exact lam_tail I TB hcode hm hu hT hfr fun f c' H1 s' I1 eN T1 f0 f1 c1 => ⟨.ref f, H1, I1, rfl, h f c' H1 eN T1 f0 f1 c1⟩
/-- lambda a=k: body, k a written number -/
def tLam1 (T : List (Addr × Str)) (q : Str) (params : Arguments) (body : Expr) (scope : Scope) (cl : List (Str × Addr)) (k : Int) : TE := fun σ H Q => Tabs T H ∧ ∀ (f c' dt : Addr) (H1 : Hp), ExtN H H1 → Tabs T H1 → H f = none → H1 f = some (LamO f q params body scope cl c' (.ref dt)) → H1 c' = some (CodeO c' q) → H1 dt = some (.tup [.int k]) → Q (.ref f) H1
theorem pe_lam1 {T : List (Addr × Str)} {c P : Addr} {params : Arguments} {body : Expr} {scope : Scope} {pos dpos : Pos} {k : Int} {kk : Nat} (TB : TabB X.base X.mg c P) (hcode : X.env.code = .ref c) (hm : (P, X.env.qual ++ "<lambda>") ∈ T) (hu : ∀ p ∈ T, p.1 = P → p.2 = X.env.qual ++ "<lambda>")
    (hfree : ∀ y ∈ scope.names, y.2 = .free → X.env.scope.names.lookup y.1 = some .cell ∨ X.env.scope.names.lookup y.1 = some .free) (hd : params.defaults = [.Constant (.int k) kk dpos]) (hk : params.kw_defaults = []) :
    PE X (.Lambda params body scope pos) (tLam1 T (X.env.qual ++ "<lambda>") params body scope (cloFrom X.env.cells scope.names []) k) := by
  refine ⟨fun pins s σ H Q I h => ?_⟩
  obtain ⟨hT, h⟩ := h
  have hfr : ∀ y ∈ scope.names, y.2 = .free → ∃ c, X.env.cells.lookup y.1 = some c := fun y hy e => (hfree y hy e).elim (fun z => I.ok.has _ (.inl z)) fun z => I.ok.has _ (.inr z)
  refine PySem.W.kdv_lam (by rw [hd]; rfl) hk ?_
  rw [hd]
  refine PySem.W.kdv_all1 (wpAny_Constant_int (PySem.W.kdv_all0 ?_))
  rw [makeFunction_eq]
  simp only [List.zip_nil_right, List.filterMap_nil, List.isEmpty_nil, List.isEmpty_cons, if_true, pure_bind, Bool.false_eq_true, if_false]
  refine wpAny_bind (wpAny_newTextTuple ?_)
  have I0 : Inv X pins σ (upd H s.heap.objs.size (.tup [.int k])) { s with heap := s.heap.push (PySem.W.kdv_tup [.int k s.toks]), toks := s.toks + 1 } :=
    I.laid (t' := s.toks + 1) (a := s.heap.objs.size) (o := .tup [.int k]) (fun b u e => Heap.get?_push_of_some _ e) (Nat.le_refl _) ⟨by show 1 ≤ sizeLine; decide, [.int k s.toks], .cons ⟨_, rfl⟩ .nil, ⟨_, Heap.get?_push_size _ rfl, rfl, _, rfl⟩⟩
  have n0 : H s.heap.objs.size = none := I.hok.fresh (Nat.le_refl _)
  have T0 : Tabs T (upd H s.heap.objs.size (.tup [.int k])) := hT.ext fun b o e => (upd_ne (ne_of_none e n0)).trans e
  have d0 : ∀ ps : Array Value, HO.tup [V.int k] ≠ .tbl ps := fun ps z => by cases z
  refine lam_tail I0 TB hcode hm hu T0 hfr fun f c' H1 s' I1 eN T1 f0 f1 c1 => ⟨.ref f, H1, I1, rfl, h f c' s.heap.objs.size H1 (fun b o e n => eN b o ((upd_ne (ne_of_none e n0)).trans e) n) T1 (upd_none f0) f1 c1 (eN _ _ upd_same d0)⟩
end
end Ms
set_option Elab.async false
set_option linter.all false
set_option maxRecDepth 100000
set_option maxHeartbeats 4000000
namespace Ms
open PySem PySem.Spec PyProof.Rows L2
/-! ### the law's two lambdas -/
def forIter : Stmt → Expr
  | .For (iter := e) .. => e
  | _ => .Constant .none 0 ⟨0, 0, 0, 0⟩
def listElts : Expr → List Expr
  | .List es _ => es
  | _ => []
def lamParams : Expr → Arguments
  | .Lambda a _ _ _ => a
  | _ => defArgs sLaw
def lamBody : Expr → Expr
  | .Lambda _ b _ _ => b
  | e => e
def lamScope : Expr → Scope
  | .Lambda _ _ s _ => s
  | _ => defScope sLaw
abbrev lamE (i : Nat) : Expr := (listElts (forIter ((defBody sLaw).getD 12 (.Pass ⟨0, 0, 0, 0⟩)))).getD i (.Constant .none 0 ⟨0, 0, 0, 0⟩)
section
open LamX NdefX
variable {P : Program} {w : World} {K : PySem.W.Frag} {mg : Str → Option Value} {base : Heap}
theorem lam_run {N ps fr : List Str} {F : NF} {params : Arguments} {body : Expr} {dV : Value} {f : Addr} {A : Around} {outer : List Env} {s : Shared} {H : Hp} {us : List Value} {vs : List V} {ws : List (Option V)} {Q : VK} {E : XK} {k : Nat} {tb : TE} (S : NScope N ps fr F.scope) (hr : Room (k + 1) A) (e0 : Env0 P w K mg base A outer s H)
    (ho : ∃ doc pm ctv : Value, s.heap.get? f = some (PySem.W.kdv_obj "<lambda>" F.qual params (.expr body) F.scope F.cl dV doc pm F.c ctv)) (hc : H F.c = some (CodeO F.c F.qual))
    (hb : ∀ doc pm ctv : Value, BindsTo s (PySem.W.kdv_fn "<lambda>" F.qual params (.expr body) F.scope F.cl dV doc pm (.ref F.c) ctv) ⟨[], []⟩ (ps.zip us)) (hl : vs.length = ps.length) (r : Vals vs us) (C : CellsAt F.cl fr ws s.heap H)
    (hbody : Room k (A.deeper (envF F f s.heap.objs.size)) → PE (ncx (L2.CX P w) P w K mg base N F f A outer s H E) body tb) (q : tb (startF N vs ws) H Q) : codeAny (model P w) A (.call (.ref f) ⟨[], []⟩) (CR (L2.CX P w) outer P w H s Q E) s := by
  have lim : s.heap.NoLimit := e0.mod.nolimit.keeps fun b o e => (e0.bs b o e).1
  obtain ⟨doc, pm, ctv, ho⟩ := ho
  refine PySem.W.kla_callFunE hr.depth ho rfl S.co S.gen rfl (codeO_at e0.hok hc) (hb doc pm ctv _ _ _ _ ?_)
  refine wpAny_newFunctionEnv S.nocell (fun ⟨n, _⟩ hy => S.par n (List.of_mem_zip hy).1) (fun h₁ hns hsb => ⟨lim.fresh _ hsb, ?_⟩) S.kind
  show codeAny _ _ (.expr body (envF F f s.heap.objs.size)) _ _
  have kp : ∀ b o, s.heap.get? b = some o → h₁.get? b = some o := fun b o e => hsb.extBut b o (Nat.ne_of_lt (Heap.lt_size e)) (Heap.get?_push_of_some _ e)
  have I : Inv (ncx (L2.CX P w) P w K mg base N F f A outer s H E) [] (startF N vs ws) H { s with heap := h₁, toks := s.toks + (ps.zip us).length } := inv_startN S hr.hd e0 hl r C hns kp
  refine PySem.W.kla_codeExpr (wpAny_mono ((hbody (hr.deeper _)).run [] _ _ H Q I q) (fun v s' hq => ?_) fun e s' hq => hq)
  obtain ⟨w', H', J', rv, q⟩ := hq
  exact ⟨w', H', J'.os, J'.bare, J'.base, J'.hok, rv, q⟩
/-- what a lambda's work comes to: tuple(value) read -/
def tLamBody (C : Addr) (sw : Bool) (E : XK) (i : Nat) : TE := fun σ H Q => ∃ (a : Addr) (vs : List V) (ds : List PyData), σ[i]? = some (some (.ref a)) ∧ H a = some (.lst vs) ∧ DaAll H vs ds ∧ ds.length ≤ 1000 ∧ (storeDue ds = none → ∀ v' H', Same H H' → Q v' H') ∧
  ∀ k, storeDue ds = some k → ∀ H' d, Same H H' → H' d = some (.xd [(("index" : Str), .int (k : Nat))]) → E (.ref C) (some d) H'
theorem PE.weak {X : Cx} {e : Expr} {t t' : TE} (h : PE X e t) (i : ∀ σ H Q, t' σ H Q → t σ H Q) : PE X e t' := ⟨fun pins s σ H Q I q => h.run pins s σ H Q I (i _ _ _ q)⟩
theorem lam_body1 {F : NF} {f : Addr} {A : Around} {outer : List Env} {s : Shared} {H : Hp} {E : XK} {C : Addr} (hsc : F.scope = lamScope (lamE 0)) (b : Bl mg) (D : Does P w K mg base (L2.CX P w) 5 "merged" ["store", "other"] (spRead C false)) (hr : Room 5 (A.deeper (envF F f s.heap.objs.size))) :
    PE (ncx (L2.CX P w) P w K mg base ["_law_value"] F f A outer s H E) (lamBody (lamE 0)) (tLamBody C false E 0) := by
  obtain ⟨fm, fdm, gm, km, bm, Gm⟩ := D
  obtain ⟨nm, ql, pa, bo, sc, cl, c⟩ := F
  cases hsc
  refine PE.weak (pe_call Gm hr (by rfl) gm km bm .nil (passes_call (E := E) (takes_of rfl rfl rfl rfl) (fun _ _ _ _ h => h)) (pa_cons (pe_callTy call_tuple_of (by rfl) b.tup boot_tuple (pa_cons (pv 0) pa_nil)) (pa_cons (pe_tup pa_nil) pa_nil))) fun σ H Q h => ?_
  obtain ⟨a, vs, ds, hs, ea, ha, hz, q, qE⟩ := h
  refine ⟨.ref a, hs, a, vs, rfl, .inl ⟨SqL.of ea, fun t nt => ⟨Nat.zero_le _, fun u nu => ?_⟩⟩⟩
  have s1 := (same_upd (o := .tup vs) nt).trans (same_upd (o := .tup []) nu)
  exact ⟨.ref t, .ref u, ds, rfl, .tup ((same_upd nu) _ _ upd_same) (DaAll.same s1 _ _ ha), .tup upd_same .nil, hz, fun hn v' H' s' => q hn v' H' (s1.trans s'), fun k hk H' d s' => qE k hk H' d (s1.trans s')⟩
theorem lam_body2 {F : NF} {f : Addr} {A : Around} {outer : List Env} {s : Shared} {H : Hp} {E : XK} {C : Addr} (hsc : F.scope = lamScope (lamE 1)) (b : Bl mg) (D : Does P w K mg base (L2.CX P w) 5 "differ" ["store", "other"] (spRead C true)) (hr : Room 5 (A.deeper (envF F f s.heap.objs.size))) :
    PE (ncx (L2.CX P w) P w K mg base ["_law_a", "_law_value"] F f A outer s H E) (lamBody (lamE 1)) (tLamBody C true E 1) := by
  obtain ⟨fm, fdm, gm, km, bm, Gm⟩ := D
  obtain ⟨nm, ql, pa, bo, sc, cl, c⟩ := F
  cases hsc
  refine PE.weak (pe_call Gm hr (by rfl) gm km bm .nil (passes_call (E := E) (takes_of rfl rfl rfl rfl) (fun _ _ _ _ h => h)) (pa_cons (pe_tup pa_nil) (pa_cons (pe_callTy call_tuple_of (by rfl) b.tup boot_tuple (pa_cons (pv 1) pa_nil)) pa_nil))) fun σ H Q h => ?_
  obtain ⟨a, vs, ds, hs, ea, ha, hz, q, qE⟩ := h
  refine ⟨Nat.zero_le _, fun u nu => ⟨.ref a, hs, a, vs, rfl, .inl ⟨SqL.of ((same_upd nu) _ _ ea), fun t nt => ?_⟩⟩⟩
  have s1 := (same_upd (o := .tup []) nu).trans (same_upd (o := .tup vs) nt)
  exact ⟨.ref t, .ref u, ds, rfl, .tup upd_same (DaAll.same s1 _ _ ha), .tup ((same_upd nt) _ _ upd_same) .nil, hz, fun hn v' H' s' => q hn v' H' (s1.trans s'), fun k hk H' d s' => qE k hk H' d (s1.trans s')⟩
theorem ns1 : NScope ["_law_value"] [] ["_law_value"] (lamScope (lamE 0)) := nscope_by (by decide +kernel)
theorem ns2 : NScope ["_law_a", "_law_value"] ["_law_a"] ["_law_value"] (lamScope (lamE 1)) := nscope_by (by decide +kernel)
end
end Ms
set_option Elab.async false
set_option linter.all false
set_option maxRecDepth 100000
set_option maxHeartbeats 4000000
namespace Ms
open PySem PySem.Spec PyProof.Rows L2
/-! ### _law_work() -/
section
open LamX NdefX
/-- the lambda at f: the first, or the second -/
def WorkO (q : Str) (cl1 cl2 : List (Str × Addr)) (H : Hp) (f : Addr) : Prop :=
  (∃ c', H f = some (LamO f q (lamParams (lamE 0)) (lamBody (lamE 0)) (lamScope (lamE 0)) cl1 c' .none) ∧ H c' = some (CodeO c' q)) ∨
  ∃ c' dt, H f = some (LamO f q (lamParams (lamE 1)) (lamBody (lamE 1)) (lamScope (lamE 1)) cl2 c' (.ref dt)) ∧ H c' = some (CodeO c' q) ∧ H dt = some (.tup [.int 0])
theorem WorkO.ext {q : Str} {cl1 cl2 : List (Str × Addr)} {H H' : Hp} {f : Addr} (h : WorkO q cl1 cl2 H f) (e : ExtN H H') : WorkO q cl1 cl2 H' f := by
  rcases h with ⟨c', h1, h2⟩ | ⟨c', dt, h1, h2, h3⟩
  · exact .inl ⟨c', e _ _ h1 (fun ps z => by unfold LamO at z; cases z), e _ _ h2 codeO_ne⟩
  · exact .inr ⟨c', dt, e _ _ h1 (fun ps z => by unfold LamO at z; cases z), e _ _ h2 codeO_ne, e _ _ h3 (fun ps z => by cases z)⟩
def tWork (C : Addr) (q : Str) (cl1 cl2 : List (Str × Addr)) (i j : Nat) (W : WX) : TE := fun σ H Q => ∃ f : Addr, σ[i]? = some (some (.ref f)) ∧ WorkO q cl1 cl2 H f ∧ tLamBody C false (fun cls d H => W cls d σ H) j σ H Q
theorem pe_work {X : Cx} {C : Addr} {x : Str} {i j : Nat} {W : WX} {p1 p2 : Pos} (b : Bl X.mg) (D1 : Does X.prog X.w X.K X.mg X.base (L2.CX X.prog X.w) 5 "merged" ["store", "other"] (spRead C false)) (D2 : Does X.prog X.w X.K X.mg X.base (L2.CX X.prog X.w) 5 "differ" ["store", "other"] (spRead C true)) (hr : Room 6 X.A) (tk : Takes X W)
    (hN : X.N[i]? = some x) (hv : Vis X.env.scope x) (hj : X.N[j]? = some ("_law_value" : Str)) (hcell : X.env.scope.names.lookup ("_law_value" : Str) = some .cell) (hd : (x == ("__debug__" : Str)) = false := by decide) (hcd : (x == ("__classdict__" : Str)) = false := by decide) :
    PE X (.Call (.Name x p1) [] [] p2) (tWork C (X.env.qual ++ "<lambda>") (cloFrom X.env.cells (lamScope (lamE 0)).names []) (cloFrom X.env.cells (lamScope (lamE 1)).names []) i j W) := by
  refine ⟨fun pins s σ H Q I h => ?_⟩
  obtain ⟨f, hs, hf, hb⟩ := h
  refine wpAny_Call_Name_kw (thn ((pe_var (pos := p1) hN hv hd hcd).run pins s σ H (fun v H1 => v = .ref f ∧ H1 = H) I ⟨.ref f, hs, rfl, rfl⟩) fun u s1 ⟨v, H1, I1, r1, ev, eH⟩ => ?_)
  subst ev
  rw [eH] at I1
  obtain rfl : u = Value.ref f := r1
  obtain ⟨a, vs, ds, ha, hrest⟩ := hb
  have free1 : ∀ y ∈ (lamScope (lamE 0)).names, y.2 = .free → y.1 = "_law_value" := by decide +kernel
  have free2 : ∀ y ∈ (lamScope (lamE 1)).names, y.2 = .free → y.1 = "_law_value" := by decide +kernel
  have mem1 : ((("_law_value" : Str), NameKind.free)) ∈ (lamScope (lamE 0)).names := by decide +kernel
  have mem2 : ((("_law_value" : Str), NameKind.free)) ∈ (lamScope (lamE 1)).names := by decide +kernel
  have C1 : Caps X (cloFrom X.env.cells (lamScope (lamE 0)).names []) ["_law_value"] [j] := Caps.made I1.ok (fun y hy e => by rw [free1 y hy e]; exact .inl hcell) (fun y hy => by rw [List.mem_singleton.mp hy]; exact mem1) (by show [X.N[j]?] = [some ("_law_value" : Str)]; rw [hj])
  have C2 : Caps X (cloFrom X.env.cells (lamScope (lamE 1)).names []) ["_law_value"] [j] := Caps.made I1.ok (fun y hy e => by rw [free2 y hy e]; exact .inl hcell) (fun y hy => by rw [List.mem_singleton.mp hy]; exact mem2) (by show [X.N[j]?] = [some ("_law_value" : Str)]; rw [hj])
  have ws : [j].map (slotAt σ) = [some (.ref a)] := by
    show [slotAt σ j] = _
    rw [slotAt_of ha]
  have hx := passAt tk σ
  have fin : codeAny (model X.prog X.w) X.A (.call (.ref f) ⟨[], []⟩) (CR (L2.CX X.prog X.w) X.stack X.prog X.w H s1 Q (WE W σ)) s1 → wpAny (model X.prog X.w) X.A (call (.ref f) []) (EP X pins σ Q) X.xe s1 := fun hc => by
    refine wpAny_call (codeAny_mono hc fun r s' hq => ?_)
    cases r with
    | error e => exact hx pins H s1 e s' I1 hq
    | ok fl =>
      cases fl with
      | ret u => exact I1.after hq
      | next => exact False.elim hq
      | brk => exact False.elim hq
      | cont => exact False.elim hq
  rcases hf with ⟨c', h1, h2⟩ | ⟨c', dt, h1, h2, h3⟩
  · obtain ⟨doc, pm, ctv, ho⟩ := lamO_at I1.hok h1
    refine PySem.W.callWith_F0 (first := []) ⟨_, _, _, _, ho⟩ (fin ?_)
    have cells := cells_of I1 C1
    rw [ws] at cells
    refine lam_run (F := ⟨"<lambda>", X.env.qual ++ "<lambda>", lamParams (lamE 0), [], lamScope (lamE 0), cloFrom X.env.cells (lamScope (lamE 0)).names [], c'⟩) (us := []) (vs := []) ns1 hr I1.env0 ⟨doc, pm, ctv, ho⟩ h2 (fun _ _ _ => BindsTo.of_eq rfl) rfl .nil cells (fun hr' => lam_body1 (C := C) rfl b D1 hr') ?_
    exact ⟨a, vs, ds, rfl, hrest⟩
  · obtain ⟨doc, pm, ctv, ho⟩ := lamO_at I1.hok h1
    refine PySem.W.callWith_F0 (first := []) ⟨_, _, _, _, ho⟩ (fin ?_)
    have cells := cells_of I1 C2
    rw [ws] at cells
    obtain ⟨_, its, rt, od, hod, _, n, hsd⟩ := (show ObjOk X.prog X.w H s1.heap dt (.tup [.int 0]) from I1.hok dt _ h3)
    cases rt with | cons r1 rt =>
    cases rt
    obtain ⟨t0, rfl⟩ := r1
    refine lam_run (F := ⟨"<lambda>", X.env.qual ++ "<lambda>", lamParams (lamE 1), [], lamScope (lamE 1), cloFrom X.env.cells (lamScope (lamE 1)).names [], c'⟩) (us := [.int 0 t0]) (vs := [.int 0]) ns2 hr I1.env0 ⟨doc, pm, ctv, ho⟩ h2 (fun _ _ _ => ?_) rfl (.cons ⟨_, rfl⟩ .nil) cells (fun hr' => lam_body2 (C := C) rfl b D2 hr') ?_
    · exact BindsTo.of_defaults rfl hod hsd rfl rfl
    · exact ⟨a, vs, ds, rfl, hrest⟩
end
end Ms
set_option Elab.async false
set_option linter.all false
set_option maxRecDepth 100000
set_option maxHeartbeats 4000000
namespace Ms
open PySem PySem.Spec PyProof.Rows L2
/-! ### text * n -/
def repS (z : Str) (n : Int) : Str := ⟨(List.replicate n.toNat z.cps).foldl (· ++ ·) #[]⟩
theorem op_repS {X : Cx} : OpR X (binaryOp .Mult) (fun x y H Q => ∃ (z : Str) (n : Int), x = .str z ∧ y = .int n ∧ 2 ≤ n ∧ n ≤ 1000 ∧ 0 < z.length ∧ z.length ≤ 1000 ∧ (repS z n).length ≤ 1000 ∧ Q (.str (repS z n)) H) := by
  intro pins s σ H x y v u Q I rx ry h
  obtain ⟨z, n, rfl, rfl, h1, h2, h3, h4, hr, q⟩ := h
  obtain ⟨t, rfl⟩ := rx
  obtain ⟨t', rfl⟩ := ry
  have e1 : (n == 1 || z.length == 0) = false := by
    have a : ¬ n = 1 := by omega
    have b : ¬ z.length = 0 := by omega
    simp [a, b]
  refine PySem.P.mul_str ?_ ?_ ?_ ?_
  · rw [decide_eq_false (by omega), decide_eq_false (by omega)]
    rfl
  · intro _ _ hgt
    have h5 : (1000 : Int) ≤ (2 ^ 63 - 1) / n := Int.le_ediv_of_mul_le (by omega) (by omega)
    omega
  · intro _ _
    have h5 : z.length * n.toNat ≤ 1000 * 1000 := Nat.mul_le_mul h4 (by omega)
    exact decide_eq_false (by
      have h6 : 1000 * 1000 ≤ sizeLine := by decide
      show ¬ z.length * n.toNat > sizeLine
      omega)
  · rw [if_neg (by omega), e1]
    simp only [Bool.false_eq_true, if_false]
    exact ⟨Nat.le_trans hr (by decide), .str (repS z n), H, I.tok _, ⟨_, rfl⟩, q⟩
end Ms
set_option Elab.async false
set_option linter.all false
set_option maxRecDepth 100000
set_option maxHeartbeats 4000000
namespace Ms
open PySem PySem.Spec PyProof.Rows L2
/-! ### what the law's reading needs -/
theorem cut_free {R : Addr} {H : Hp} (h : H R = none) : Same H (cut R H) := fun b o e => by
  rw [cut_ne (ne_of_none e h)]
  exact e
/-- a tuple of five, all tuples within -/
def Tup5 (G : Hp) (x : V) : Prop := ∃ (a : Addr) (es : List V) (ds : List PyData), x = .ref a ∧ G a = some (.tup es) ∧ DaAll (tups G) es ds ∧ es.length = 5
theorem Tup5.mono {G G' : Hp} {x : V} (h : Tup5 G x) (s : Same (tups G) (tups G')) : Tup5 G' x := by
  obtain ⟨a, es, ds, rfl, e, hd, hl⟩ := h
  obtain ⟨zs, ez, e'⟩ := tups_get (s _ _ (tups_at e))
  cases ez
  exact ⟨a, es, ds, rfl, e', DaAll.same s _ _ hd, hl⟩
theorem NoteT.five {G : Hp} {x : V} (h : NoteT G x) : Tup5 G x := by
  obtain ⟨d, hd, z, i, j, ps, u, rfl, _⟩ := h
  cases hd with
  | tup e ha =>
    obtain ⟨zs, ez, e'⟩ := tups_get e
    cases ez
    exact ⟨_, _, _, rfl, e', ha, ha.length⟩
/-- the heap without the row at R and the list at l -/
abbrev Wh (R l : Addr) (G : Hp) : Hp := cut l (cut R G)
theorem wh_le (R l : Addr) (G : Hp) : Same (Wh R l G) G := (cut_le l (cut R G)).trans (cut_le R G)
theorem wh_but {R l : Addr} {G G' : Hp} (s : SameBut R G G') : Same (Wh R l G) (Wh R l G') := cut_of s
theorem wh_new {R l p : Addr} {G : Hp} {o : HO} (np : G p = none) : Same (Wh R l G) (Wh R l (upd G p o)) := cut_of (but_new np)
theorem wh_at {R l p : Addr} {G : Hp} {o : HO} (e : G p = some o) (h1 : p ≠ R) (h2 : p ≠ l) : Wh R l G p = some o := by
  show cut l (cut R G) p = some o
  rw [cut_ne h2, cut_ne h1]
  exact e
theorem wh_set {R l : Addr} {G : Hp} {o : HO} (h : l ≠ R) : Same (Wh R l G) (Wh R l (upd G l o)) := fun b ob e => by
  obtain ⟨h1, e1⟩ := cut_get e
  obtain ⟨h2, e2⟩ := cut_get e1
  show cut l (cut R (upd G l o)) b = some ob
  rw [cut_ne h1, cut_ne h2, upd_ne h1]
  exact e2
theorem wh_tups {R l : Addr} {G : Hp} {xs ys : List V} (h1 : G R = some (.lst xs)) (h2 : G l = some (.lst ys)) : Same (tups G) (Wh R l G) := fun b o e => by
  obtain ⟨zs, rfl, e'⟩ := tups_get e
  exact wh_at e' (ne_of e' h1 (by intro z; cases z)) (ne_of e' h2 (by intro z; cases z))
theorem RowIn.lst {R sc : Addr} {G : Hp} (h : RowIn R sc G) : ∃ xs, G R = some (.lst xs) := let ⟨_, _, _, e, _⟩ := h; ⟨_, e⟩
theorem cutV_mem {xs : List V} {lo hi : Option Int} {x : V} (h : x ∈ cutV xs lo hi) : x ∈ xs := by
  unfold cutV at h
  exact List.mem_of_mem_drop (List.mem_of_mem_take h)
theorem at_list {α : Type} {xs : List α} {t : Int} (t0 : 0 ≤ t) (t1 : t < xs.length) : ∃ v, atI xs t = some v ∧ v ∈ xs ∧ ixN xs.length t = some t.toNat := by
  have hi : t.toNat < xs.length := by omega
  have e := atI_nat (List.getElem?_eq_getElem hi)
  rw [Int.toNat_of_nonneg t0] at e
  refine ⟨_, e, List.getElem_mem hi, ?_⟩
  unfold ixN
  rw [if_pos t0, if_pos t1]
/-- the first bad place among the first i -/
def dueUp (ds : List PyData) (i : Nat) : Option Nat := (List.range i).find? (badAt ds)
theorem dueUp_succ (ds : List PyData) (i : Nat) : dueUp ds (i + 1) = match dueUp ds i with
    | some k => some k
    | none => if badAt ds i = true then some i else none := by
  unfold dueUp
  rw [List.range_succ, List.find?_append]
  cases (List.range i).find? (badAt ds) with
  | some k => rfl
  | none =>
    show (List.find? (badAt ds) [i]) = _
    rw [List.find?_cons]
    cases badAt ds i <;> rfl
theorem dueUp_good {ds : List PyData} {i : Nat} (h : dueUp ds i = none) : ∀ k < i, badAt ds k = false := fun k hk => by
  unfold dueUp at h
  rw [List.find?_eq_none] at h
  exact Bool.eq_false_iff.mpr (h k (List.mem_range.mpr hk))
def dOf : Option Nat → V
  | none => .non
  | some k => .int (k : Nat)
end Ms
set_option Elab.async false
set_option linter.all false
set_option maxRecDepth 100000
set_option maxHeartbeats 4000000
namespace Ms
open PySem PySem.Spec PyProof.Rows L2
/-! ### what the law holds from the note's list on -/
section
variable {K : PySem.W.Frag} {R sc W Nn Pt l : Addr} {xs ns es : List V} {G G' : Hp}
abbrev Go (R l : Addr) (G G' : Hp) : Prop := Same (Wh R l G) (Wh R l G')
def Ok (R l : Addr) (G : Hp) (v : V) : Prop := ∃ d, Da (Wh R l G) v d
def OkAll (R l : Addr) (G : Hp) (vs : List V) : Prop := ∀ v ∈ vs, Ok R l G v
theorem Ok.go {v : V} (h : Ok R l G v) (s : Go R l G G') : Ok R l G' v := let ⟨d, e⟩ := h; ⟨d, Da.same s _ _ e⟩
theorem OkAll.go {vs : List V} (h : OkAll R l G vs) (s : Go R l G G') : OkAll R l G' vs := fun v hv => (h v hv).go s
theorem OkAll.nil : OkAll R l G [] := fun _ hv => nomatch hv
theorem OkAll.cons {v : V} {vs : List V} (h : Ok R l G v) (t : OkAll R l G vs) : OkAll R l G (v :: vs) := fun x hx => by
  rcases List.mem_cons.mp hx with e | e
  · rw [e]; exact h
  · exact t x e
theorem OkAll.append {vs us : List V} (h : OkAll R l G vs) (t : OkAll R l G us) : OkAll R l G (vs ++ us) := fun x hx => by
  rcases List.mem_append.mp hx with e | e
  · exact h x e
  · exact t x e
theorem OkAll.cut {vs : List V} {lo hi : Option Int} (h : OkAll R l G vs) : OkAll R l G (cutV vs lo hi) := fun x hx => h x (cutV_mem hx)
theorem OkAll.da {vs : List V} (h : OkAll R l G vs) : ∃ ds, DaAll (Wh R l G) vs ds := let ⟨ds, a, _⟩ := daAll_of (p := fun _ => True) fun v hv => let ⟨d, e⟩ := h v hv; ⟨d, e, trivial⟩; ⟨ds, a⟩
theorem OkAll.of {vs : List V} {ds : List PyData} (h : DaAll (Wh R l G) vs ds) : OkAll R l G vs := fun v hv => by
  obtain ⟨d, e, _⟩ := h.each (p := fun _ => True) (fun _ _ => trivial) v hv
  exact ⟨d, e⟩
theorem Ok.tup {a : Addr} {vs : List V} (e : Wh R l G a = some (.tup vs)) (h : OkAll R l G vs) : Ok R l G (.ref a) := let ⟨_, d⟩ := h.da; ⟨_, .tup e d⟩
theorem Ok.lst {a : Addr} {vs : List V} (e : Wh R l G a = some (.lst vs)) (h : OkAll R l G vs) : Ok R l G (.ref a) := let ⟨_, d⟩ := h.da; ⟨_, .lst e d⟩
theorem Ok.int (i : Int) : Ok R l G (.int i) := ⟨_, .int i⟩
theorem Ok.str {z : Str} (h : z.length ≤ 1000) : Ok R l G (.str z) := ⟨_, .str z h⟩
structure LS (K : PySem.W.Frag) (R sc W Nn Pt l : Addr) (xs ns es : List V) (G : Hp) : Prop where
  rin : RowIn R sc G
  ll : G l = some (.lst es)
  lR : l ≠ R
  st : Wh R l G W = some (.lst xs)
  nn : Wh R l G Nn = some (.lst ns)
  tb : Wh R l G Pt = some (.tbl #[])
  scr : ∃ cs : List Int, SqL K (Wh R l G) sc (cs.map V.int)
  t5 : ∀ x ∈ xs, ∃ (a : Addr) (ys : List V), x = .ref a ∧ Wh R l G a = some (.tup ys) ∧ OkAll R l G ys ∧ ys.length = 5
  nt : OkAll R l G ns
theorem LS.go {es' : List V} (h : LS K R sc W Nn Pt l xs ns es G) (s : Go R l G G') (r : RowIn R sc G') (e : G' l = some (.lst es')) : LS K R sc W Nn Pt l xs ns es' G' :=
  ⟨r, e, h.lR, s _ _ h.st, s _ _ h.nn, s _ _ h.tb, let ⟨cs, q⟩ := h.scr; ⟨cs, Same.seq s q⟩, fun x hx => let ⟨a, ys, e1, e2, e3, e4⟩ := h.t5 x hx; ⟨a, ys, e1, s _ _ e2, e3.go s, e4⟩, h.nt.go s⟩
theorem LS.row (h : LS K R sc W Nn Pt l xs ns es G) : RowAt K R sc G := ⟨h.rin, let ⟨cs, q⟩ := h.scr; ⟨cs, Same.seq (cut_le l _) q⟩⟩
theorem LS.new {p : Addr} {o : HO} (h : LS K R sc W Nn Pt l xs ns es G) (np : G p = none) : LS K R sc W Nn Pt l xs ns es (upd G p o) :=
  h.go (wh_new np) (h.rin.upd (h.rin.ne np)) (same_upd np _ _ h.ll)
theorem LS.but (h : LS K R sc W Nn Pt l xs ns es G) (r : RowAt K R sc G') (s : SameBut R G G') : LS K R sc W Nn Pt l xs ns es G' :=
  h.go (wh_but s) r.1 (cut_get (s _ _ ((cut_ne h.lR).trans h.ll))).2
theorem LS.put {us : List V} (h : LS K R sc W Nn Pt l xs ns es G) : LS K R sc W Nn Pt l xs ns us (upd G l (.lst us)) := h.go (wh_set h.lR) (h.rin.upd h.lR) upd_same
theorem LS.fr {p : Addr} {o : HO} (h : LS K R sc W Nn Pt l xs ns es G) (np : G p = none) : Wh R l (upd G p o) p = some o := wh_at upd_same (h.rin.ne np) (ne_of_none h.ll np).symm
theorem LS.hW (h : LS K R sc W Nn Pt l xs ns es G) : G W = some (.lst xs) := wh_le R l G _ _ h.st
theorem LS.hN (h : LS K R sc W Nn Pt l xs ns es G) : G Nn = some (.lst ns) := wh_le R l G _ _ h.nn
theorem wh_ne {p : Addr} {o : HO} (h : Wh R l G p = some o) : p ≠ R := (cut_get (cut_get h).2).1
theorem LS.okx (h : LS K R sc W Nn Pt l xs ns es G) : OkAll R l G xs := fun x hx => by
  obtain ⟨a, ys, rfl, e, o, _⟩ := h.t5 x hx
  exact .tup e o
/-- (c,) * n -/
theorem use_repT {n c : Int} {rest : TA} {σ : L2.St} {Q : List V → Hp → Prop} (h : LS K R sc W Nn Pt l xs ns es G) (h2 : 2 ≤ n) (h3 : n ≤ 1000) (k : ∀ p G', LS K R sc W Nn Pt l xs ns es G' → Same G G' → Ok R l G' (.ref p) → rest σ G' fun us H => Q (.ref p :: us) H) :
    tCons (tOp (rRepT K) (tTup (tCons (tC (.int c)) tNil)) (tC (.int n))) rest σ G Q := by
  refine ⟨(by show 1 ≤ sizeLine; decide), fun p np => ⟨p, n, [.int c], rfl, rfl, SqT.of upd_same, by simp, h2, h3, (by show 1 ≤ 1000; decide), fun p2 np2 => k p2 _ ((h.new np).new np2) ((same_upd np).trans (same_upd np2)) (.tup ((h.new np).fr np2) fun v hv => ?_)⟩⟩
  obtain ⟨y, h1, h2⟩ := List.mem_flatten.mp hv
  rw [List.eq_of_mem_replicate h1] at h2
  rw [List.mem_singleton.mp h2]
  exact .int c
/-- [c] * n -/
theorem use_rep {n c : Int} {rest : TA} {σ : L2.St} {Q : List V → Hp → Prop} (h : LS K R sc W Nn Pt l xs ns es G) (h2 : 2 ≤ n) (h3 : n ≤ 1000) (k : ∀ p G', LS K R sc W Nn Pt l xs ns es G' → Same G G' → Ok R l G' (.ref p) → rest σ G' fun us H => Q (.ref p :: us) H) :
    tCons (tOp rRep (tLst (tCons (tC (.int c)) tNil)) (tC (.int n))) rest σ G Q := by
  refine ⟨(by show 1 ≤ sizeLine; decide), fun p np => ⟨p, n, [.int c], rfl, rfl, upd_same, by omega, by omega, (by show 1 * n.toNat ≤ sizeLine; exact Nat.le_trans (show _ ≤ 1000 by omega) (by decide)), fun p2 np2 => k p2 _ ((h.new np).new np2) ((same_upd np).trans (same_upd np2)) (.lst ((h.new np).fr np2) fun v hv => ?_)⟩⟩
  obtain ⟨y, h1, h2⟩ := List.mem_flatten.mp hv
  rw [List.eq_of_mem_replicate h1] at h2
  rw [List.mem_singleton.mp h2]
  exact .int c
/-- [(c,) * n] -/
theorem use_lrepT {n c : Int} {σ : L2.St} {Q : VK} (h : LS K R sc W Nn Pt l xs ns es G) (h2 : 2 ≤ n) (h3 : n ≤ 1000) (k : ∀ p z G', LS K R sc W Nn Pt l xs ns es G' → Same G G' → Ok R l G' (.ref p) → G' z = some (.lst [.ref p]) → Q (.ref z) G') :
    tLst (tCons (tOp (rRepT K) (tTup (tCons (tC (.int c)) tNil)) (tC (.int n))) tNil) σ G Q :=
  show tCons _ _ _ _ _ from use_repT h h2 h3 fun p G' h' s o => ⟨(by show 1 ≤ sizeLine; decide), fun z nz => k p z _ (h'.new nz) (s.trans (same_upd nz)) (o.go (wh_new nz)) upd_same⟩
theorem tups_cut {R sc : Addr} {G : Hp} (r : RowIn R sc G) : Same (tups G) (cut R G) := fun b o e => by
  obtain ⟨zs, rfl, e'⟩ := tups_get e
  obtain ⟨i, x, r', er, _⟩ := r
  exact (cut_ne (ne_of e' er (by intro z; cases z))).trans e'
theorem wh_mk {R l : Addr} {G : Hp} {o : HO} (n : G l = none) : Same (cut R G) (Wh R l (upd G l o)) := fun b ob e => by
  obtain ⟨h1, e1⟩ := cut_get e
  have h2 : b ≠ l := ne_of_none e1 n
  exact wh_at ((upd_ne h2).trans e1) h1 h2
theorem LS.start (r : RowAt K R sc G) (eW : G W = some (.lst xs)) (hW : W ≠ R) (eN : G Nn = some (.lst ns)) (hN : Nn ≠ R) (eP : G Pt = some (.tbl #[])) (t5 : ∀ x ∈ xs, Tup5 G x) (nt : ∀ x ∈ ns, NoteT G x) (nl : G l = none) : LS K R sc W Nn Pt l xs ns es (upd G l (.lst es)) := by
  have s : Same (cut R G) (Wh R l (upd G l (.lst es))) := wh_mk nl
  have st := (tups_cut r.1).trans s
  refine ⟨r.1.upd (r.1.ne nl), upd_same, r.1.ne nl, s _ _ ((cut_ne hW).trans eW), s _ _ ((cut_ne hN).trans eN), ?_, let ⟨cs, q⟩ := r.2; ⟨cs, Same.seq s q⟩, fun x hx => ?_, fun x hx => ?_⟩
  · obtain ⟨i, x, r', er, _⟩ := r.1
    exact s _ _ ((cut_ne (ne_of eP er (by intro z; cases z))).trans eP)
  · obtain ⟨a, ys, ds, rfl, e, hd, hl⟩ := t5 x hx
    exact ⟨a, ys, rfl, st _ _ (tups_at e), OkAll.of (DaAll.same st _ _ hd), hl⟩
  · obtain ⟨d, hd, _⟩ := nt x hx
    exact ⟨d, Da.same st _ _ hd⟩
theorem use_zz {l1 : Addr} {us : List V} {Q : VK} (e : G l1 = some (.lst us)) (hz : us.length ≤ 100) (k : ∀ W tz G', Same G G' → G' W = some (.lst (us ++ [.ref tz])) → Tup5 G' (.ref tz) → G W = none → Q (.ref W) G') :
    1 ≤ sizeLine ∧ ∀ t0, G t0 = none → rRepT K (.ref t0) (.int 8) (upd G t0 (.tup [.int 0])) fun v G1 => 5 ≤ sizeLine ∧ ∀ tz, G1 tz = none → (1 ≤ sizeLine ∧ ∀ lz, (upd G1 tz (.tup [.str "zz", .int 1, .int 5, v, .int 1])) lz = none →
      rCat (.ref l1) (.ref lz) (upd (upd G1 tz (.tup [.str "zz", .int 1, .int 5, v, .int 1])) lz (.lst [.ref tz])) Q) := by
  refine ⟨by decide, fun t0 n0 => ⟨t0, 8, [.int 0], rfl, rfl, SqT.of upd_same, by simp, by decide, by decide, (by show 1 ≤ 1000; decide), fun t1 n1 => ⟨by decide, fun tz nz => ⟨by decide, fun lz nlz => ?_⟩⟩⟩⟩
  have s1 : Same G _ := (same_upd (o := .tup [.int 0]) n0).trans (same_upd (o := .tup (List.replicate (8 : Int).toNat [V.int 0]).flatten) n1)
  have s2 := s1.trans (same_upd (o := .tup [.str "zz", .int 1, .int 5, .ref t1, .int 1]) nz)
  have s3 := s2.trans (same_upd (o := .lst [.ref tz]) nlz)
  refine ⟨l1, lz, us, [.ref tz], rfl, rfl, s3 _ _ e, upd_same, Nat.le_trans (show us.length + 1 ≤ 101 by omega) (by decide), fun W nW => ?_⟩
  have s4 := s3.trans (same_upd (o := .lst (us ++ [.ref tz])) nW)
  refine k W tz _ s4 upd_same ?_ (s3.free nW)
  have sa := (same_upd (o := .lst [.ref tz]) nlz).trans (same_upd (o := .lst (us ++ [.ref tz])) nW)
  have sb := (same_upd (o := .tup [.str "zz", .int 1, .int 5, .ref t1, .int 1]) nz).trans sa
  exact ⟨tz, _, [.str "zz", .int 1, .int 5, .tuple ([0, 0, 0, 0, 0, 0, 0, 0].map PyData.int), .int 1], rfl, sa _ _ upd_same,
    .cons (.str _ (by decide)) (.cons (.int _) (.cons (.int _) (.cons (.tup (tups_at (sb _ _ upd_same)) (DaAll.ints [0, 0, 0, 0, 0, 0, 0, 0])) (.cons (.int _) .nil)))), rfl⟩
theorem go_of (s : Same G G') : Go R l G G' := cut_of (cut_of s)
theorem cutV_len (us : List V) (lo hi : Option Int) : (cutV us lo hi).length ≤ us.length := by
  unfold cutV
  rw [List.length_take, List.length_drop]
  omega
theorem use_pick {a : Addr} {us : List V} {Q : VK} (h : LS K R sc W Nn Pt l xs ns es G) (ea : G a = some (.lst us)) (hR : a ≠ R) (h0 : 0 < us.length) (hz : us.length ≤ 1000) (k : ∀ v G', v ∈ us → LS K R sc W Nn Pt l xs ns es G' → Go R l G G' → SameBut R G G' → Q v G') :
    spPick K [.ref R, .ref a] G Q E0 := ⟨R, sc, a, us, rfl, h.row, hR, ea, h0, Nat.le_trans hz (by decide), fun v G' hv r s => k v G' hv (h.but r s) (wh_but s) s⟩
end
mutual
theorem Da.ext {H H' : Hp} (s : LamX.ExtN H H') : ∀ (d : PyData) (v : V), Da H v d → Da H' v d
  | .none, _, h => by cases h; exact .non
  | .bool b, _, h => by cases h; exact .bl b
  | .int i, _, h => by cases h; exact .int i
  | .str x, _, h => by cases h with | str _ z => exact .str x z
  | .list ds, _, h => by
    cases h with
    | lst e a => exact .lst (s _ _ e (by intro _ z; cases z)) (DaAll.ext s ds _ a)
  | .tuple ds, _, h => by
    cases h with
    | tup e a => exact .tup (s _ _ e (by intro _ z; cases z)) (DaAll.ext s ds _ a)
  | .dict .., _, h => by cases h
theorem DaAll.ext {H H' : Hp} (s : LamX.ExtN H H') : ∀ (ds : List PyData) (vs : List V), DaAll H vs ds → DaAll H' vs ds
  | [], _, h => by cases h; exact .nil
  | d :: ds, _, h => by
    cases h with
    | cons a b => exact .cons (Da.ext s d _ a) (DaAll.ext s ds _ b)
end
theorem lawFree1 : ∀ y ∈ (lamScope (lamE 0)).names, y.2 = .free → (defScope sLaw).names.lookup y.1 = some .cell ∨ (defScope sLaw).names.lookup y.1 = some .free := by decide +kernel
theorem lawFree2 : ∀ y ∈ (lamScope (lamE 1)).names, y.2 = .free → (defScope sLaw).names.lookup y.1 = some .cell ∨ (defScope sLaw).names.lookup y.1 = some .free := by decide +kernel
section
open LamX NdefX
theorem work_two {q : Str} {cl1 cl2 : List (Str × Addr)} {Ga Gb Gw : Hp} {la ca lb cb db : Addr} (ela : Ga la = some (LamO la q (lamParams (lamE 0)) (lamBody (lamE 0)) (lamScope (lamE 0)) cl1 ca .none)) (eca : Ga ca = some (CodeO ca q))
    (elb : Gb lb = some (LamO lb q (lamParams (lamE 1)) (lamBody (lamE 1)) (lamScope (lamE 1)) cl2 cb (.ref db))) (ecb : Gb cb = some (CodeO cb q)) (edb : Gb db = some (.tup [.int 0])) (n1 : ExtN Ga Gw) (n2 : ExtN Gb Gw) :
    ∀ x ∈ [V.ref la, V.ref lb], ∃ f, x = .ref f ∧ WorkO q cl1 cl2 Gw f := fun x hx => by
  simp only [List.mem_cons, List.not_mem_nil, or_false] at hx
  rcases hx with rfl | rfl
  · exact ⟨la, rfl, WorkO.ext (.inl ⟨ca, ela, eca⟩) n1⟩
  · exact ⟨lb, rfl, WorkO.ext (.inr ⟨cb, db, elb, ecb, edb⟩) n2⟩
end
end Ms
set_option Elab.async false
set_option linter.all false
set_option maxRecDepth 100000
set_option maxHeartbeats 4000000
namespace Ms
open PySem PySem.Spec PyProof.Rows L2
/-! ### law -/
section
open LamX NdefX
variable {P : Program} {w : World} {K : PySem.W.Frag} {mg : Str → Option Value} {base : Heap}
abbrev NL : List Str := ["_law_script", "_law_row", "_law_stores_here", "_law_notes", "_law_store", "_law_at", "_law_spot", "_law_note", "_law_pool", "_law_change", "_law_due", "_law_k", "_law_work", "_law_told", "error", "_law_value", "_law_one"]
theorem scLaw : FnScope NL ["_law_script"] (defScope sLaw) := ⟨rfl, rfl, rfl, by decide +kernel, rfl, by decide +kernel, by decide +kernel⟩
def spLaw (K : PySem.W.Frag) (Pt : Addr) : Sp := fun vs H Q _ => ∃ (a : Addr) (ns : List Int), vs = [.ref a] ∧ SqL K H a (ns.map V.int) ∧ H Pt = some (.tbl #[]) ∧ ∀ H', Q (.bl true) H'
/-- StoreError, as the except clause names it -/
structure StTxt (K : PySem.W.Frag) (mg : Str → Option Value) (C S : Addr) : Prop where
  gS : mg "StoreError" = some (.ref S)
  te : PySem.W.exmOne K (.ref C) (.ref S) = some true
theorem law_ok {fa C fI S c Pt : Addr} {kV doc pm ct oc : Value} {od an : Option Addr} {osl : Array (Option Value)} (lk : K.lookup fa = some ⟨oc, od, .func (PySem.W.fnOf "law" "law" (defArgs sLaw) (defBody sLaw) (defScope sLaw) .none kV doc pm an (.ref c) ct), osl⟩) (hcd : PySem.W.codeIn K (.ref c) "law" = true)
    (TB : TabB base mg c Pt) (b : Bl mg) (T : BadTxt P K mg C fI) (TI : BadIs K C) (TS : StTxt K mg C S)
    (D1 : Does P w K mg base CX0 5 "_law_stores" ["_law_row", "_law_many", "_law_turns"] (spStores K)) (D2 : Does P w K mg base CX0 2 "_law_pick" ["_law_row", "_law_things"] (spPick K)) (D3 : Does P w K mg base CX0 1 "_law_taken" ["_law_row", "_law_many"] (spTaken K))
    (D4 : Does P w K mg base CX0 2 "_law_is_note" ["_law_value"] spIsNote) (D5 : Does P w K mg base CX0 1 "_law_over" ["_law_note", "_law_other"] spCov) (D6 : Does P w K mg base (L2.CX P w) 5 "merged" ["store", "other"] (spRead C false)) (D7 : Does P w K mg base (L2.CX P w) 5 "differ" ["store", "other"] (spRead C true))
    (D8 : Does P w K mg base CX0 1 "_law_alike" ["_law_found", "_law_due"] spAlike) :
    FnOk P w K mg base CX0 7 fa (PySem.W.fnOf "law" "law" (defArgs sLaw) (defBody sLaw) (defScope sLaw) .none kV doc pm an (.ref c) ct) ["_law_script"] (spLaw K Pt) := by
  obtain ⟨f1, fd1, g1, k1, b1, G1⟩ := D1
  obtain ⟨f2, fd2, g2, k2, b2, G2⟩ := D2
  obtain ⟨f3, fd3, g3, k3, b3, G3⟩ := D3
  obtain ⟨f4, fd4, g4, k4, b4, G4⟩ := D4
  obtain ⟨f5, fd5, g5, k5, b5, G5⟩ := D5
  obtain ⟨f8, fd8, g8, k8, b8, G8⟩ := D8
  refine fn_of lk hcd scLaw (fun vs H Q E h => ?_) fun A outer s H vs Q E hr h => ?_
  · obtain ⟨a, ns, rfl, _⟩ := h
    rfl
  · obtain ⟨sc, ns, rfl, hS, hPt, q⟩ := h
    have nd := scLaw.nd
    have hu := hu_of hr
    have hu0 := Nat.lt_of_succ_lt hu
    have hr1 := hr.mono (by decide : 1 ≤ 6)
    have hr2 := hr.mono (by decide : 2 ≤ 6)
    have hr5 := hr.mono (by decide : 5 ≤ 6)
    refine (fun ⟨t, h1, h2⟩ => ⟨t, PSs.nox h1, h2⟩ : (∃ t, PSs (cxOf CX0 P w K mg base NL "law" (defScope sLaw) fa (.ref c) A outer s H E).nox (defBody sLaw) t ∧ t { nx := fun _ H' => Q .non H', rt := Q } (L2.start NL [.ref sc]) H) → _) ?_
    refine ⟨_, pss_cons (ps_set (i := 1) nd rfl (Or.inl rfl) (pe_lst (pa_cons (pv 0) (pa_cons pe_int (pa_cons pe_int (pa_cons pe_int pa_nil))))))
      (pss_cons (ps_asg (pe_call G1 hr5 (by rfl) g1 k1 b1 .nil pass0 (pa_cons (pv 1) (pa_cons pe_int (pa_cons pe_int pa_nil)))) (pg_tup (by rfl) (pgs_cons (pg_name (i := 2) nd rfl (Or.inl rfl)) (pgs_cons (pg_name (i := 3) nd rfl (Or.inl rfl)) pgs_nil))))
      (pss_cons (ps_set (i := 4) nd rfl (Or.inl rfl) (pe_op op_cat (pe_callTy call_list_of (by rfl) b.lst boot_list (pa_cons (pe_call G2 hr2 (by rfl) g2 k2 b2 .nil pass0 (pa_cons (pv 1) (pa_cons (pv 2) pa_nil))) pa_nil))
        (pe_lst (pa_cons (pe_tup (pa_cons pe_str (pa_cons pe_int (pa_cons pe_int (pa_cons (pe_op op_repT (pe_tup (pa_cons pe_int pa_nil)) pe_int) (pa_cons pe_int pa_nil)))))) pa_nil))))
      (pss_cons (ps_par (i := 5) (j := 6) (by rfl) nd rfl rfl (by decide) rfl rfl (pa_cons (pe_call G3 hr1 (by rfl) g3 k3 b3 .nil pass0 (pa_cons (pv 1) (pa_cons (pe_callB call_len_seq (by rfl) b.len boot_len (pa_cons (pv 4) pa_nil)) pa_nil)))
        (pa_cons (pe_call G3 hr1 (by rfl) g3 k3 b3 .nil pass0 (pa_cons (pv 1) (pa_cons pe_int pa_nil))) pa_nil)) (by rfl))
      (pss_cons (ps_set (i := 7) nd rfl (Or.inl rfl) (pe_callTy call_list_of (by rfl) b.lst boot_list (pa_cons (pe_ix ix_list (pv 4) (pv 5) (fun _ _ => rfl)) pa_nil)))
      (pss_cons (ps_set (i := 8) nd rfl (Or.inl rfl) (pe_lst (pa_cons pe_non (pa_cons pe_bl (pa_cons pe_int (pa_cons pe_int (pa_cons (pe_un un_neg pe_int) (pa_cons pe_str (pa_cons pe_str (pa_cons (pe_op op_repS pe_str pe_int)
        (pa_cons (pe_op op_repT (pe_tup (pa_cons pe_int pa_nil)) pe_int) (pa_cons (pe_op op_repT (pe_tup (pa_cons pe_int pa_nil)) pe_int) (pa_cons (pe_op op_rep (pe_lst (pa_cons pe_int pa_nil)) pe_int) (pa_cons (pe_op op_repT (pe_tup (pa_cons pe_int pa_nil)) pe_int)
        (pa_cons (pe_op op_shl pe_int pe_int) (pa_cons pe_str pa_nil))))))))))))))))
      (pss_cons (ps_set (i := 8) nd rfl (Or.inl rfl) (pe_op op_cat (pv 8) (pe_lst (pa_cons (pe_op op_shl pe_int pe_int) (pa_cons pe_int pa_nil)))))
      (pss_cons (ps_asg (pe_call G2 hr2 (by rfl) g2 k2 b2 .nil pass0 (pa_cons (pv 1) (pa_cons (pe_op op_cat (pv 8) (pe_lst (pa_cons (pe_op op_repT (pe_tup (pa_cons pe_int pa_nil)) pe_int) pa_nil))) pa_nil))) (pg_sub (pv 7) (pv 6) set_list (fun _ => rfl)))
      (pss_cons (ps_set (i := 9) nd rfl (Or.inl rfl) (pe_call G2 hr2 (by rfl) g2 k2 b2 .nil pass0 (pa_cons (pv 1) (pa_cons (pe_lst (pa_cons (pe_callTy call_tuple_of (by rfl) b.tup boot_tuple (pa_cons (pv 7) pa_nil))
        (pa_cons (pe_slice sl_tup (pe_ix ix_list (pv 4) (pv 5) (fun _ _ => rfl)) po_none (po_some pe_int)) (pa_cons (pe_callTy call_list_of (by rfl) b.lst boot_list (pa_cons (pe_ix ix_list (pv 4) (pv 5) (fun _ _ => rfl)) pa_nil))
        (pa_cons (pe_call G2 hr2 (by rfl) g2 k2 b2 .nil pass0 (pa_cons (pv 1) (pa_cons (pv 4) pa_nil))) (pa_cons (pe_call G2 hr2 (by rfl) g2 k2 b2 .nil pass0 (pa_cons (pv 1) (pa_cons (pe_op op_cat (pv 3) (pe_lst (pa_cons (pe_ix ix_list (pv 4) (pv 5) (fun _ _ => rfl)) pa_nil))) pa_nil)))
        (pa_cons pe_int pa_nil))))))) pa_nil))))
      (pss_cons (ps_set (i := 15) nd rfl (Or.inr rfl) (pe_call G2 hr2 (by rfl) g2 k2 b2 .nil pass0 (pa_cons (pv 1) (pa_cons (pe_lst
        (pa_cons (pe_op op_cat (pe_op op_cat (pe_slice sl_list (pv 4) po_none (po_some (pv 5))) (pe_lst (pa_cons (pv 9) pa_nil))) (pe_slice sl_list (pv 4) (po_some (pe_op op_add (pv 5) pe_int)) po_none))
        (pa_cons (pe_op op_cat (pe_op op_cat (pe_slice sl_list (pv 4) po_none (po_some (pv 5))) (pe_lst (pa_cons (pv 9) pa_nil))) (pe_slice sl_list (pv 4) (po_some (pv 5)) po_none))
        (pa_cons (pv 4) pa_nil)))) pa_nil))))
      (pss_cons (ps_set (i := 10) nd rfl (Or.inl rfl) pe_non)
      (pss_cons (ps_for PassesOwn.never rfl (pi_range1 (by rfl) b.rng (pa_cons (pe_callB call_len_seq (by rfl) b.len boot_len (pa_cons (pv 15) pa_nil)) pa_nil)) (pg_name (i := 11) nd rfl (Or.inr rfl))
        (pss_cons (ps_if (pw_and (pt_cmpR op_isN (pv 10) pe_non (nomark _)) (pw_and1 (pw_or (pt_not (pt_val (pe_call G4 hr2 (by rfl) g4 k4 b4 .nil pass0 (pa_cons (pe_ix ix_list (pv 15) (pv 11) (fun _ _ => rfl)) pa_nil))))
            (pw_or1 (pw_and (pt_cmpR op_gt (pv 11) pe_int (nomark _)) (pw_and1 (pt_cmpR (op_le2 hu0) (pe_slice sl_tup (pe_ix ix_list (pv 15) (pv 11) (fun _ _ => rfl)) po_none (po_some pe_int)) (pe_slice sl_tup (pe_ix ix_list (pv 15) (pe_op op_sub (pv 11) pe_int) (fun _ _ => rfl)) po_none (po_some pe_int)) (nomark _)))).pt)).pt)).pt
          (pss_one (ps_set (i := 10) nd rfl (Or.inl rfl) (pv 11))) pss_nil)
        (pss_one (ps_if (pw_and (pt_cmpR op_isN (pv 10) pe_non (nomark _)) (pw_and1 (pt_cmpR (op_neNil hu0) (pe_lc (own := [("_law_one", 16)]) (g := gName 16) (by rfl) nd (pi_list (pe_slice sl_list (pv 15) po_none (po_some (pv 11)))) (blkOk_by (own := [("_law_one", 16)]) (N := NL) (sc := defScope sLaw) (by decide +kernel))
            (fun _ _ _ _ _ => pg_name (i := 16) nd rfl (Or.inl rfl))
            (fun _ _ _ _ _ => pts_one (pw_or (pt_val (pe_call G5 hr1 (by rfl) g5 k5 b5 .nil pass0 (pa_cons (pv 16) (pa_cons (pe_ix (r := rIxL K) ix_list (pv 15) (pv 11) (fun _ _ => rfl)) pa_nil)))) (pw_or1 (pt_val (pe_call G5 hr1 (by rfl) g5 k5 b5 .nil pass0 (pa_cons (pe_ix (r := rIxL K) ix_list (pv 15) (pv 11) (fun _ _ => rfl)) (pa_cons (pv 16) pa_nil)))))).pt)
            (fun _ _ _ _ _ => pv 16)) (pe_lst pa_nil) (nomark _)))).pt
          (pss_one (ps_set (i := 10) nd rfl (Or.inl rfl) (pv 11))) pss_nil))))
      (pss_cons (ps_for PassesOwn.never rfl (pi_list (pe_lst (pa_cons (pe_lam0 (T := [(Pt, (cxOf CX0 P w K mg base NL "law" (defScope sLaw) fa (.ref c) A outer s H E).env.qual ++ "<lambda>")]) TB rfl List.mem_cons_self (fun p hp _ => by rw [List.mem_singleton.mp hp]) (fun y hy e => ?F1) rfl)
          (pa_cons (pe_lam1 (T := [(Pt, (cxOf CX0 P w K mg base NL "law" (defScope sLaw) fa (.ref c) A outer s H E).env.qual ++ "<lambda>")]) TB rfl List.mem_cons_self (fun p hp _ => by rw [List.mem_singleton.mp hp]) (fun y hy e => ?F2) rfl rfl) pa_nil)))) (pg_name (i := 12) nd rfl (Or.inl rfl))
        (pss_cons (ps_set (i := 13) nd rfl (Or.inl rfl) pe_non)
        (pss_cons (ps_try_as (i := 14) (tb := fun W => tDrop (tWork C ((cxOf CX0 P w K mg base NL "law" (defScope sLaw) fa (.ref c) A outer s H E).env.qual ++ "<lambda>") (cloFrom (cxOf CX0 P w K mg base NL "law" (defScope sLaw) fa (.ref c) A outer s H E).env.cells (lamScope (lamE 0)).names []) (cloFrom (cxOf CX0 P w K mg base NL "law" (defScope sLaw) fa (.ref c) A outer s H E).env.cells (lamScope (lamE 1)).names []) 12 15 W))
            (ts := fun a cls d => tAsg (tIf (tB (tCB (rIsBad C a cls d) (tCons (tVar 14) (tCons (tC (.ref C)) tNil)))) (tByIndex C a cls d (tVar 14)) (tC (.str "other"))) (gName 13)) (Wout := fun _ _ _ _ => False) rfl rfl nd rfl rfl ⟨rfl, by decide, Or.inl TS.gS⟩ L2.takes0
            (fun W pn xe tk _ => pss_one (ps_expr (pe_work b D6 D7 hr tk rfl (Or.inl rfl) rfl rfl)))
            (fun a oe cls d pn hz hf => pss_one (ps_set (i := 13) nd rfl (Or.inl rfl) (pe_ifExp (pt_val (pe_callB (call_isBad T TI hz hf) (by rfl) b.isi boot_isinstance (pa_cons (pv 14) (pa_cons (pe_glob (v := .ref C) (by rfl) T.gC rfl) pa_nil)))) (pe_byIndex T hz hf (pv 14)) pe_str))))
        (pss_one (ps_if (pt_not (pt_val (pe_call G8 hr1 (by rfl) g8 k8 b8 .nil pass0 (pa_cons (pv 13) (pa_cons (pv 10) pa_nil))))) (pss_one (ps_ret pe_bl)) pss_nil)))))
      (pss_one (ps_ret pe_bl)))))))))))))), ?_⟩
    case F1 => exact lawFree1 y hy e
    case F2 => exact lawFree2 y hy e
    refine ⟨_, rfl, (by show 4 ≤ sizeLine; decide), fun R nR => ?_⟩
    have sR : Same H (upd H R (.lst [.ref sc, .int 0, .int 10710, .int 0])) := same_upd nR
    have hR0 : RowAt K R sc (upd H R (.lst [.ref sc, .int 0, .int 10710, .int 0])) := ⟨⟨0, 10710, 0, upd_same, by decide, by decide, by decide, by decide⟩, ns, by rw [cut_upd]; exact Same.seq (cut_free nR) hS⟩
    refine ⟨_, rfl, R, sc, rfl, hR0, fun tT sS Nn vs nts G1 hR1 s1 eT eS lS aS eN lN aN nSR nNR => ?_⟩
    refine ⟨tT, _, rfl, SqT.of eT, rfl, _, _, rfl, _, _, rfl, rfl, ?_⟩
    refine ⟨_, rfl, _, rfl, R, sc, sS, vs, rfl, hR1, nSR, eS, by omega, by omega, fun v G2 hv hR2 s2 => ?_⟩
    obtain ⟨a2, ds2, xs2, rfl, ea2, hda2, hl2, hg2⟩ := ((aS v hv).mono (tups_but hR1.1 s2) (Nat.le_refl _)).ref
    have hlx := hda2.length
    refine ⟨a2, xs2, rfl, .inr (SqT.of ea2), fun l1 n1 => use_zz upd_same (by omega) (fun W tz G3 s3 eW t5z nW => ?_)⟩
    have s23 : Same G2 G3 := (same_upd (o := .lst xs2) n1).trans s3
    have hWR : W ≠ R := hR2.1.ne ((same_upd n1).free nW)
    have hR3 : RowAt K R sc G3 := ⟨let ⟨i, x, r, e, q⟩ := hR2.1; ⟨i, x, r, s23 _ _ e, q⟩, hR2.2.but (cut_of s23)⟩
    have lW : (xs2 ++ [V.ref tz]).length ≤ 30 := by rw [List.length_append]; show _ + 1 ≤ 30; omega
    have pW : 0 < (xs2 ++ [V.ref tz]).length := by rw [List.length_append]; show 0 < _ + 1; omega
    have t5 : ∀ x ∈ xs2 ++ [V.ref tz], Tup5 G3 x := fun x hx => by
      rcases List.mem_append.mp hx with e | e
      · obtain ⟨d, hd, hg⟩ := hda2.each hg2 x e
        exact (NoteT.five ⟨d, hd, hg⟩).mono (tups_same s23)
      · rw [List.mem_singleton.mp e]; exact t5z
    generalize xs2 ++ [V.ref tz] = ws at *
    refine ⟨_, rfl, _, rfl, W, ws, rfl, .inl (SqL.of eW), R, sc, _, rfl, by omega, by omega, hR3, fun t G4 t0 t1 hR4 s4 => ?_⟩
    refine ⟨_, rfl, R, sc, 5, rfl, by decide, by decide, hR4, fun u G5 u0 u1 hR5 s5 => ⟨_, _, rfl, ?_⟩⟩
    have s45 : SameBut R G3 G5 := s4.trans s5
    have t45 : Same (tups G3) (tups G5) := tups_but hR3.1 s45
    have s15 : SameBut R G1 G5 := s2.trans ((cut_of s23).trans s45)
    have eW5 : G5 W = some (.lst ws) := (cut_get (s45 _ _ ((cut_ne hWR).trans eW))).2
    obtain ⟨x0, at0, m0, ix0⟩ := at_list t0 t1
    obtain ⟨a0, es0, ds0, rfl, ea0, hd0, hl0⟩ := (t5 _ m0).mono t45
    refine ⟨_, rfl, _, rfl, W, ws, t, .ref a0, rfl, rfl, SqL.of eW5, at0, a0, es0, rfl, .inr (SqT.of ea0), fun nl nnl => ?_⟩
    have L6 : LS K R sc W Nn Pt nl ws nts es0 (upd G5 nl (.lst es0)) := LS.start hR5 eW5 hWR (cut_get (s15 _ _ ((cut_ne nNR).trans eN))).2 nNR (cut_get (s15 _ _ (s1 _ _ ((cut_ne (ne_of_none hPt nR)).trans (sR _ _ hPt))))).2 (fun x hx => (t5 x hx).mono t45) (fun x hx => (aN x hx).mono (tups_but hR1.1 s15)) nnl
    obtain ⟨ay, ys, ey, ewy, oy, ly⟩ := L6.t5 _ m0
    cases ey
    have eys : ys = es0 := by
      have e1 := wh_le _ _ _ _ _ ewy
      rw [same_upd nnl _ _ ea0] at e1
      cases e1
      rfl
    subst eys
    generalize upd G5 nl (.lst ys) = G6 at L6 ewy oy ⊢
    -- the pool
    refine ⟨_, rfl, _, _, rfl, rfl, by decide, by decide, by decide, by decide, by decide, ?_⟩
    refine use_repT (n := 8) (c := 0) L6 (by decide) (by decide) fun p1 G7 L7 s7 o1 => ?_
    refine use_repT (n := 7) (c := 0) L7 (by decide) (by decide) fun p2 G8 L8 s8 o2 => ?_
    refine use_rep (n := 8) (c := 0) L8 (by decide) (by decide) fun p3 G9 L9 s9 o3 => ?_
    refine use_repT (n := 8) (c := 1) L9 (by decide) (by decide) fun p4 G10 L10 s10 o4 => ?_
    refine ⟨_, _, rfl, rfl, ⟨by decide, by decide, by decide⟩, (by show 14 ≤ sizeLine; decide), fun pl npl => ?_⟩
    have x11 : Same G10 (upd G10 pl (.lst [.non, .bl true, .int 0, .int 8, .int (-1), .str "", .str "a", .str (repS "x" 41), .ref p1, .ref p2, .ref p3, .ref p4, .int 134217728, .str "#"])) := same_upd npl
    have L11 := L10.new (o := .lst [.non, .bl true, .int 0, .int 8, .int (-1), .str "", .str "a", .str (repS "x" 41), .ref p1, .ref p2, .ref p3, .ref p4, .int 134217728, .str "#"]) npl
    refine ⟨_, rfl, _, _, rfl, rfl, ⟨by decide, by decide, by decide⟩, (by show 2 ≤ sizeLine; decide), fun pj npj => ?_⟩
    have x12 := x11.trans (same_upd (o := .lst [.int 2199023255552, .int 3]) npj)
    have L12 := L11.new (o := .lst [.int 2199023255552, .int 3]) npj
    refine ⟨pl, pj, _, _, rfl, rfl, same_upd npj _ _ upd_same, upd_same, (by show 14 + 2 ≤ sizeLine; decide), fun pk npk => ?_⟩
    have x13 := x12.trans (same_upd (o := .lst [.non, .bl true, .int 0, .int 8, .int (-1), .str "", .str "a", .str (repS "x" 41), .ref p1, .ref p2, .ref p3, .ref p4, .int 134217728, .str "#", .int 2199023255552, .int 3]) npk)
    have L13 := L12.new (o := .lst [.non, .bl true, .int 0, .int 8, .int (-1), .str "", .str "a", .str (repS "x" 41), .ref p1, .ref p2, .ref p3, .ref p4, .int 134217728, .str "#", .int 2199023255552, .int 3]) npk
    -- what is put into the note
    refine ⟨_, rfl, _, rfl, use_lrepT (n := 8) (c := 5) L13 (by decide) (by decide) fun p5 p6 G14 L14 s14 o5 e6 => ?_⟩
    refine ⟨pk, p6, [.non, .bl true, .int 0, .int 8, .int (-1), .str "", .str "a", .str (repS "x" 41), .ref p1, .ref p2, .ref p3, .ref p4, .int 134217728, .str "#", .int 2199023255552, .int 3], [.ref p5], rfl, rfl, s14 _ _ upd_same, e6, (by show 16 + 1 ≤ sizeLine; decide), fun p7 n7 => ?_⟩
    have L14' := L14.new (o := .lst [.non, .bl true, .int 0, .int 8, .int (-1), .str "", .str "a", .str (repS "x" 41), .ref p1, .ref p2, .ref p3, .ref p4, .int 134217728, .str "#", .int 2199023255552, .int 3, .ref p5]) n7
    refine use_pick L14' upd_same (L14.rin.ne n7) (by show 0 < 17; decide) (by show 17 ≤ 1000; decide) fun v G15 hv L15 g15 _ => ?_
    have q14 : Same G10 _ := x13.trans s14
    have n14 : Go R nl G14 _ := wh_new (o := .lst [.non, .bl true, .int 0, .int 8, .int (-1), .str "", .str "a", .str (repS "x" 41), .ref p1, .ref p2, .ref p3, .ref p4, .int 134217728, .str "#", .int 2199023255552, .int 3, .ref p5]) n7
    have ov : Ok R nl G15 v := by
      have all : OkAll R nl G14 [.non, .bl true, .int 0, .int 8, .int (-1), .str "", .str "a", .str (repS "x" 41), .ref p1, .ref p2, .ref p3, .ref p4, .int 134217728, .str "#", .int 2199023255552, .int 3, .ref p5] :=
        .cons ⟨_, .non⟩ (.cons ⟨_, .bl _⟩ (.cons (.int _) (.cons (.int _) (.cons (.int _) (.cons (.str (by decide)) (.cons (.str (by decide)) (.cons (.str (by decide)) (.cons (o1.go (go_of (s8.trans (s9.trans (s10.trans q14))))) (.cons (o2.go (go_of (s9.trans (s10.trans q14)))) (.cons (o3.go (go_of (s10.trans q14))) (.cons (o4.go (go_of q14)) (.cons (.int _) (.cons (.str (by decide)) (.cons (.int _) (.cons (.int _) (.cons o5 .nil))))))))))))))))
      exact ((all v hv).go n14).go g15
    have g6 : Go R nl G6 G15 := ((go_of (s7.trans (s8.trans (s9.trans (s10.trans q14))))).trans n14).trans g15
    obtain ⟨_, _, _, ixu⟩ := at_list (xs := ys) u0 (by omega)
    refine ⟨_, rfl, _, rfl, nl, ys, u, u.toNat, rfl, rfl, L15.ll, ixu, ?_⟩
    have g16 : Go R nl G15 (upd G15 nl (.lst (ys.set u.toNat v))) := wh_set L15.lR
    have L16 : LS K R sc W Nn Pt nl ws nts (ys.set u.toNat v) (upd G15 nl (.lst (ys.set u.toNat v))) := L15.put
    have oy16 := (oy.go g6).go g16
    have os16 : OkAll R nl _ (ys.set u.toNat v) := fun x hx => by
      rcases List.mem_or_eq_of_mem_set hx with e | e
      · exact oy16 x e
      · rw [e]; exact ov.go g16
    have ew16 := g16 _ _ (g6 _ _ ewy)
    generalize upd G15 nl (.lst (ys.set u.toNat v)) = G16 at L16 oy16 os16 ew16 ⊢
    have eaOf : ∀ {G : Hp}, Go R nl G16 G → G a0 = some (.tup ys) := fun {G} g => wh_le _ _ _ _ _ (g _ _ ew16)
    generalize ys.set u.toNat v = zs at L16 os16
    -- the change
    refine ⟨_, rfl, _, rfl, nl, zs, rfl, .inl ⟨SqL.of L16.ll, fun q1 nq1 => ?_⟩⟩
    have L17 := L16.new (o := .tup zs) nq1
    have w17 : Go R nl G16 _ := wh_new (o := .tup zs) nq1
    have k1 := L16.fr (o := .tup zs) nq1
    refine ⟨_, rfl, _, rfl, W, ws, t, .ref a0, rfl, rfl, SqL.of L17.hW, at0, 4, rfl, a0, ys, rfl, SqT.of (eaOf w17), not_whole (k := 4) (by rw [ly]; decide), fun q2 nq2 => ?_⟩
    have L18 := L17.new (o := .tup (cutV ys none (some 4))) nq2
    have w18 := w17.trans (wh_new (o := .tup (cutV ys none (some 4))) nq2)
    have k1 := wh_new (o := .tup (cutV ys none (some 4))) nq2 _ _ k1
    have k2 := L17.fr (o := .tup (cutV ys none (some 4))) nq2
    refine ⟨_, rfl, _, rfl, W, ws, t, .ref a0, rfl, rfl, SqL.of L18.hW, at0, a0, ys, rfl, .inr (SqT.of (eaOf w18)), fun q3 nq3 => ?_⟩
    have L19 := L18.new (o := .lst ys) nq3
    have w19 := w18.trans (wh_new (o := .lst ys) nq3)
    have k1 := wh_new (o := .lst ys) nq3 _ _ k1
    have k2 := wh_new (o := .lst ys) nq3 _ _ k2
    have k3 := L18.fr (o := .lst ys) nq3
    refine ⟨_, rfl, _, rfl, use_pick L19 L19.hW (wh_ne L19.st) pW (by omega) fun v4 G20 hv4 L20 g20 _ => ?_⟩
    have ok4 : Ok R nl G20 v4 := (L19.okx.go g20) v4 hv4
    have w20 := w19.trans g20
    have k1 := g20 _ _ k1
    have k2 := g20 _ _ k2
    have k3 := g20 _ _ k3
    refine ⟨_, rfl, _, rfl, _, rfl, _, rfl, W, ws, t, .ref a0, rfl, rfl, SqL.of L20.hW, at0, (by show 1 ≤ sizeLine; decide), fun q4 nq4 => ?_⟩
    have L21 := L20.new (o := .lst [.ref a0]) nq4
    have g21 : Go R nl G20 _ := wh_new (o := .lst [.ref a0]) nq4
    refine ⟨Nn, q4, nts, [.ref a0], rfl, rfl, L21.hN, upd_same, Nat.le_trans (show nts.length + 1 ≤ 561 by omega) (by decide), fun q5 nq5 => ?_⟩
    have L22 := L21.new (o := .lst (nts ++ [.ref a0])) nq5
    have g22 := g21.trans (wh_new (o := .lst (nts ++ [.ref a0])) nq5)
    refine use_pick L22 upd_same (L21.rin.ne nq5) (by rw [List.length_append]; show 0 < _ + 1; omega) (by rw [List.length_append]; show _ + 1 ≤ 1000; omega) fun v5 G23 hv5 L23 g23 _ => ?_
    have g23' := g22.trans g23
    have ok5 : Ok R nl G23 v5 := by
      rcases List.mem_append.mp hv5 with e | e
      · exact (L22.nt.go g23) _ e
      · rw [List.mem_singleton.mp e]
        exact L23.okx _ m0
    have w23 := w20.trans g23'
    have k1 := g23' _ _ k1
    have k2 := g23' _ _ k2
    have k3 := g23' _ _ k3
    have ok4 := ok4.go g23'
    refine ⟨(by show 6 ≤ sizeLine; decide), fun q6 nq6 => ?_⟩
    have L24 := L23.new (o := .lst [.ref q1, .ref q2, .ref q3, v4, v5, .int 5]) nq6
    have g24 : Go R nl G23 _ := wh_new (o := .lst [.ref q1, .ref q2, .ref q3, v4, v5, .int 5]) nq6
    refine use_pick L24 upd_same (L23.rin.ne nq6) (by show 0 < 6; decide) (by show 6 ≤ 1000; decide) fun ch G25 hch L25 g25 _ => ?_
    have w25 := w23.trans (g24.trans g25)
    have okc : Ok R nl G25 ch := by
      have all : OkAll R nl G23 [.ref q1, .ref q2, .ref q3, v4, v5, .int 5] := .cons (.tup k1 (os16.go w23)) (.cons (.tup k2 (oy16.go w23).cut) (.cons (.lst k3 (oy16.go w23)) (.cons ok4 (.cons ok5 (.cons (.int _) .nil)))))
      exact ((all ch hch).go g24).go g25
    -- the value
    refine ⟨_, rfl, _, rfl, _, rfl, t, rfl, W, ws, rfl, SqL.of L25.hW, fun c1 nc1 => ?_⟩
    have L26 := L25.new (o := .lst (cutV ws none (some t))) nc1
    have x26 : Same G25 _ := same_upd (o := .lst (cutV ws none (some t))) nc1
    refine ⟨_, rfl, (by show 1 ≤ sizeLine; decide), fun c2 nc2 => ?_⟩
    have L27 := L26.new (o := .lst [ch]) nc2
    have x27 := x26.trans (same_upd (o := .lst [ch]) nc2)
    have z1 := cutV_len ws none (some t)
    have z2 := cutV_len ws (some (t + 1)) none
    have z3 := cutV_len ws (some t) none
    refine ⟨c1, c2, cutV ws none (some t), [ch], rfl, rfl, same_upd nc2 _ _ upd_same, upd_same, Nat.le_trans (show (cutV ws none (some t)).length + 1 ≤ 31 by omega) (by decide), fun c3 nc3 => ?_⟩
    have L28 := L27.new (o := .lst (cutV ws none (some t) ++ [ch])) nc3
    have x28 := x27.trans (same_upd (o := .lst (cutV ws none (some t) ++ [ch])) nc3)
    refine ⟨_, rfl, _, rfl, _, _, rfl, rfl, _, rfl, W, ws, rfl, SqL.of L28.hW, fun c4 nc4 => ?_⟩
    have L29 := L28.new (o := .lst (cutV ws (some (t + 1)) none)) nc4
    have x29 := x28.trans (same_upd (o := .lst (cutV ws (some (t + 1)) none)) nc4)
    refine ⟨c3, c4, cutV ws none (some t) ++ [ch], cutV ws (some (t + 1)) none, rfl, rfl, same_upd nc4 _ _ upd_same, upd_same, Nat.le_trans (show (cutV ws none (some t) ++ [ch]).length + (cutV ws (some (t + 1)) none).length ≤ 61 by rw [List.length_append]; show (cutV ws none (some t)).length + 1 + _ ≤ 61; omega) (by decide), fun r1 nr1 => ?_⟩
    have L30 := L29.new (o := .lst (cutV ws none (some t) ++ [ch] ++ cutV ws (some (t + 1)) none)) nr1
    have x30 := x29.trans (same_upd (o := .lst (cutV ws none (some t) ++ [ch] ++ cutV ws (some (t + 1)) none)) nr1)
    refine ⟨_, rfl, _, rfl, t, rfl, W, ws, rfl, SqL.of L30.hW, fun d1 nd1 => ?_⟩
    have L31 := L30.new (o := .lst (cutV ws none (some t))) nd1
    have y31 := same_upd (o := .lst (cutV ws none (some t))) nd1
    refine ⟨_, rfl, (by show 1 ≤ sizeLine; decide), fun d2 nd2 => ?_⟩
    have L32 := L31.new (o := .lst [ch]) nd2
    have y32 := y31.trans (same_upd (o := .lst [ch]) nd2)
    refine ⟨d1, d2, cutV ws none (some t), [ch], rfl, rfl, same_upd nd2 _ _ upd_same, upd_same, Nat.le_trans (show (cutV ws none (some t)).length + 1 ≤ 31 by omega) (by decide), fun d3 nd3 => ?_⟩
    have L33 := L32.new (o := .lst (cutV ws none (some t) ++ [ch])) nd3
    have y33 := y32.trans (same_upd (o := .lst (cutV ws none (some t) ++ [ch])) nd3)
    refine ⟨_, rfl, _, rfl, t, rfl, W, ws, rfl, SqL.of L33.hW, fun d4 nd4 => ?_⟩
    have L34 := L33.new (o := .lst (cutV ws (some t) none)) nd4
    have y34 := y33.trans (same_upd (o := .lst (cutV ws (some t) none)) nd4)
    refine ⟨d3, d4, cutV ws none (some t) ++ [ch], cutV ws (some t) none, rfl, rfl, same_upd nd4 _ _ upd_same, upd_same, Nat.le_trans (show (cutV ws none (some t) ++ [ch]).length + (cutV ws (some t) none).length ≤ 61 by rw [List.length_append]; show (cutV ws none (some t)).length + 1 + _ ≤ 61; omega) (by decide), fun r2 nr2 => ?_⟩
    have L35 := L34.new (o := .lst (cutV ws none (some t) ++ [ch] ++ cutV ws (some t) none)) nr2
    have y35 := y34.trans (same_upd (o := .lst (cutV ws none (some t) ++ [ch] ++ cutV ws (some t) none)) nr2)
    refine ⟨_, rfl, (by show 3 ≤ sizeLine; decide), fun r3 nr3 => ?_⟩
    have L36 := L35.new (o := .lst [.ref r1, .ref r2, .ref W]) nr3
    have y36 := y35.trans (same_upd (o := .lst [.ref r1, .ref r2, .ref W]) nr3)
    have z36 := same_upd (o := .lst [.ref r1, .ref r2, .ref W]) nr3
    refine use_pick L36 upd_same (L35.rin.ne nr3) (by show 0 < 3; decide) (by show 3 ≤ 1000; decide) fun vv Gv hvv Lv gv bv => ?_
    have okv : OkAll R nl Gv [ch] := .cons (okc.go ((go_of (x30.trans y36)).trans gv)) .nil
    have valF : ∃ (va : Addr) (vals : List V), vv = .ref va ∧ Gv va = some (.lst vals) ∧ OkAll R nl Gv vals ∧ vals.length ≤ 100 := by
      simp only [List.mem_cons, List.not_mem_nil, or_false] at hvv
      rcases hvv with rfl | rfl | rfl
      · exact ⟨r1, _, rfl, (cut_get (bv _ _ ((cut_ne (L29.rin.ne nr1)).trans (y36 _ _ upd_same)))).2, (OkAll.append Lv.okx.cut okv).append Lv.okx.cut, by rw [List.length_append, List.length_append]; show (cutV ws none (some t)).length + 1 + _ ≤ 100; omega⟩
      · exact ⟨r2, _, rfl, (cut_get (bv _ _ ((cut_ne (L34.rin.ne nr2)).trans (z36 _ _ upd_same)))).2, (OkAll.append Lv.okx.cut okv).append Lv.okx.cut, by rw [List.length_append, List.length_append]; show (cutV ws none (some t)).length + 1 + _ ≤ 100; omega⟩
      · exact ⟨W, ws, rfl, Lv.hW, Lv.okx, by omega⟩
    obtain ⟨va, vals, rfl, eva, okvals, lv⟩ := valF
    obtain ⟨ds, hds0⟩ := okvals.da
    have hds : DaAll Gv vals ds := DaAll.same (wh_le R nl Gv) _ _ hds0
    have ept : Gv Pt = some (.tbl #[]) := wh_le _ _ _ _ _ Lv.tb
    have hl := hds.length
    have hnote : ∀ k < ds.length, ∃ u, vals[k]? = some u ∧ Da Gv u (noteAt ds k) := fun k hk => by
      have e1 : ds[k]? = some (noteAt ds k) := by unfold noteAt; rw [List.getElem?_eq_getElem hk]; rfl
      exact hds.getD e1
    refine ⟨_, rfl, va, vals, rfl, .inl (SqL.of eva), vals.length, rfl, by omega, by omega, ?_⟩
    refine for_it (walk_range (n := vals.length)) (fun i σ G => (∃ y11 y12 y13 y14 y16, σ = [some (.ref sc), some (.ref R), some (.ref sS), some (.ref Nn), some (.ref W), some (.int t), some (.int u), some (.ref nl), some (.ref pk), some ch, some (dOf (dueUp ds i)), y11, y12, y13, y14, some (.ref va), y16]) ∧ Same Gv G)
      ⟨⟨_, _, _, _, _, rfl⟩, Same.refl Gv⟩ (fun _ _ _ _ _ => trivial) (fun i x σ G G' hi h y => ?_) (fun σ G h => ?_)
    · obtain ⟨⟨y11, y12, y13, y14, y16, rfl⟩, s2⟩ := h
      obtain ⟨rfl, ex⟩ := y
      have ex : x = .int (i : Nat) := by
        have e := show x = .int ((0 : Int) + (i : Nat)) from ex
        rw [Int.zero_add] at e
        exact e
      subst ex
      have hid : i < ds.length := by rw [← hl]; exact hi
      obtain ⟨u2, eu2, du⟩ := hnote i hid
      have hsucc := dueUp_succ ds i
      cases hk : dueUp ds i with
      | some k0 =>
        rw [hk] at hsucc
        refine ⟨_, rfl, rfl, _, rfl, iteF ?_⟩
        refine ⟨_, rfl, rfl, _, rfl, iteF ?_⟩
        exact ⟨⟨_, _, _, _, _, by rw [hsucc]; rfl⟩, s2⟩
      | none =>
        rw [hk] at hsucc
        have hset : badAt ds i = true → dOf (dueUp ds (i + 1)) = .int (i : Nat) := fun hb => by rw [hsucc, hb]; rfl
        have hno : badAt ds i = false → dOf (dueUp ds (i + 1)) = .non := fun hb => by rw [hsucc, hb]; rfl
        have hgood := dueUp_good hk
        have at1 : atI vals ((i : Nat) : Int) = some u2 := atI_nat eu2
        refine ⟨_, rfl, rfl, _, rfl, iteT ?_⟩
        refine ⟨_, rfl, _, rfl, va, vals, (i : Nat), u2, rfl, rfl, SqL.of (s2 _ _ eva), at1, u2, _, rfl, Da.same s2 _ _ du, fun H2 s3 => ⟨_, rfl, ?_⟩⟩
        have s23 := s2.trans s3
        have hb0 : badAt ds i = (!isNote (noteAt ds i) || (decide (0 < i) && le2D (noteAt ds i) (noteAt ds (i - 1))) || crossD ds i) := rfl
        by_cases n1 : isNote (noteAt ds i) = true
        case neg =>
          rw [Bool.eq_false_iff.mpr n1] at hb0 ⊢
          refine iteT ⟨_, rfl, ?_⟩
          refine ⟨_, rfl, rfl, _, rfl, iteF ?_⟩
          exact ⟨⟨_, _, _, _, _, by rw [hset (by rw [hb0]; rfl)]; rfl⟩, s23⟩
        rw [n1] at hb0 ⊢
        obtain ⟨z, ii, jj, p, x, en, _, i0, i7, _, _, hp, _⟩ := note_shape n1
        rw [en] at du
        obtain ⟨ua, ub, ux, ps, rfl, eua, _⟩ := note_at du hp
        refine iteF ?_
        refine use_q (T := fun Q' => tAnd _ _ _ _ Q') (fun Q' => ∀ H4, Same Gv H4 → Q' (decide (0 < i) && le2D (noteAt ds i) (noteAt ds (i - 1))) H4) (fun H4 s4 => ?_) (fun Q' hQ => ?_)
        rotate_left
        · refine ⟨_, rfl, _, _, rfl, rfl, _, rfl, ?_⟩
          by_cases hi0 : 0 < i
          case neg =>
            have z0 : decide (0 < i) = false := decide_eq_false hi0
            have z1 : decide ((0 : Int) < (i : Int)) = false := decide_eq_false (by omega)
            rw [z1]
            rw [z0] at hQ
            exact iteF (hQ _ s23)
          have z0 : decide (0 < i) = true := decide_eq_true hi0
          have z1 : decide ((0 : Int) < (i : Int)) = true := decide_eq_true (by omega)
          rw [z1]
          rw [z0, Bool.true_and] at hQ
          obtain ⟨u3, eu3, du3⟩ := hnote (i - 1) (by omega)
          obtain ⟨z', ii', jj', p', x', en', _, _, _, _, _, hp', _⟩ := note_shape (good_note (hgood (i - 1) (by omega)))
          rw [en'] at du3
          obtain ⟨ua', ub', ux', ps', rfl, eua', _⟩ := note_at du3 hp'
          rw [le2_prev en en'] at hQ
          have at2 : atI vals ((i : Int) - 1) = some (.ref ua') := by
            have := atI_nat eu3
            have e1 : ((i - 1 : Nat) : Int) = (i : Int) - 1 := by omega
            rw [e1] at this
            exact this
          refine iteT ⟨_, rfl, _, rfl, va, vals, (i : Nat), .ref ua, rfl, rfl, SqL.of (s23 _ _ eva), at1, 2, rfl, ua, _, rfl, SqT.of (s23 _ _ eua), not_whole (k := 2) (by show 2 < 5; decide), fun c1 n1' => ?_⟩
          have s4 := s23.trans (same_upd (o := .tup (cutV [V.str z, .int ii, .int jj, .ref ub, ux] none (some 2))) n1')
          refine ⟨_, rfl, _, rfl, _, _, rfl, rfl, va, vals, _, .ref ua', rfl, rfl, SqL.of (s4 _ _ eva), at2, 2, rfl, ua', _, rfl, SqT.of (s4 _ _ eua'), not_whole (k := 2) (by show 2 < 5; decide), fun c2 n2' => ?_⟩
          have s5 := s4.trans (same_upd (o := .tup (cutV [V.str z', .int ii', .int jj', .ref ub', ux'] none (some 2))) n2')
          exact ⟨c1, c2, z, z', ii, ii', rfl, rfl, SqT.of ((upd_ne (ne_of_none upd_same n2')).trans upd_same), SqT.of upd_same, _, rfl, hQ _ s5⟩
        cases hc : (decide (0 < i) && le2D (noteAt ds i) (noteAt ds (i - 1))) with
        | true =>
          rw [hc] at hb0
          refine iteT ⟨_, rfl, ?_⟩
          refine ⟨_, rfl, rfl, _, rfl, iteF ?_⟩
          exact ⟨⟨_, _, _, _, _, by rw [hset (by rw [hb0]; rfl)]; rfl⟩, s4⟩
        | false =>
        rw [hc] at hb0
        have hb1 : badAt ds i = crossD ds i := by rw [hb0]; rfl
        refine iteF ?_
        refine ⟨_, rfl, rfl, _, rfl, iteT ?_⟩
        refine ⟨_, rfl, _, rfl, (i : Int), rfl, va, vals, rfl, SqL.of (s4 _ _ eva), fun c1 n1' => ?_⟩
        have s5 := s4.trans (same_upd (o := .lst (cutV vals none (some (i : Int)))) n1')
        have ec : cutV vals none (some (i : Int)) = vals.take i := cut_take vals i
        have el : (vals.take i).length = i := by rw [List.length_take]; omega
        rw [ec] at s5 ⊢
        refine ⟨c1, rfl, ⟨_, SqL.of upd_same⟩, fun D hD => lc_flt (sl := 16) (walk_list (xs := vals.take i)) (fun j => (vals.take i)[j]?.getD .non) (fun j => covD (noteAt ds j) (noteAt ds i) || covD (noteAt ds i) (noteAt ds j))
          (fun j Hj x H' hj y => ⟨y.1, (getD_of y.2).symm⟩) hD ?_ (Nat.lt_succ_self 16) (fun Hj sj => SqL.of (sj _ _ upd_same)) (fun j Hj Q' hj sj kk => ?_) (fun Hj sj ej => ?_)⟩
        · rw [el]
          exact Nat.le_trans (show i ≤ 100 by omega) (by decide)
        · rw [el] at hj
          obtain ⟨u3, eu3, du3⟩ := hnote j (by omega)
          have n2 : isNote (noteAt ds j) = true := good_note (hgood j hj)
          have e3 : (vals.take i)[j]?.getD .non = u3 := by rw [List.getElem?_take, if_pos hj, eu3]; rfl
          have s6 := s5.trans sj
          have dd : Da Hj (V.ref ua) (noteAt ds i) := by rw [en]; exact Da.same s6 _ _ du
          rw [e3]
          refine ⟨u3, rfl, _, rfl, _, rfl, va, vals, (i : Nat), .ref ua, rfl, rfl, SqL.of (s6 _ _ eva), at1, u3, _, _, _, rfl, Da.same s6 _ _ du3, dd, isNote_like n2, isNote_like n1, _, rfl, ?_⟩
          cases c1 : covD (noteAt ds j) (noteAt ds i) with
          | true =>
            rw [c1] at kk
            exact iteT (kk Hj (Same.refl Hj))
          | false =>
            rw [c1, Bool.false_or] at kk
            exact iteF ⟨_, rfl, _, rfl, va, vals, (i : Nat), .ref ua, rfl, rfl, SqL.of (s6 _ _ eva), at1, u3, rfl, _, u3, _, _, rfl, dd, Da.same s6 _ _ du3, isNote_like n1, isNote_like n2, _, rfl, kk Hj (Same.refl Hj)⟩
        · have s6 := s5.trans sj
          refine ⟨Nat.zero_le _, fun o no => ⟨D, o, _, rfl, rfl, SqL.of ((upd_ne (ne_of_none ej no)).trans ej), SqL.of upd_same, _, rfl, ?_⟩⟩
          have s7 := s6.trans (same_upd (o := .lst []) no)
          rw [flt_empty, el, any_not]
          rw [show ((List.range i).any fun j => covD (noteAt ds j) (noteAt ds i) || covD (noteAt ds i) (noteAt ds j)) = crossD ds i from rfl]
          cases hx : crossD ds i with
          | true => exact iteT ⟨_, rfl, ⟨_, _, _, _, _, by rw [hset (hb1.trans hx)]; rfl⟩, s7⟩
          | false => exact iteF ⟨⟨_, _, _, _, _, by rw [hno (hb1.trans hx)]; rfl⟩, s7⟩
    · obtain ⟨⟨y11, y12, y13, y14, y16, rfl⟩, s2⟩ := h
      have edu : dueUp ds vals.length = storeDue ds := by rw [hl]; rfl
      rw [edu]
      refine ⟨fun p hp => by rw [List.mem_singleton.mp hp]; exact TabS.nil (s2 _ _ ept), fun la ca Ga na Ta lf ela eca => ⟨Ta, fun lb cb db Gb nb Tb lfb elb ecb edb => ⟨(by show 2 ≤ sizeLine; decide), fun lw nlw => ⟨lw, rfl, ⟨_, SqL.of upd_same⟩, ?_⟩⟩⟩⟩
      have nw : ExtN Gb (upd Gb lw (.lst [.ref la, .ref lb])) := ExtN.of (same_upd nlw)
      have gw : ExtN Gv (upd Gb lw (.lst [.ref la, .ref lb])) := (ExtN.of s2).trans (na.trans (nb.trans nw))
      have elw : upd Gb lw (.lst [.ref la, .ref lb]) lw = some (.lst [.ref la, .ref lb]) := upd_same
      have ev2 := gw _ _ eva (by intro _ z; cases z)
      have hd2 := DaAll.ext gw _ _ hds
      have work := work_two ela eca elb ecb edb (nb.trans nw) nw
      generalize upd Gb lw (.lst [.ref la, .ref lb]) = Gw at elw ev2 hd2 work ⊢
      refine for_it (walk_list (xs := [.ref la, .ref lb])) (fun i σ G => (∃ y11 y12 y13 y14 y16, σ = [some (.ref sc), some (.ref R), some (.ref sS), some (.ref Nn), some (.ref W), some (.int t), some (.int u), some (.ref nl), some (.ref pk), some ch, some (dOf (storeDue ds)), y11, y12, y13, y14, some (.ref va), y16]) ∧ Same Gw G)
        ⟨⟨_, _, _, _, _, rfl⟩, Same.refl Gw⟩ (fun i σ G _ h => SqL.of (h.2 _ _ elw)) (fun i x σ G G' hi h y => ?_) (fun σ G h => ?_)
      · obtain ⟨⟨y11, y12, y13, y14, y16, rfl⟩, s3⟩ := h
        obtain ⟨rfl, ex⟩ := y
        obtain ⟨f, rfl, hw⟩ := work x (List.mem_of_getElem? ex)
        refine ⟨f, rfl, hw.ext (ExtN.of s3), va, vals, ds, rfl, s3 _ _ ev2, DaAll.same s3 _ _ hd2, by omega, fun hn v' H' s4 => ?_, fun k hk H' d s4 ed => ?_⟩
        · rw [hn]
          exact ⟨_, rfl, _, rfl, .non, .none, rfl, .non, .inl rfl, fun H5 s5 => ⟨_, rfl, iteF ⟨⟨_, _, _, _, _, rfl⟩, (s3.trans s4).trans s5⟩⟩⟩
        · rw [hk]
          refine ⟨true, TS.te, fun _ a na' => ?_, fun z => nomatch z⟩
          refine ⟨_, rfl, rfl, rfl, ⟨d, .int (k : Nat), rfl, ed⟩, _, rfl, iteT ⟨_, rfl, rfl, rfl, d, .int (k : Nat), rfl, ed, ?_⟩⟩
          exact ⟨_, rfl, _, rfl, .int (k : Nat), .int (k : Nat), rfl, .int _, .inr ⟨_, rfl⟩, fun H5 s5 => ⟨_, rfl, iteF ⟨⟨_, _, _, _, _, rfl⟩, (s3.trans s4).trans s5⟩⟩⟩
      · exact q _
end
end Ms
set_option Elab.async false
set_option linter.all false
set_option maxRecDepth 100000
set_option maxHeartbeats 4000000
namespace Ms
open PySem PySem.Spec PyProof.Rows L2
/-! ### the end -/
def At0 (K : PySem.W.Frag) (mg : Str → Option Value) (x : Str) (st : Stmt) : Prop := ∃ f fd, mg x = some (.ref f) ∧ Fun K x x st f fd
theorem at_mk {K : PySem.W.Frag} {h : Heap} {mg : Str → Option Value} {x : Str} {st : Stmt} {f : Addr} {oc : Value} {od an : Option Addr} {osl : Array (Option Value)} {kV doc pm cdv ct : Value} (X : K.In h) (G : h.Ns mainGlobals mg) (a : PySem.W.nsIn K mainGlobals x = some (some (.ref f)))
    (l : K.lookup f = some ⟨oc, od, .func (PySem.W.fnOf x x (defArgs st) (defBody st) (defScope st) .none kV doc pm an cdv ct), osl⟩) (c : PySem.W.codeIn K cdv x = true) (k : PySem.W.keepIn K (.ref f) = true) : At0 K mg x st :=
  ⟨f, _, PySem.W.mg_of X G a, fun_mk (st := st) l c k⟩
theorem At0.at {K : PySem.W.Frag} {mg : Str → Option Value} {x : Str} {st : Stmt} {ps : List Str} (h : At0 K mg x st)
    (b : ∀ (kV doc pm : Value) (an : Option Addr) (cdv ct : Value) (us : List Value), us.length = ps.length → bindArgs (PySem.W.fnOf x x (defArgs st) (defBody st) (defScope st) .none kV doc pm an cdv ct) ⟨us, []⟩ = pure (ps.zip us)) : At K mg x st ps :=
  let ⟨f, fd, g, F⟩ := h
  ⟨f, fd, g, F, F.binds b⟩
theorem c_int {K : PySem.W.Frag} {h : Heap} {mg : Str → Option Value} {x : Str} {i : Int} {t : Tok} (X : K.In h) (G : h.Ns mainGlobals mg) (a : PySem.W.nsIn K mainGlobals x = some (some (.int i t))) : ∃ t, mg x = some (.int i t) := ⟨t, PySem.W.mg_of X G a⟩
theorem c_str {K : PySem.W.Frag} {h : Heap} {mg : Str → Option Value} {x z : Str} {t : Tok} (X : K.In h) (G : h.Ns mainGlobals mg) (a : PySem.W.nsIn K mainGlobals x = some (some (.str z t))) : ∃ t, mg x = some (.str z t) := ⟨t, PySem.W.mg_of X G a⟩
section
open LamX PySem.HandSPX
variable {P : Program} {w : World} {K : PySem.W.Frag} {mg : Str → Option Value} {base : Heap}
/-- the defs of the top, where they stand -/
structure Defs (K : PySem.W.Frag) (mg : Str → Option Value) : Prop where
  isIn : At0 K mg "is_in" sIsIn
  isText : At0 K mg "is_text" sIsText
  isValue : At0 K mg "is_value" sIsValue
  isKey : At0 K mg "is_key" sIsKey
  isPast : At0 K mg "is_past" sIsPast
  isNote : At0 K mg "is_note" sIsNote
  nameIn : At0 K mg "name_in" sNameIn
  covers : At0 K mg "covers_in" sCovers
  need : At0 K mg "need_store" sNeed
  mergedIn : At0 K mg "merged_in" sMergedIn
  merged : At0 K mg "merged" sMerged
  namesIn : At0 K mg "names_in" sNamesIn
  differIn : At0 K mg "differ_in" sDifferIn
  differ : At0 K mg "differ" sDiffer
  taken : At0 K mg "_law_taken" sTaken
  pick : At0 K mg "_law_pick" sPick
  someKey : At0 K mg "_law_some_key" sSomeKey
  place : At0 K mg "_law_place" sPlace
  written : At0 K mg "_law_written" sWritten
  signsRow : At0 K mg "_law_signs_row" sSignsRow
  someText : At0 K mg "_law_some_text" sSomeText
  signed : At0 K mg "_law_signed" sSigned
  someValue : At0 K mg "_law_some_value" sSomeValue
  over : At0 K mg "_law_over" sOver
  lmerged : At0 K mg "_law_merged" sLMerged
  stores : At0 K mg "_law_stores" sStores
  isVec : At0 K mg "_law_is_vector" sIsVec
  lisNote : At0 K mg "_law_is_note" sLIsNote
  alike : At0 K mg "_law_alike" sAlike
theorem all_mk {fa C fI S c Pt : Addr} {kV doc pm ct oc : Value} {od an : Option Addr} {osl : Array (Option Value)} (D : Defs K mg) (b : Bl mg) (cs : Cs mg) (T : BadTxt P K mg C fI) (TI : BadIs K C) (TS : StTxt K mg C S)
    (lk : K.lookup fa = some ⟨oc, od, .func (PySem.W.fnOf "law" "law" (defArgs sLaw) (defBody sLaw) (defScope sLaw) .none kV doc pm an (.ref c) ct), osl⟩) (hcd : PySem.W.codeIn K (.ref c) "law" = true) (TB : TabB base mg c Pt) :
    FnOk P w K mg base CX0 7 fa (PySem.W.fnOf "law" "law" (defArgs sLaw) (defBody sLaw) (defScope sLaw) .none kV doc pm an (.ref c) ct) ["_law_script"] (spLaw K Pt) := by
  have isIn := does_is_in (P := P) (w := w) (base := base) (D.isIn.at (fun _ _ _ _ _ _ us hl => match us, hl with | [_, _, _], _ => rfl)) b
  have isText := does_is_text (P := P) (w := w) (base := base) (D.isText.at (fun _ _ _ _ _ _ us hl => match us, hl with | [_, _], _ => rfl)) b cs
  have isNote := does_is_note (D.isNote.at (fun _ _ _ _ _ _ us hl => match us, hl with | [_], _ => rfl)) b cs (does_is_key (D.isKey.at (fun _ _ _ _ _ _ us hl => match us, hl with | [_], _ => rfl)) cs isText) isIn (does_is_past (D.isPast.at (fun _ _ _ _ _ _ us hl => match us, hl with | [_], _ => rfl)) b cs isIn) (does_is_value (D.isValue.at (fun _ _ _ _ _ _ us hl => match us, hl with | [_], _ => rfl)) cs isText isIn)
  have covers := does_covers (P := P) (w := w) (base := base) (D.covers.at (fun _ _ _ _ _ _ us hl => match us, hl with | [_, _], _ => rfl))
  have over := does_over (P := P) (w := w) (base := base) (D.over.at (fun _ _ _ _ _ _ us hl => match us, hl with | [_, _], _ => rfl))
  have need := does_need (D.need.at (fun _ _ _ _ _ _ us hl => match us, hl with | [_], _ => rfl)) b T isNote covers
  have merged := does_merged (D.merged.at (fun _ _ _ _ _ _ us hl => match us, hl with | [_, _], _ => rfl)) need (does_merged_in (D.mergedIn.at (fun _ _ _ _ _ _ us hl => match us, hl with | [_, _], _ => rfl)) b covers)
  have differ := does_differ (D.differ.at (fun _ _ _ _ _ _ us hl => match us, hl with | [_, _], _ => rfl)) need (does_names (D.namesIn.at (fun _ _ _ _ _ _ us hl => match us, hl with | [_], _ => rfl)) (does_name (D.nameIn.at (fun _ _ _ _ _ _ us hl => match us, hl with | [_], _ => rfl)) cs)) (does_differ_in (D.differIn.at (fun _ _ _ _ _ _ us hl => match us, hl with | [_, _], _ => rfl)) b)
  have taken := does_taken (P := P) (w := w) (base := base) (D.taken.at (fun _ _ _ _ _ _ us hl => match us, hl with | [_, _], _ => rfl)) b
  have pick := does_pick (D.pick.at (fun _ _ _ _ _ _ us hl => match us, hl with | [_, _], _ => rfl)) b taken
  have signsRow := does_signs_row (P := P) (w := w) (base := base) (D.signsRow.at (fun _ _ _ _ _ _ us hl => match us, hl with | [], _ => rfl))
  have some_value := does_some_value (D.someValue.at (fun _ _ _ _ _ _ us hl => match us, hl with | [_], _ => rfl)) taken pick (does_some_text (D.someText.at (fun _ _ _ _ _ _ us hl => match us, hl with | [_, _], _ => rfl)) b taken pick signsRow) (does_signed (D.signed.at (fun _ _ _ _ _ _ us hl => match us, hl with | [_, _], _ => rfl)) taken)
  have stores := does_stores (D.stores.at (fun _ _ _ _ _ _ us hl => match us, hl with | [_, _, _], _ => rfl)) b taken (does_some_key (D.someKey.at (fun _ _ _ _ _ _ us hl => match us, hl with | [_], _ => rfl)) pick) (does_written (D.written.at (fun _ _ _ _ _ _ us hl => match us, hl with | [_, _, _, _, _], _ => rfl)) b (D.place.at (fun _ _ _ _ _ _ us hl => match us, hl with | [_], _ => rfl))) some_value (does_lmerged (D.lmerged.at (fun _ _ _ _ _ _ us hl => match us, hl with | [_, _], _ => rfl)) b over)
  have lisNote := does_lis_note (D.lisNote.at (fun _ _ _ _ _ _ us hl => match us, hl with | [_], _ => rfl)) b (does_is_vec (D.isVec.at (fun _ _ _ _ _ _ us hl => match us, hl with | [_, _], _ => rfl)) b) signsRow
  exact law_ok lk hcd TB b T TI TS stores pick taken lisNote over merged differ (does_alike (D.alike.at (fun _ _ _ _ _ _ us hl => match us, hl with | [_, _], _ => rfl)) b)
theorem kit_self (K : PySem.W.Frag) (C : Addr) : PySem.W.kitOne K (.ref C) (.ref C) = some true := if_pos (by simp)
/-- an error of a class under S is what «except S» names -/
theorem exm_under {K : PySem.W.Frag} {C S : Addr} (h1 : PySem.W.subIn K (.ref S) (.type "BaseException") = some true) (h2 : PySem.W.isClsIn K S = true) (h3 : PySem.W.typeIn K (.ref S) = some (.type "type")) (h4 : PySem.W.subIn K (.ref C) (.ref S) = some true) :
    PySem.W.exmOne K (.ref C) (.ref S) = some true := by
  have e1 : (PySem.W.subIn K (.ref S) (.type "BaseException") == some true) = true := by rw [h1]; rfl
  have e2 : ((PySem.W.clsIn K S).isSome && PySem.W.typeIn K (.ref S) == some (.type "type")) = true := by
    have h2' : (PySem.W.clsIn K S).isSome = true := h2
    rw [h2', h3]; rfl
  refine (if_pos e1).trans ?_
  exact (if_pos e2).trans h4
theorem law_at {w : World} {h : Heap} {n : Nat} {fa f3 c Pt C fI S : Addr} {kV doc pm ct oc : Value} {od an cdd : Option Addr} {osl csl : Array (Option Value)} {vs : Array Value} {file : Str} {tf tg tt : Tok} {flags text : Int} {inF : Bool}
    (X : K.In h) (G : h.Ns mainGlobals mg) (hmg : mg "law" = some (.ref fa)) (own : OwnTab K fa h) (D : Defs K mg) (b : Bl mg) (cs : Cs mg) (T : BadTxt PySem.Challenge.rw_meetstores_k10_whole_bad_stores.prog K mg C fI) (TI : BadIs K C) (TS : StTxt K mg C S)
    (aL : PySem.W.nsIn K mainGlobals "law" = some (some (.ref f3))) (lk : K.lookup f3 = some ⟨oc, od, .func (PySem.W.fnOf "law" "law" (defArgs sLaw) (defBody sLaw) (defScope sLaw) .none kV doc pm an (.ref c) ct), osl⟩) (hcd : PySem.W.codeIn K (.ref c) "law" = true)
    (lc : K.lookup c = some ⟨.type "code", cdd, .fields vs, csl⟩) (v11 : vs[11]? = some (.ref Pt)) (v12 : vs.getD 11 .none = .ref Pt) (v18 : vs.getD 18 .none = .str file tf) (v7 : vs.getD 7 .none = .int flags tg) (v9 : vs.getD 9 .none = .bool inF) (v10 : vs.getD 10 .none = .int text tt)
    (ne : c ≠ Pt) (nP : K.lookup Pt = none) : LawAtS PySem.Challenge.rw_meetstores_k10_whole_bad_stores w K CX0 7 n "_law_script" mg fa h := by
  cases hmg.symm.trans (PySem.W.mg_of X G aL)
  have hd : PySem.W.CodeHd h c Pt := ⟨_, vs, file, tf, flags, tg, inF, text, tt, X _ _ lc, rfl, rfl, v11, v12, v18, v7, v9, v10, ne⟩
  have eP := own c Pt _ _ _ _ _ _ lk rfl rfl lc v11
  exact ⟨PySem.W.fnOf "law" "law" (defArgs sLaw) (defBody sLaw) (defScope sLaw) .none kV doc pm an (.ref c) ct, [(c, Pt)], spLaw K Pt, fun p hp => by rw [List.mem_singleton.mp hp]; exact eP, fun p hp => by rw [List.mem_singleton.mp hp]; exact nP, fun p hp => by rw [List.mem_singleton.mp hp]; exact hd,
    fun s u => .of_eq rfl, fun H a ns _ _ hT hS => ⟨a, ns, rfl, hS, hT _ List.mem_cons_self, fun _ => rfl⟩, fun base _ _ hB => all_mk D b cs T TI TS lk hcd (hB _ List.mem_cons_self)⟩
/-- the class BadStore, of what the top has left -/
theorem bad_mk {h : Heap} {C fI cda cc : Addr} {nm q : Str} {N : Addr} {bs bm : List Value} {sn : List Str} {sub : List Value} {ab : Bool} {col : Option Bool} {dd od an cdd cld : Option Addr} {k0 k1 k2 k3 k5 : Option Value} {oc doc pm ct ccl cl : Value} {osl ccs csl : Array (Option Value)} {vs : Array Value} {file : Str} {tf : Tok}
    (X : K.In h) (G : h.Ns mainGlobals mg) (aC : PySem.W.nsIn K mainGlobals "BadStore" = some (some (.ref C)))
    (xL : K.lookup C = some (excClassObj nm q C N bs bm true sn sub ab col dd k0 k1 k2 k3 k5 "ValueError.__new__")) (rV : refsVE bm = true)
    (sa : PySem.W.findIn K (.ref C) "__setattr__" = some (some (.builtin "object.__setattr__"))) (ga : PySem.W.findIn K (.ref C) "__getattribute__" = some (some (.builtin "BaseException.__getattribute__"))) (gg : PySem.W.findIn K (.ref C) "__getattr__" = some none) (noN : PySem.W.findIn K (.ref C) "index" = some none)
    (iC : PySem.W.findIn K (.ref C) "__init__" = some (some (.ref fI))) (tC : PySem.W.typeIn K (.ref fI) = some (.type "function")) (kC : PySem.W.keepIn K (.ref C) = true) (exC : PySem.W.subIn K (.ref C) (.type "BaseException") = some true) (tyC : PySem.W.typeIn K (.ref C) = some (.type "type")) (hdC : PySem.W.hasDictIn K C = true)
    (sup : PySem.W.nsIn K mainGlobals "super" = some none) (htop : (P.main.scope.names.lookup ("super" : Str)).isSome = false) (opq : PySem.W.nsIn K cStatics "thirdparty.any" = some none) (sm : PySem.W.ks_superIn K C C "__init__" = some (some (.builtin "ValueError.__init__")))
    (subB : PySem.W.subIn K (.ref C) (.type "ValueError") = some true) (mroC : PySem.W.mroIn K C (.ref C) = some true) (ein : PySem.W.excInitIn K C [.type "ValueError", .type "Exception", .type "BaseException", .type "object"] "ValueError.__new__" = true)
    (lI : K.lookup fI = some ⟨oc, od, .func (PySem.W.ksFn "__init__" "BadStore.__init__" (defArgs sBadInit) (defBody sBadInit) (defScope sBadInit) .none .none doc pm an (.ref cda) ct cc), osl⟩) (cI : PySem.W.codeIn K (.ref cda) "BadStore.__init__" = true)
    (lcc : K.lookup cc = some ⟨cl, cld, .cell (some (.ref C)), csl⟩) (lcd : K.lookup cda = some ⟨ccl, cdd, .fields vs, ccs⟩) (v2 : vs[2]? = some (.str file tf)) (hf : ((P.main.file : Str) == file) = true) : BadTxt P K mg C fI :=
  { gC := PySem.W.mg_of X G aC, cls := ⟨_, _, _, _, _, _, _, _, _, _, _, _, _, _, _, xL, rV⟩, sa := sa, ga := ga, gg := gg, noN := noN, iC := iC, tC := tC, kC := kC, exC := exC, tyC := tyC, hdC := hdC, sup := PySem.W.mg_none_of X G sup, htop := htop, opq := opq, sm := sm, subB := subB, mroC := mroC, ein := ein,
    fn := ⟨_, _, _, _, _, _, _, _, _, lI, cI, ⟨_, _, _, lcc⟩, _, _, _, _, _, _, lcd, v2, hf⟩ }
end
end Ms
open PySem PySem.W PyProof.Rows
set_option Elab.async false
set_option linter.all false
set_option maxRecDepth 100000
set_option maxHeartbeats 0
theorem PySem.Challenge.cw_meetstores_k10_whole_bad_stores_holds : PySem.Challenge.rw_meetstores_k10_whole_bad_stores.Holds := by
  w_on; o_law; k_head; (case hw => w_witness2)
  k_fill
  refine LamX.walk_ofOwn (l := PySem.Challenge.rw_meetstores_k10_whole_bad_stores) (k := 7) (x := "_law_script") (CX := fun _ => L2.CX0) rfl (by decide) rfl ⟨rfl, by decide, by decide⟩ ?hrec (fun w h Y => PySem.W.km_in_of Y) ?F (fun _ _ _ _ _ z => z)
  case hrec => decide +kernel
  case F =>
    intro w mg fa h Y KX G hmg own
    refine' Ms.law_at KX G hmg own ?D ?B ?Cn ?T ?TI ?TS ?aL ?lk ?hcd ?lc ?v11 ?v12 ?v18 ?v7 ?v9 ?v10 ?ne ?nP
    case D =>
      refine' ⟨?disIn, ?disText, ?disValue, ?disKey, ?disPast, ?disNote, ?dnameIn, ?dcovers, ?dneed, ?dmergedIn, ?dmerged, ?dnamesIn, ?ddifferIn, ?ddiffer, ?dtaken, ?dpick, ?dsomeKey, ?dplace, ?dwritten, ?dsignsRow, ?dsomeText, ?dsigned, ?dsomeValue, ?dover, ?dlmerged, ?dstores, ?disVec, ?dlisNote, ?dalike⟩
      all_goals (refine' Ms.at_mk KX G ?a ?l ?c ?k; (case a => k_is); (case l => k_is); (case c => k_is); (case k => k_is))
    case B => exact ⟨PySem.W.mg_none_of KX G (by k_is), PySem.W.mg_none_of KX G (by k_is), PySem.W.mg_none_of KX G (by k_is), PySem.W.mg_none_of KX G (by k_is), PySem.W.mg_none_of KX G (by k_is), PySem.W.mg_none_of KX G (by k_is), PySem.W.mg_none_of KX G (by k_is), PySem.W.mg_none_of KX G (by k_is), PySem.W.mg_none_of KX G (by k_is), PySem.W.mg_none_of KX G (by k_is), PySem.W.mg_none_of KX G (by k_is), PySem.W.mg_none_of KX G (by k_is), PySem.W.mg_none_of KX G (by k_is)⟩
    case Cn =>
      refine' ⟨Ms.c_int KX G ?c1, Ms.c_int KX G ?c2, Ms.c_str KX G ?c3, Ms.c_int KX G ?c4, Ms.c_int KX G ?c5, Ms.c_int KX G ?c6, Ms.c_int KX G ?c7⟩
      (case c1 => k_is)
      (case c2 => k_is)
      (case c3 => k_is)
      (case c4 => k_is)
      (case c5 => k_is)
      (case c6 => k_is)
      (case c7 => k_is)
    case T =>
      refine' Ms.bad_mk KX G ?aC ?xL ?rV ?sa ?ga ?gg ?noN ?iC ?tC ?kC ?exC ?tyC ?hdC ?sup ?htop ?opq ?sm ?subB ?mroC ?ein ?lI ?cI ?lcc ?lcd ?v2 ?hf
      (case aC => k_is)
      (case xL => k_is)
      (case rV => decide +kernel)
      (case sa => k_is)
      (case ga => k_is)
      (case gg => k_is)
      (case noN => k_is)
      (case iC => k_is)
      (case tC => k_is)
      (case kC => k_is)
      (case exC => k_is)
      (case tyC => k_is)
      (case hdC => k_is)
      (case sup => k_is)
      (case htop => first | rfl | decide +kernel)
      (case opq => k_is)
      (case sm => first | ks_is | kernel_rfl)
      (case subB => k_is)
      (case mroC => k_is)
      (case ein => first | kx_is | kernel_rfl)
      (case lI => k_is)
      (case cI => k_is)
      (case lcc => k_is)
      (case lcd => k_is)
      (case v2 => rfl)
      (case hf => first | rfl | decide +kernel)
    case TI => exact ⟨by k_is, by k_is, by k_is, by k_is, Ms.kit_self _ _⟩
    case TS =>
      refine' ⟨PySem.W.mg_of KX G ?aS, Ms.exm_under ?s1 ?s2 ?s3 ?s4⟩
      (case aS => k_is)
      (case s1 => k_is); (case s2 => k_is); (case s3 => k_is); (case s4 => k_is)
    (case aL => k_is)
    (case lk => k_is)
    (case hcd => k_is)
    (case lc => k_is)
    (case v11 => rfl)
    (case v12 => rfl)
    (case v18 => rfl)
    (case v7 => rfl)
    (case v9 => rfl)
    (case v10 => rfl)
    (case ne => decide)
    (case nP => first | kernel_rfl | rfl)
