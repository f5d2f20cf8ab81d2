import PyProof.Rows.All
import Wide.All
import OpenK.AllK
import Wide.FinOn
import HandS.Iter
import HandS.List
import HandS.SetFor
import HandS.Strs
import HandS.Text
import KE.GoesMore
import HandS.SortInts
import KE.GoesSet
import HandS.SetKeys
import HandS.ForMost
import HandS.ForExc
import HandS.Flow
import HandS.IsInst
import HandS.Defaults
import HandS.Wide
import HandS.ExcInit
import HandS.ExcIs
import HandS.ExcField
import HandS.TryMany
import HandS.Deep
import HandS.Zip
import HandS.TupAny
import KE.SortData
import HandS.Style
import HandS.Conv
import HandS.CallRecv
import HandS.MakeKwOnly
import HandS.Dict
import HandS.DictTup
import HandS.More
import HandS.New0
import HandS.Small
import KE.KExcIs
import HandS.Star
import HandS.Words
import HandS.Ends
import PySem.Challenge.RW_driftgates_k26_whole_shakes
set_option Elab.async false
set_option linter.all false
set_option maxRecDepth 100000
set_option maxHeartbeats 4000000
namespace Mi.K1
open PySem PySem.Spec PyProof.Rows
open Sem (wp)
open AutoSeq1 (wpAny_loadPart')
/-- the two new objects of enumerate(t) -/
abbrev itO (t : Addr) : Obj := { cls := .type "tuple_iterator", data := .fields #[.ref t, .int 0 0] }
abbrev enO (i : Addr) : Obj := { cls := .type "enumerate", data := .fields #[.none, .bool false, .ref i, rawInt 0, .none, .none] }
theorem new_enumT (t : Addr) (its : Array Value) (m : Nat) (dc : Option Addr) (sl : Array (Option Value)) :
    Meets (Builtin.«enumerate.__new__» ⟨[.type "enumerate", .ref t], []⟩) (fun _ R s => s.heap.get? t = some { cls := .type "tuple", dict := dc, data := .seq its m, slots := sl } ∧
      R (.ok (.ret (.ref (s.heap.push (itO t)).objs.size))) { s with heap := (s.heap.push (itO t)).push (enO s.heap.objs.size) }) :=
  .of_wp fun prog w A R s q => by
    obtain ⟨hp, g, d, tk, os⟩ := s; obtain ⟨ht, q⟩ := q
    have hs0 := sub_enumerate
    have hT : Heap.IsTuple (Shared.heap ⟨hp, g, d, tk, os⟩) t its := ⟨_, ht, rfl, m, rfl⟩
    wp_walk using wpAny_loadPart' ht
    refine wpAny_stack_any fun z => wpAny_pure ?_
    split
    · rename_i c _ _ _ _ _
      cases (c == Value.type "enumerate") <;> (wp_walk using wpAny_loadPart' ht, wpAny_pyIter_tuple hT) <;> exact ⟨_, rfl, q⟩
    · wp_walk using wpAny_loadPart' ht, wpAny_pyIter_tuple hT
      exact ⟨_, rfl, q⟩
theorem call_enumT {prog : Program} {w : World} {A : Around} {E : Value → Shared → Prop} {s : Shared} {t : Addr} {its : Array Value} {Q : Value → Shared → Prop} (hT : s.heap.IsTuple t its)
    (q : ∀ h', IsEnum h' (s.heap.objs.size + 1) s.heap.objs.size 0 .none → h'.IsTupleIter s.heap.objs.size t 0 → h'.objs.size = s.heap.objs.size + 2 →
      (∀ b u, s.heap.get? b = some u → h'.get? b = some u) → Q (.ref (s.heap.objs.size + 1)) { s with heap := h' }) :
    wpAny (model prog w) A (call (.type "enumerate") [.ref t]) Q E s := by
  obtain ⟨⟨c, dc, dt, sl⟩, ht, hc, m, hd⟩ := hT
  have hc : c = .type "tuple" := hc
  have hd : dt = .seq its m := hd
  subst hc hd
  refine callType_new F.called_enumerate (by decide) (F.typeCall_enumerate_1 _) (F.newCall_enumerate_1 _) (fun ob => F.args_object_init_2 ob _) F.entry_enumerate_new (new_enumT t its m dc sl) ⟨ht, ?_⟩
  have z1 : (s.heap.push (itO t)).objs.size = s.heap.objs.size + 1 := Heap.size_push ..
  show _ ∧ _
  rw [z1]
  have he : IsEnum ((s.heap.push (itO t)).push (enO s.heap.objs.size)) (s.heap.objs.size + 1) s.heap.objs.size 0 .none := by
    have z2 := Heap.get?_push_size (s.heap.push (itO t)) (o := enO s.heap.objs.size) rfl
    rw [z1] at z2; exact z2
  refine ⟨⟨_, he, rfl⟩, q _ he ⟨_, Heap.get?_push_of_some _ (Heap.get?_push_size _ rfl), rfl, rfl⟩ (by rw [Heap.size_push, z1]) fun b u y => Heap.get?_push_of_some _ (Heap.get?_push_of_some _ y)⟩
theorem next_enumT_end {prog : Program} {w : World} {A : Around} {E : Value → Shared → Prop} {s : Shared} {e it t : Addr} {i : Nat} {its : Array Value} {old : Value} {Q : Option Value → Shared → Prop} (hh : A.handled = none)
    (he : IsEnum s.heap e it i old) (hit : s.heap.IsTupleIter it t i) (ht : s.heap.IsTuple t its) (hx : its[i]? = none) (q : ∀ h', Heap.ExtBut it s.heap h' → Q none { s with heap := h' }) : wpAny (model prog w) A (pyNext (.ref e)) Q E s := by
  have ty : s.TypeIs (.ref e) "enumerate" := ⟨_, he, rfl⟩
  unfold pyNext
  refine wpAny_bind (wpAny_attempt (wpAny_callSpecial?_slot (name := Str.ofString "__next__") ty F.slot_enumerate_next (wpAny_call_entry F.slot_enumerate_next ty F.entry_enumerate_next ?_ (F.args_enumerate_next_1 _))))
  show wpAny _ _ (field (.ref e) 2 >>= _) _ _ _
  refine wpAny_bind (wpAny_field he rfl (x := .ref it) rfl (wpAny_bind (wpAny_nextOf_tuple_end hh hit ht hx fun h' x he' hx' => ?_)))
  obtain ⟨u, hu, hc⟩ := hx'
  exact wpAny_bind (wpAny_isInstance (T := "StopIteration") (b := true) ⟨u, hu, hc⟩ isSubtype_stop (wpAny_pure (q _ he')))
end Mi.K1
namespace Mi.K1
open PySem PySem.Spec PyProof.Rows
open L2
/-- the tuple at a, each item in a new pair -/
def IteT (K : PySem.W.Frag) (a : Addr) : It :=
  ⟨fun i H => ∃ (xs : List V) (x : V), SqT K H a xs ∧ xs[i]? = some x, fun i H v H' => ∃ T x, v = .ref T ∧ H T = none ∧ H' = upd H T (.tup [.int (i : Nat), x]) ∧ ∀ xs, SqT K H a xs → xs[i]? = some x, fun i H => ∃ xs : List V, SqT K H a xs ∧ xs.length ≤ i⟩
theorem turn_enumT {P : Program} {w : World} {K : PySem.W.Frag} {elts : List Expr} {kk : Nat} {tpos : Pos} (a e it : Addr) (hai : a ≠ it) (hae : a ≠ e) :
    Turn P w K (.Tuple elts kk tpos) (IteT K a) [e, it] e (fun i h => (∃ old, IsEnum h e it ((i : Nat) : Int) old) ∧ h.IsTupleIter it a i ∧ e ≠ it) where
  mem := by simp
  obj := fun i h st b hb => by
    obtain ⟨⟨old, he⟩, ⟨u, hu, hc, hd⟩, _⟩ := st
    rcases (show b = e ∨ b = it by simpa using hb) with z | z
    · rw [z]; exact ⟨_, he, fun v q => nomatch q⟩
    · rw [z]; exact ⟨u, hu, fun v q => by rw [hd] at q; cases q⟩
  keep := fun i h h' st k => let ⟨⟨old, he⟩, hi, hn⟩ := st; ⟨⟨old, k e (by simp) _ he⟩, hi.at fun u q => k it (by simp) u q, hn⟩
  item := by
    intro X hP hw hK hc i pins s σ H E I hf st hg
    subst hP hw hK
    obtain ⟨⟨old, he⟩, hit, hne⟩ := st
    obtain ⟨xs, x, hq, hx⟩ := hg
    obtain ⟨its, rv, p, hz⟩ := I.tuple hq
    obtain ⟨u, hu, ru⟩ := rv.get hx
    have hel : e < s.heap.objs.size := Heap.lt_size he
    have hil : it < s.heap.objs.size := by obtain ⟨_, q, _⟩ := hit; exact Heap.lt_size q
    have hp : s.heap.IsTuple a its.toArray := p
    have hlt : i < its.toArray.size := by
      have := (List.getElem?_eq_some_iff.mp hu).1
      simpa using this
    have D := Draws.tuple (prog := X.prog) (w := X.w) (A := X.A.in1) (I.ok.hd hc) it a hai its.toArray
    refine wpAny_pyNext_enum_itemD D he ⟨hit, hp⟩ hlt hne (by simp [hne, Ne.symm hae]) fun x' h' tk hPx ho hst' hT hsz hk => ?_
    have hxu : x' = u := by
      have e1 : its.toArray[i]? = some u := by simpa using hu
      rw [e1] at hPx
      exact (Option.some.inj hPx).symm
    subst hxu
    refine ⟨_, rfl, wpAny_letOwnedTupleGo_enum (s := { s with heap := h', toks := tk + 1 }) ho fun h'' he' sb => ?_⟩
    have hT2 : h''.get? s.heap.objs.size = some { cls := .type "tuple", data := .seq #[.int i tk, x'] } := (sb.2 _ (Nat.ne_of_gt hel)).trans hT
    have nw : ObjOk X.prog X.w (upd H s.heap.objs.size (.tup [.int (i : Nat), x])) h'' s.heap.objs.size (.tup [.int (i : Nat), x]) := ⟨by show 2 ≤ sizeLine; decide, [.int i tk, x'], .cons ⟨_, rfl⟩ (.cons ru .nil), ⟨_, hT2, rfl, _, rfl⟩⟩
    have I1 : Inv X pins σ (upd H s.heap.objs.size (.tup [.int (i : Nat), x])) { s with heap := h'', toks := tk + 1 } := I.turnedNew (ch := [e, it]) (fun b ob hb q => (sb.2 b (fun z => hb (by simp [z]))).trans (hk b ob (fun z => hb (by simp [z])) (fun z => hb (by simp [z])) q)) hf (Nat.le_refl _) nw
    refine ⟨.ref s.heap.objs.size, _, I1, rfl, ⟨_, x, rfl, I.hok.fresh (Nat.le_refl _), rfl, fun ys hy => by
      have : ys = xs := I.tuple_inj hy hq
      rw [this]; exact hx⟩, ⟨⟨x', ?_⟩, hst'.1.at fun o q => (sb.2 it (Ne.symm hne)).trans q, hne⟩, fun b hb => ?_⟩
    · rw [show ((i + 1 : Nat) : Int) = (i : Int) + 1 by omega]; exact he'
    · have hb' : b < s.heap.objs.size := by
        rcases (show b = e ∨ b = it by simpa using hb) with z | z
        · rw [z]; exact hel
        · rw [z]; exact hil
      rw [upd_ne (Nat.ne_of_lt hb')]; exact (hf b hb).1
  done := by
    intro X hP hw hK hc i pins s σ H E I hf st hg
    subst hP hw hK
    obtain ⟨⟨old, he⟩, hit, hne⟩ := st
    obtain ⟨xs, hq, hx⟩ := hg
    obtain ⟨its, rv, p, hz⟩ := I.tuple hq
    obtain ⟨f0, f1, f2, f3, f4, f5⟩ := hf it (by simp)
    have hl := rv.length
    exact next_enumT_end (I.ok.hd hc) he hit p (by simp; omega) fun h' eb => ⟨rfl, I.turned (t' := s.toks) (fun b u hb q => eb b u hb q) f0 f1 f3 f4 f5⟩
  self := fun A i s Q E st q => let ⟨⟨_, he⟩, _⟩ := st; wpAny_pyIter_enum he q
/-- enumerate of a list or of a tuple -/
def iEnum2 (K : PySem.W.Frag) (ta : TA) : TI := fun σ H R => ta σ H fun vs H1 => ∃ a, vs = [.ref a] ∧ ((∃ xs, SqL K H1 a xs ∧ R (Ite K a) H1) ∨ ∃ xs, SqT K H1 a xs ∧ R (IteT K a) H1)
theorem pi_enum2 {X : Cx} {e : Expr} {ta : TA} {p pos tpos : Pos} {elts : List Expr} {kk : Nat} (hg : Gl X "enumerate") (hm : X.mg "enumerate" = none) (ha : PA X [e] ta) (hs : starEach [e] X.env = [(false, eval e X.env)]) :
    PI X (.Tuple elts kk tpos) (.Call (.Name "enumerate" p) [e] [] pos) (iEnum2 X.K ta) := by
  refine ⟨fun pins s σ H R I h => Call_ (ld_blt I hg hm boot_enumerate (PyProof.Rows.callWith_type1 (thn (ha.run pos pins s σ H _ I h) fun us s1 ⟨vs, H1, I1, r1, q1⟩ => ?_) hs rfl))⟩
  obtain ⟨a, rfl, q⟩ := q1
  cases r1 with
  | cons r rr =>
    cases rr
    cases r
    have fpk : ∀ {b : Addr}, b ∈ [s1.heap.objs.size + 1, s1.heap.objs.size] → FpOk X pins H1 b := fun {b} hb => by
      have hle : s1.heap.objs.size ≤ b := by
        rcases (show b = s1.heap.objs.size + 1 ∨ b = s1.heap.objs.size by simpa using hb) with z | z
        · rw [z]; exact Nat.le_add_right _ _
        · rw [z]; exact Nat.le_refl _
      exact I1.fpOk hle (I1.hok.fresh hle)
    rcases q with ⟨xs, hq, q⟩ | ⟨xs, hq, q⟩
    · obtain ⟨its, rv, pl, hz⟩ := I1.list hq
      refine call_enumerate_list pl.isList fun h' he hit hsz hk => wpAny_pyIter_enum he ?_
      exact ⟨s1.heap.objs.size + 1, [s1.heap.objs.size + 1, s1.heap.objs.size], _, _, H1, rfl, I1.kept (t' := s1.toks) hk, turn_enum a (s1.heap.objs.size + 1) s1.heap.objs.size, ⟨⟨.none, he⟩, hit, Nat.succ_ne_self _⟩, fun b hb => fpk hb, q⟩
    · obtain ⟨its, rv, pl, hz⟩ := I1.tuple hq
      have hal : a < s1.heap.objs.size := by
        obtain ⟨u, hu, _⟩ := (show s1.heap.IsTuple a its.toArray from pl)
        exact Heap.lt_size hu
      refine call_enumT pl fun h' he hit hsz hk => wpAny_pyIter_enum he ?_
      exact ⟨s1.heap.objs.size + 1, [s1.heap.objs.size + 1, s1.heap.objs.size], _, _, H1, rfl, I1.kept (t' := s1.toks) hk, turn_enumT a (s1.heap.objs.size + 1) s1.heap.objs.size (Nat.ne_of_lt hal) (Nat.ne_of_lt (Nat.lt_succ_of_lt hal)), ⟨⟨.none, he⟩, hit, Nat.succ_ne_self _⟩, fun b hb => fpk hb, q⟩
section
variable {X : Cx}
def rCnt (K : PySem.W.Frag) : V → List V → Hp → VK → Prop := fun x xs H Q => ∃ (a : Addr) (ys : List V) (y : V), x = V.ref a ∧ xs = [y] ∧ SqL K H a ys ∧ flatV y = true ∧ ys.all flatV = true ∧ Q (.int (ys.countP (fun z => eqV z y) : Nat)) H
def rCntT (K : PySem.W.Frag) : V → List V → Hp → VK → Prop := fun x xs H Q => ∃ (a : Addr) (ys : List V) (y : V), x = V.ref a ∧ xs = [y] ∧ SqT K H a ys ∧ flatV y = true ∧ ys.all flatV = true ∧ Q (.int (ys.countP (fun z => eqV z y) : Nat)) H
theorem count_eqU {y : V} : ∀ {ys : List V} {us : List Value}, Vals ys us → ys.all flatV = true → us.countP (eqU y) = ys.countP fun z => eqV z y
  | [], _, .nil, _ => rfl
  | z :: ys, _, .cons r t, h => by
    simp only [List.all_cons, Bool.and_eq_true] at h
    rw [List.countP_cons, List.countP_cons, count_eqU t h.2, eqU_of r h.1]
theorem mt_cnt : MtR X "list.count" (rCnt X.K) := by
  intro pins s σ H x xs v us Q I rx rxs h
  obtain ⟨a, ys, y, rfl, rfl, hs, fy, fys, q⟩ := h
  cases rx
  obtain ⟨uy, rfl, ry⟩ := rxs.one
  obtain ⟨its, rv, ⟨⟨cls, dd, data, sl⟩, n, ho, hc, hdn, hd⟩, hlen⟩ := I.list hs
  simp only at hc hd
  subst hc hd
  refine call_meets PySem.F.slot_list_count ⟨_, ho, rfl⟩ PySem.F.entry_list_count (PySem.F.args_list_count_2 _ _) (SeqAt.list_countAt a its.toArray n dd sl uy (eqU y)) ⟨ho, fun u hu => mem_eqAt ry fy rv fys u (by simpa using hu), ?_⟩
  refine ⟨.int (ys.countP (fun z => eqV z y) : Nat), H, I.tok _, ⟨s.toks, ?_⟩, q⟩
  show Value.int ((its.toArray.toList.countP (eqU y) : Nat) : Int) s.toks = _
  rw [show its.toArray.toList = its from rfl, count_eqU rv fys]
theorem mt_cntT : MtR X "tuple.count" (rCntT X.K) := by
  intro pins s σ H x xs v us Q I rx rxs h
  obtain ⟨a, ys, y, rfl, rfl, hs, fy, fys, q⟩ := h
  cases rx
  obtain ⟨uy, rfl, ry⟩ := rxs.one
  obtain ⟨its, rv, pl, hz⟩ := I.tuple hs
  obtain ⟨⟨cls, dd, dt, sl⟩, ho, hc, n, hd⟩ := pl
  simp only at hc hd
  subst hc hd
  refine call_meets PySem.F.slot_tuple_count ⟨_, ho, rfl⟩ PySem.F.entry_tuple_count (PySem.F.args_tuple_count_2 _ _) (SeqAt.tuple_countAt a its.toArray n dd sl uy (eqU y)) ⟨ho, fun u hu => mem_eqAt ry fy rv fys u (by simpa using hu), ?_⟩
  refine ⟨.int (ys.countP (fun z => eqV z y) : Nat), H, I.tok _, ⟨s.toks, ?_⟩, q⟩
  show Value.int ((its.toArray.toList.countP (eqU y) : Nat) : Int) s.toks = _
  rw [show its.toArray.toList = its from rfl, count_eqU rv fys]
end
end Mi.K1

set_option maxRecDepth 100000
set_option maxHeartbeats 4000000
namespace Mi.K2
open PySem PySem.Spec PyProof.Rows
open L2
/-- a new set -/
abbrev nS (w : World) : Obj := { cls := .type "set", dict := none, data := .set #[] 0 (.fresh 0 0 (!w.params.followText "set-order")) }
section
variable {P : Program} {w : World} {A : Around} {E : Value → Shared → Prop} {s : Shared}
theorem set_lstI {l : Addr} {vs : Array Value} (ks : List Int) {Q : Value → Shared → Prop} (nh : A.handled = none) (il : s.heap.IsList l vs) (ia : IntsAre vs.toList ks) (sc : ks.length + 1 < scanBound)
    (q : ∀ (h' : Heap) (tk m : Nat), SetR w h' s.heap.objs.size (fun j => decide (j ∈ ks)) m → m ≤ ks.length → (∀ b u, s.heap.get? b = some u → h'.get? b = some u) → Q (.ref s.heap.objs.size) { s with heap := h', toks := tk }) :
    wpAny (model P w) A (call (.type "set") [.ref l]) Q E s := by
  have vz : vs.size = ks.length := by have z := IntsAre.length ia; rw [Array.length_toList] at z; exact z
  obtain ⟨c, tl, mro⟩ := F.called_set.mro
  have a1 := F.called_set.made
  have a2 := F.called_set.sub
  refine wpAny_call (codeAny_of_tree (show wpAny _ _ (callAny (.type "set") _) _ _ _ from wpAny_pure ⟨Code.quiet_builtin _ (by decide +kernel), codeAny_builtin F.entry_type_call ?_⟩))
  rw [Around.under_plain (weight_type_call_type "set" [.ref l] []) rfl]
  have a3 := F.called_set.notType
  have a4 := F.called_set.canCreate
  have a5 := F.typeCall_set_1 (.ref l)
  repeat (any_goals (first | assumption | wp_step))
  refine codeAny_mono (code_set_led1 (.ref l) (E := E) (Q₁ := fun ob s₁ => ob = .ref s.heap.objs.size ∧ s₁ = { s with heap := s.heap.push (nS w) }) ⟨rfl, rfl⟩) fun r s₁ hr => ?_
  cases r with
  | error e => exact hr
  | ok fl =>
    cases fl with
    | ret ob =>
      obtain ⟨rfl, rfl⟩ := hr
      have gS : (s.heap.push (nS w)).get? s.heap.objs.size = some (nS w) := Heap.get?_push_size _ rfl
      have gT : Shared.TypeIs { s with heap := s.heap.push (nS w) } (.ref s.heap.objs.size) "set" := ⟨_, gS, rfl⟩
      have b1 := F.called_set.init.lookup
      have b2 := F.called_set.init.bind (.ref s.heap.objs.size)
      repeat (any_goals (first | assumption | wp_step))
      refine codeAny_mono (codeAny_call_builtin (R := wants (fun r s₂ => r = .none ∧ ∃ h' tk m, s₂ = { s with heap := h', toks := tk } ∧ SetR w h' s.heap.objs.size (fun j => decide (j ∈ ks)) m ∧ m ≤ ks.length ∧ (∀ b u, s.heap.get? b = some u → h'.get? b = some u)) E) F.called_set.init.plain F.entry_set_init (check_set_init_1 gT ?_)) fun r₂ s₂ hr₂ => ?_
      · obtain ⟨⟨oc, od, odt, osl⟩, hol, hcl, nl, hdl⟩ := il
        simp only at hcl hdl
        subst hcl; subst hdl
        have hol2 : (s.heap.push (nS w)).get? l = some { cls := .type "list", dict := od, data := .seq vs nl, slots := osl } := Heap.get?_push_of_some _ hol
        have c1 := F.sub_list_set
        have c2 := F.sub_list_frozenset
        have c3 : (Value.type "list" == Value.type "dict") = false := by decide
        have hL1 : (s.heap.push (nS w)).IsList l vs := ⟨_, hol2, rfl, nl, rfl⟩
        unfold Builtin.«set.__init__» noKeywords Builtin.Frozenset.updateFrom
        generalize hPI : pyIter = PI
        wp_walk
        subst hPI
        refine wpAny_pyIter_list hL1 (wpAny_bind (wpAny_runValue ?_))
        have hlS : l < s.heap.objs.size := Heap.lt_size hol
        have nh3 : A.in1.in1.in1.handled = none := by simp [nh]
        have z1 : (s.heap.push (nS w)).objs.size = s.heap.objs.size + 1 := Heap.size_push ..
        have ne1 : l ≠ (s.heap.push (nS w)).objs.size := by rw [z1]; exact Nat.ne_of_lt (Nat.lt_succ_of_lt hlS)
        have nf : s.heap.objs.size ∉ [(s.heap.push (nS w)).objs.size, l] := by
          rw [z1]
          intro z
          rcases List.mem_cons.mp z with z | z
          · exact absurd z (Nat.ne_of_lt (Nat.lt_succ_self _))
          · exact absurd (List.mem_singleton.mp z) (Nat.ne_of_gt hlS)
        have vals : ∀ (i : Nat) (v : Value), vs[i]? = some v → ∃ k t, ks[i]? = some k ∧ v = .int k t := fun i v hv => by
          have hi : i < ks.length := by rw [← vz]; exact (Array.getElem?_eq_some_iff.mp hv).1
          obtain ⟨t, e⟩ := PyProof.Rows.IntsAre.int_at ia i v (by rw [Array.getElem?_toList]; exact hv)
          exact ⟨ks[i], t, List.getElem?_eq_getElem hi, by rw [e, List.getD_eq_getElem?_getD, List.getElem?_eq_getElem hi] <;> rfl⟩
        refine set_update_ints ((Walks.list nh3 _ l ne1 vs).toS) s.heap.objs.size nf ks vz sc vals (vs.size - 0) 0 _ (by omega) (Nat.zero_le _) ⟨⟨_, Heap.get?_push_size _ rfl, rfl, rfl⟩, (hL1.push _)⟩ ⟨0, Nat.le_refl 0, setR_new_at (Heap.get?_push_of_some _ gS)⟩ fun s' m' hm hc' hS' => ?_
        obtain ⟨h', g2, d', tk', os'⟩ := s'
        have e1 : g2 = s.gens := hm.gens
        have e2 : d' = s.drawn := hm.drawn
        have e3 : os' = s.os := hm.os
        subst e1; subst e2; subst e3
        refine wpAny_pure (show wpAny _ _ (ret Value.none) _ _ _ from wpAny_pure ⟨rfl, h', tk', m', rfl, hS', by rw [← vz]; exact hc', fun b u e => ?_⟩)
        have y0 : b < s.heap.objs.size := Heap.lt_size e
        refine hm.heap b u (fun z => ?_) (Heap.get?_push_of_some _ (Heap.get?_push_of_some _ e))
        rcases List.mem_cons.mp z with z | z
        · exact absurd z (Nat.ne_of_lt y0)
        · rw [z1] at z; exact absurd (List.mem_singleton.mp z) (Nat.ne_of_lt (Nat.lt_succ_of_lt y0))
      · cases r₂ with
        | error e => exact hr₂
        | ok fl₂ =>
          cases fl₂ with
          | ret r =>
            obtain ⟨rfl, h', tk, m', rfl, k1, k2, k3⟩ := hr₂
            repeat (any_goals (first | assumption | wp_step))
            exact q _ _ _ k1 k2 k3
          | _ => exact hr₂.elim
    | _ => exact hr.elim
/-- sorted(found), any number of members -/
theorem sorted_setA {a : Addr} {S : Int → Bool} {n : Nat} {Q : Value → Shared → Prop} (R : SetR w s.heap a S n) (nh : A.handled = none) (hz : n ≤ sizeLine)
    (q : ∀ s' p (out : List Value) (c : Nat) (ns : List Int), (∀ b u, s.heap.get? b = some u → s'.heap.get? b = some u) → s'.gens = s.gens → s'.os = s.os → s.heap.objs.size ≤ p →
      s'.heap.get? p = some (seqObj "list" out.toArray c) → IntsAre out ns → ns.Pairwise (· < ·) → (∀ k, k ∈ ns ↔ S k = true) → ns.length = n → Q (.ref p) s') : wpAny (model P w) A (call (.builtin "sorted") [.ref a]) Q E s := by
  obtain ⟨o, es, ep, t, ho, hex, hd, g, nd, hm, hb, hf, hn, hr, hl⟩ := R
  refine Calls.call_function_entry kind_sorted plain_sorted entry_sorted (args_sorted1 _) ?_
  unfold Builtin.«sorted»
  refine wpAny_bind (m := checkCount "sorted" 1 1 _) (wpAny_pure (wpAny_bind (collect_set (A := A.in1) nh ⟨o, ho, hex.1, hd⟩ hf hb hr hl fun s1 us k1 z1 g1 o1 pm => ?_)))
  have ul : us.length = n := by rw [pm.length_eq, List.length_map, Array.length_toList]; exact hn
  have uI : IntsAre us (us.map Builtin.Re.reRawOf) := ints_of us fun v hv => by
    obtain ⟨e, he, z⟩ := List.mem_map.mp (pm.mem_iff.mp hv)
    obtain ⟨k, tk, y1, _⟩ := g e he
    exact ⟨k, tk, by rw [← z]; exact y1⟩
  have pk : (us.map Builtin.Re.reRawOf).Perm (es.toList.map keyOf) := by
    have z := pm.map Builtin.Re.reRawOf
    rw [List.map_map] at z
    exact z
  refine wpAny_bind (wpAny_newList ?_ (by rw [ul]; exact hz))
  have oL : (s1.heap.push (seqObj "list" us.toArray 0)).get? s1.heap.objs.size = some (seqObj "list" us.toArray 0) := Heap.get?_push_size _ rfl
  refine wpAny_bind (wpAny_holding (wpAny_call_entry slot_list_sort ⟨_, oL, rfl⟩ entry_list_sort (SrtO.list_sort_ord SrtO.swo_int oL (by rw [ul]; exact hz) (fun h2 => SrtO.ints_sortable uI h2) fun out b1 b2 => ⟨_, rfl, ?_⟩) (args_list_sort _)))
  obtain ⟨w1, w2, w3⟩ := SrtO.ints_out uI b1 b2
  obtain ⟨c, hc⟩ := sortedHeap_at (vs := us) (out := out.toArray) oL
  have pn : (out.map SrtO.iv).Perm (es.toList.map keyOf) := w2.trans pk
  refine wpAny_pure ⟨_, rfl, q _ s1.heap.objs.size out c (out.map SrtO.iv) (fun b u e => ?_) g1 o1 z1 hc w1 (lt_of_le_nodup _ w3 (pn.nodup_iff.mpr nd)) (fun k => by rw [pn.mem_iff, ← hm k]) (by rw [pn.length_eq, List.length_map, Array.length_toList]; exact hn)⟩
  have y := k1 b u e
  have yl := Heap.lt_size y
  show (sortedHeap (s1.heap.push (seqObj "list" us.toArray 0)) s1.heap.objs.size us out.toArray).get? b = some u
  rw [sortedHeap_old (Nat.ne_of_lt yl) (by rw [size_push']; exact Nat.lt_succ_of_lt yl)]
  exact Heap.get?_push_of_some _ y
end
section
variable {X : Cx}
/-- sorted(set(xs)) -/
def tSSet (K : PySem.W.Frag) (ta : TE) : TE := fun σ H Q => ta σ H fun x H1 => ∃ (l : Addr) (ns : List Int), x = .ref l ∧ SqL K H1 l (ns.map V.int) ∧ ns.length ≤ 4000 ∧ ∀ (ks : List Int) (p : Addr), ks.Pairwise (· < ·) → (∀ k, k ∈ ks ↔ k ∈ ns) → H1 p = none → Q (.ref p) (upd H1 p (.lst (ks.map V.int)))
theorem pe_sset {a : Expr} {ta : TE} {p p2 q pos : Pos} (hc : X.calm = true) (hg : Gl X "sorted") (hm : X.mg "sorted" = none) (hg2 : Gl X "set") (hm2 : X.mg "set" = none) (ha : PE X a ta)
    (na : starEach [a] X.env = (false, eval a X.env) :: starEach [] X.env) : PE X (.Call (.Name "sorted" p) [.Call (.Name "set" p2) [a] [] q] [] pos) (tSSet X.K ta) := by
  refine ⟨fun pins s σ H Q I h => Call_ (ld_blt I hg hm boot_sorted (PyProof.Rows.callWith_builtin1 (PyProof.Rows.args_cons (Call_ (ld_blt I hg2 hm2 boot_set ?_)) rfl) rfl rfl))⟩
  refine PyProof.Rows.callWith_type1 (PyProof.Rows.args_cons (thn (ha.run pins s σ H _ I h) fun v s1 ⟨x, H1, I1, r1, q1⟩ => PyProof.Rows.args_nil ?_) na) na rfl
  obtain ⟨l, ns, rfl, hq, h1, q1⟩ := q1
  cases r1
  obtain ⟨its, r, pl, hz⟩ := I1.list hq
  refine set_lstI ns (I1.ok.hd hc) pl.isList (by simpa using r.ints) (by unfold scanBound; omega) fun h' tk m hS hmn hk => PyProof.Rows.args_nil ?_
  have I2 : Inv X pins σ H1 { s1 with heap := h', toks := tk } := I1.kept fun b o e => hk b o e
  refine sorted_setA hS (I2.ok.hd hc) (by rw [sizeLine_eq]; omega) fun s' p' out c ks k g o hp hgo hi hsrt hmem hl => ?_
  have hlen : (ks.map V.int).length ≤ sizeLine := by rw [List.length_map, hl, sizeLine_eq]; omega
  have hn : H1 p' = none := I2.hok.fresh hp
  have J : Inv X pins σ (upd H1 p' (.lst (ks.map V.int))) { ({ s1 with heap := h', toks := tk } : Shared) with heap := s'.heap, gens := s'.gens, drawn := s'.drawn, toks := s'.toks } := I2.call (ch := []) (Un.laid k hp hn) (I2.hok.laid k hp ⟨hlen, out, c, vals_of_ints hi, hgo⟩) (by rw [g]; exact I2.bare) (fun _ z => nomatch z)
  have e : s' = { ({ s1 with heap := h', toks := tk } : Shared) with heap := s'.heap, gens := s'.gens, drawn := s'.drawn, toks := s'.toks } := by
    cases s'; cases s1; cases o; rfl
  rw [e]
  exact ⟨.ref p', _, J, rfl, q1 ks p' hsrt (fun z => by rw [hmem z]; simp) hn⟩
end
end Mi.K2

set_option maxRecDepth 100000
set_option maxHeartbeats 4000000
namespace Mi.K3
open PySem PySem.Spec PyProof.Rows
open L2
/-- the members and their number behind the first texts -/
def mem (zs : List Str) : Key → Bool := fun k => zs.any fun z => decide (k = .inr z)
def cnt : List Str → Nat
  | [] => 0
  | z :: zs => if zs.any (· == z) = true then cnt zs else cnt zs + 1
theorem str_nth : ∀ {vs : List Value} {zs : List Str} {i : Nat} {v : Value}, StrsAre vs zs → vs[i]? = some v → (hi : i < zs.length) → ∃ t, v = .str zs[i] t
  | _, _, i, v, .nil, h, _ => by simp at h
  | _, _, 0, v, .cons z t r, h, _ => by simp at h; exact ⟨t, h.symm⟩
  | _, _, i + 1, v, .cons z t r, h, hi => by
    simp only [List.getElem?_cons_succ] at h
    obtain ⟨u, e⟩ := str_nth r h (by simpa using hi)
    exact ⟨u, by simpa using e⟩
theorem two_look {names : List (Str × NameKind)} {x : Str} (h : names = [((".0" : Str), NameKind.local), (x, NameKind.local)]) (y : Str) (hy : y = (".0" : Str) ∨ y = x) : names.lookup y = some .local := by
  subst h
  by_cases h0 : y = (".0" : Str)
  · subst h0
    simp [List.lookup]
  · have e : y = x := hy.resolve_left h0
    subst e
    have : (y == (".0" : Str)) = false := beq_eq_false_iff_ne.mpr h0
    simp [List.lookup, this]
section
variable {P : Program} {w : World} {A : Around} {E : Value → Shared → Prop} {s : Shared} {env : PySem.Env}
/-- the loop, from where the iterator stands -/
theorem lset_loop {x : Str} {scope : Scope} {p1 p2 : Pos} {Q : Value → Shared → Prop} {I l : Addr} {its : Array Value} {zs : List Str} {St : Nat → Heap → Prop} (hk : scope.kind = .function) (hnm : scope.names = [((".0" : Str), NameKind.local), (x, NameKind.local)]) (hd : (x == ("__debug__" : Str)) = false)
    (W : Goes P w A (.Name x p2) I [I, l] [I] its.size (fun i v _ => its[i]? = some v) St) (st0 : St 0 s.heap) (hI : I < s.heap.objs.size) (hl : l < s.heap.objs.size) (sa : StrsAre its.toList zs) (room : zs.length + 1 < scanBound)
    (q : ∀ (D : Addr) (h' : Heap) (tk : Nat), s.heap.objs.size ≤ D → (∀ b o, b ≠ I → s.heap.get? b = some o → h'.get? b = some o) → h'.SetOf (mixKind P w) D (mem zs.reverse) (cnt zs.reverse) → Q (.ref D) { s with heap := h', toks := tk }) :
    ScGoes P w A E env scope [] (.Name x p2) [] (.Name x p1) none Q (.ref I) s := by
  have zl : its.size = zs.length := by
    have z := StrsAre.length sa
    rw [Array.length_toList] at z
    exact z
  refine ⟨I, [I, l], [I], its.size, fun i v _ => its[i]? = some v, St, rfl, W, st0, fun D C s3 cb hD => ?_⟩
  have kl : (compEnvC scope [] C env).kindOf x = some .local := by
    show Env.kindOf _ x = _
    exact lookup_relabel_local (two_look hnm x (by simp))
  obtain ⟨⟨h3, tk3, rfl⟩, old, nD, nC, ne, nsC⟩ := cb
  have hIC : I ≠ C := Nat.ne_of_lt (Nat.lt_of_lt_of_le hI nC)
  have hID : I ≠ D := Nat.ne_of_lt (Nat.lt_of_lt_of_le hI nD)
  have hlC : l ≠ C := Nat.ne_of_lt (Nat.lt_of_lt_of_le hl nC)
  have hlD : l ≠ D := Nat.ne_of_lt (Nat.lt_of_lt_of_le hl nD)
  refine ⟨fun i s1 => ∃ h tk, s1 = { s with heap := h, toks := tk } ∧ (∀ b o, b ≠ I → s.heap.get? b = some o → h.get? b = some o) ∧ (∃ m, h.Ns C m) ∧ h.SetOf (mixKind P w) D (mem (zs.take i).reverse) (cnt (zs.take i).reverse), ?_, ?_, ?_, ?_⟩
  · refine ⟨h3, tk3, rfl, fun b o _ e => old b o e, ⟨_, nsC⟩, ?_⟩
    exact ⟨_, #[], 0, _, hD, ⟨rfl, rfl, rfl⟩, rfl, (fun e he => by simp at he), (fun k => by simp [mem]), (by decide), (by rfl), rfl⟩
  · rintro i s1 h' tk ⟨h, tk1, rfl, o1, ⟨m, n1⟩, S1⟩ kp _
    exact ⟨h', tk, rfl, fun b o hb e => kp b o (by simpa using hb) (o1 b o hb e), ⟨m, n1.at fun o e => kp C o (by simpa using Ne.symm hIC) e⟩, setOf_at S1 fun o e => kp D o (by simpa using Ne.symm hID) e⟩
  · rintro i v s1 hi hv st1 ⟨h, tk1, rfl, o1, ⟨m, n1⟩, S1⟩
    have hi' : i < zs.length := by omega
    obtain ⟨t, rfl⟩ : ∃ t, v = .str zs[i] t := by
      exact str_nth sa (by rw [Array.getElem?_toList]; exact hv) hi'
    refine PySem.wpAny_assign_Name (wpAny_storeName_local (m := m) kl n1 (fun h5 n5 sb5 => ?_) (by rw [show (compEnvC scope [] C env).scope.kind = .function from hk]; rfl))
    refine wpAny_pure ?_
    rw [if_pos rfl]
    refine wpAny_Name (wpAny_loadName_local (m := fun y => if y = x then some (.str zs[i] t) else m y) hk kl n5 (if_pos rfl) ?_) hd
    have S5 : h5.SetOf (mixKind P w) D (mem (zs.take i).reverse) (cnt (zs.take i).reverse) := setOf_at S1 fun o e => (sb5.2 D ne).trans e
    have cle : ∀ ys : List Str, cnt ys ≤ ys.length := by
      intro ys
      induction ys with
      | nil => exact Nat.le_refl _
      | cons y ys ih => unfold cnt; split <;> simp <;> omega
    have rm : cnt (zs.take i).reverse + 1 < scanBound := by
      have := cle (zs.take i).reverse
      simp at this
      omega
    refine call_set_add (kV_is (k := .inr zs[i]) ⟨t, rfl⟩) rfl S5 rm fun h6 sb6 S6 => ⟨⟨h6, _, rfl, fun b o hb e => ?_, ⟨_, n5.at fun o e => (sb6.2 C (Ne.symm ne)).trans e⟩, ?_⟩, ?_⟩
    · have hb0 : b < s.heap.objs.size := Heap.lt_size e
      exact (sb6.2 b (Nat.ne_of_lt (Nat.lt_of_lt_of_le hb0 nD))).trans ((sb5.2 b (Nat.ne_of_lt (Nat.lt_of_lt_of_le hb0 nC))).trans (o1 b o hb e))
    · have tk : zs.take (i + 1) = zs.take i ++ [zs[i]] := by rw [List.take_add_one, List.getElem?_eq_getElem hi']; rfl
      have e1 : (zs.take (i + 1)).reverse = zs[i] :: (zs.take i).reverse := by rw [tk]; simp
      have em : ∀ ys : List Str, mem ys (.inr zs[i]) = ys.any (· == zs[i]) := by
        intro ys
        induction ys with
        | nil => rfl
        | cons y ys ih =>
          unfold mem at ih ⊢
          simp only [List.any_cons, ih]
          congr 1
          by_cases h : y = zs[i]
          · simp [h]
          · have h' : ¬ ((.inr zs[i] : Key) = .inr y) := fun z => h (by cases z; rfl)
            rw [decide_eq_false h', beq_eq_false_iff_ne.mpr h]
      rw [e1]
      have f1 : (fun k' => mem (zs.take i).reverse k' || decide (k' = .inr zs[i])) = mem (zs[i] :: (zs.take i).reverse) := by
        funext k'
        unfold mem
        rw [List.any_cons, Bool.or_comm]
      have f2 : (if mem (zs.take i).reverse (.inr zs[i]) = true then cnt (zs.take i).reverse else cnt (zs.take i).reverse + 1) = cnt (zs[i] :: (zs.take i).reverse) := by
        rw [em]
        rfl
      rw [f1, f2] at S6
      exact S6
    · refine W.frame _ _ _ st1 fun b hb o e => ?_
      rcases List.mem_cons.mp hb with rfl | hb
      · exact (sb6.2 _ hID).trans ((sb5.2 _ hIC).trans e)
      · rw [List.mem_singleton.mp hb] at e ⊢
        exact (sb6.2 _ hlD).trans ((sb5.2 _ hlC).trans e)
  · rintro s1 ⟨h, tk1, rfl, o1, ⟨m, n1⟩, S1⟩
    rw [zl, List.take_length] at S1
    refine ⟨m, n1, fun h' sb => q D h' tk1 nD (fun b o hb e => ?_) (setOf_at S1 fun o e => (sb.2 D ne).trans e)⟩
    have hb0 : b < s.heap.objs.size := Heap.lt_size e
    exact (sb.2 b (Nat.ne_of_lt (Nat.lt_of_lt_of_le hb0 nC))).trans (o1 b o hb e)
end
section
variable {X : Cx}
/-- len({x for x in xs}) -/
def tLSet (K : PySem.W.Frag) (ta : TE) : TE := fun σ H Q => ta σ H fun x H1 => ∃ (l : Addr) (zs : List Str), x = .ref l ∧ (SqL K H1 l (zs.map V.str) ∨ SqT K H1 l (zs.map V.str)) ∧ zs.length ≤ 1000 ∧ Q (.int (cnt zs.reverse : Nat)) H1
theorem pe_lset {a : Expr} {ta : TE} {x : Str} {scope : Scope} {p p1 p2 q pos : Pos} (hc : X.calm = true) (hg : Gl X "len") (hm : X.mg "len" = none) (ha : PE X a ta) (hk : scope.kind = .function) (hnm : scope.names = [((".0" : Str), NameKind.local), (x, NameKind.local)]) (hd : (x == ("__debug__" : Str)) = false)
    (hf : ∀ v, foldedSetIterable a X.env v = pure v) : PE X (.Call (.Name "len" p) [.SetComp (.Name x p1) [⟨.Name x p2, a, [], 0⟩] scope q] [] pos) (tLSet X.K ta) := by
  refine ⟨fun pins s σ H Q I h => Call_ (ld_blt I hg hm boot_len (PyProof.Rows.callWith_builtin1 (PyProof.Rows.args_cons ?_ rfl) rfl rfl))⟩
  refine SetComp_goes (cl := []) (by unfold closureFor; rw [hnm]; rfl) (by rw [hnm]; simp) hk (fun y hy _ => two_look hnm y.1 (by rw [hnm] at hy; rcases List.mem_cons.mp hy with e | e; exact .inl (by rw [e]); exact .inr (by rw [List.mem_singleton.mp e]))) ?_ hf
  refine thn (ha.run pins s σ H _ I h) fun v s1 ⟨vx, H1, I1, r1, l, zs, ex, hq, hl, q1⟩ => ?_
  subst ex
  cases r1
  have nh := I1.ok.hd hc
  have fin : ∀ (o : Obj), o.isFreed = false → ∀ (D : Addr) (h' : Heap) (tk : Nat), (s1.heap.push o).objs.size ≤ D → (∀ b u, b ≠ s1.heap.objs.size → (s1.heap.push o).get? b = some u → h'.get? b = some u) → h'.SetOf (mixKind X.prog X.w) D (mem zs.reverse) (cnt zs.reverse) →
      wpAny (model X.prog X.w) X.A (spliced (backTo pos (starEach [] X.env))) (fun vs s₂ => wpAny (model X.prog X.w) X.A (call (.builtin "len") (Value.ref D :: vs)) (EP X pins σ Q) X.xe s₂) X.xe { s1 with heap := h', toks := tk } := fun o _ D h' tk _ kp hS => by
    refine PyProof.Rows.args_nil ?_
    obtain ⟨ob, es, ep, t, ho, hex, hdt, _, _, hb, hft, hn⟩ := hS
    have I2 : Inv X pins σ H1 { s1 with heap := h', toks := tk } := I1.kept fun b u e => kp b u (Nat.ne_of_lt (Heap.lt_size e)) (Heap.get?_push_of_some _ e)
    refine call_len_set ho hex hdt hft (by have : es.size < scanBound := hb; unfold scanBound at this; omega) ⟨.int (cnt zs.reverse : Nat), H1, I2.tok _, ⟨_, by rw [hn]⟩, q1⟩
  rcases hq with hq | hq
  · obtain ⟨its, r, pl, hz⟩ := I1.list hq
    obtain ⟨ob, hob, hcl, nn, hdt⟩ := pl.isList
    have hlt : l < s1.heap.objs.size := Heap.lt_size hob
    refine wpAny_pyIter_list pl.isList (lset_loop hk hnm hd (Goes.list nh s1.heap.objs.size l (Nat.ne_of_lt hlt) its.toArray) ⟨⟨_, Heap.get?_push_size _ rfl, rfl, rfl⟩, pl.isList.push _⟩ (by rw [Heap.size_push]; exact Nat.lt_succ_self _) (by rw [Heap.size_push]; exact Nat.lt_succ_of_lt hlt) (by simpa using strsAre_of r) (by unfold scanBound; omega) fun D h' tk hD kp hS => fin _ rfl D h' tk hD kp hS)
  · obtain ⟨its, r, pl, hz⟩ := I1.tuple hq
    have pl : s1.heap.IsTuple l its.toArray := pl
    obtain ⟨ob, hob, hcl, nn, hdt⟩ := pl
    have hlt : l < s1.heap.objs.size := Heap.lt_size hob
    have pl : s1.heap.IsTuple l its.toArray := ⟨ob, hob, hcl, nn, hdt⟩
    refine wpAny_pyIter_tuple pl (lset_loop hk hnm hd (Goes.tuple nh s1.heap.objs.size l (Nat.ne_of_lt hlt) its.toArray) ⟨⟨_, Heap.get?_push_size _ rfl, rfl, rfl⟩, pl.push _⟩ (by rw [Heap.size_push]; exact Nat.lt_succ_self _) (by rw [Heap.size_push]; exact Nat.lt_succ_of_lt hlt) (by simpa using strsAre_of r) (by unfold scanBound; omega) fun D h' tk hD kp hS => fin _ rfl D h' tk hD kp hS)
end
end Mi.K3

namespace Mi

/-- frozen values; scr: the law's script; ref: a cell of the store -/
inductive D where
  | non | bl (b : Bool) | int (i : Int) | str (s : List Nat)
  | tup (xs : List D) | lst (xs : List D) | scr | ref (n : Nat)

/-- what a slot holds: nothing, a frozen value, a list of its own, an exception (class, field) -/
inductive Pl where
  | un | fz (d : D) | own (xs : List D) | exn (c : Nat) (d : D)

abbrev Env := List Pl
inductive Cell where
  | lst (xs : List D) | ins (c : Nat) (fs : List (Nat × D)) | dct (t : Bool) (kvs : List (D × D))
abbrev Sto := List Cell

inductive Res (α : Type) where
  | ok (a : α) (S : Sto) | exc (c : Nat) (d : D) (S : Sto) | stuck
def Res.bind {α β : Type} : Res α → (α → Sto → Res β) → Res β
  | .ok a S, f => f a S
  | .exc c d S, _ => .exc c d S
  | .stuck, _ => .stuck
def Res.of {α : Type} : Option α → Sto → Res α
  | some a, S => .ok a S
  | none, _ => .stuck

abbrev SZ : Nat := 16777216

inductive Bop where
  | add | sub | mul | mod | fdiv | pow | shl | shr | band | bor | bxor
  deriving DecidableEq
inductive Cop where
  | eq | ne | lt | le | gt | ge | isin | notin | is | isnot
  deriving DecidableEq
inductive Kd where
  | int | bool | str | tuple | list
  deriving DecidableEq
inductive Blt where
  | len | abs | max2 | min2 | maxL | minL | sum | all | sorted | tuple | list | int | str
  deriving DecidableEq

mutual
/-- no reference within, nested no deeper than the number -/
def D.flat : Nat → D → Bool
  | _, .non => true
  | _, .bl _ => true
  | _, .int _ => true
  | _, .str _ => true
  | 0, .tup _ => false
  | 0, .lst _ => false
  | n + 1, .tup xs => D.flats n xs
  | n + 1, .lst xs => D.flats n xs
  | _, .scr => false
  | _, .ref _ => false
def D.flats : Nat → List D → Bool
  | _, [] => true
  | n, x :: xs => D.flat n x && D.flats n xs
end
mutual
def D.eqv : D → D → Bool
  | .non, .non => true
  | .bl a, .bl b => a == b
  | .bl a, .int j => (if a then 1 else 0) == j
  | .int i, .bl b => i == (if b then 1 else 0)
  | .int i, .int j => i == j
  | .str x, .str y => x == y
  | .tup xs, .tup ys => D.eqvs xs ys
  | .lst xs, .lst ys => D.eqvs xs ys
  | _, _ => false
def D.eqvs : List D → List D → Bool
  | [], [] => true
  | x :: xs, y :: ys => D.eqv x y && D.eqvs xs ys
  | _, _ => false
end
def eqB (a b : D) : Option Bool := if (D.flat 60 a && D.flat 60 b) = true then some (D.eqv a b) else none

def nth {α : Type} (xs : List α) (i : Int) : Option α :=
  if 0 ≤ i then xs[i.toNat]? else if 0 ≤ i + xs.length then xs[(i + xs.length).toNat]? else none

/-- a slice's end within a length -/
def clip (n d : Nat) : Option Int → Nat
  | none => d
  | some i => if i < 0 then (i + n).toNat else min i.toNat n
def cut {α : Type} (xs : List α) (lo hi : Option Int) : List α :=
  (xs.drop (clip xs.length 0 lo)).take (clip xs.length xs.length hi - clip xs.length 0 lo)

def small (i : Int) : Bool := decide (-(2 ^ 64) < i ∧ i < 2 ^ 64)

def opB : Bop → D → D → Option D
  | .add, .int i, .int j => some (.int (i + j))
  | .add, .str x, .str y => if x.length + y.length ≤ SZ then some (.str (x ++ y)) else none
  | .add, .lst x, .lst y => if x.length + y.length ≤ SZ then some (.lst (x ++ y)) else none
  | .add, .tup x, .tup y => if x.length + y.length ≤ SZ then some (.tup (x ++ y)) else none
  | .sub, .int i, .int j => some (.int (i - j))
  | .mul, .int i, .int j => if (small i || small j) = true then some (.int (i * j)) else none
  | .mul, .lst x, .int k => if x.length * k.toNat ≤ SZ ∧ 0 ≤ k ∧ k ≤ SZ then some (.lst (List.replicate k.toNat x).flatten) else none
  | .mod, .int i, .int j => if 0 < j then some (.int (i % j)) else none
  | .fdiv, .int i, .int j => if 0 < j ∧ j < 1073741824 then some (.int (i / j)) else none
  | .pow, .int i, .int j => if 0 ≤ j ∧ j ≤ 1000 ∧ i.natAbs < 2 ^ 64 then some (.int (i ^ j.toNat)) else none
  | .shl, .int i, .int j => if 0 ≤ j ∧ j ≤ 1000 ∧ i.natAbs < 2 ^ 64 then some (.int (i * 2 ^ j.toNat)) else none
  | .shr, .int i, .int j => if 0 ≤ j then some (.int (i / 2 ^ j.toNat)) else none
  | .band, .int i, .int j => if 0 ≤ i ∧ 0 ≤ j then some (.int ((i.toNat &&& j.toNat : Nat) : Int)) else none
  | .bor, .int i, .int j => if 0 ≤ i ∧ 0 ≤ j then some (.int ((i.toNat ||| j.toNat : Nat) : Int)) else none
  | .bxor, .int i, .int j => if 0 ≤ i ∧ 0 ≤ j then some (.int ((i.toNat ^^^ j.toNat : Nat) : Int)) else none
  | _, _, _ => none

def scalar : D → Bool
  | .non | .bl _ | .int _ | .str _ => true
  | _ => false
def inB (x : D) : D → Option Bool
  | .lst ys => if (D.flat 60 x && D.flats 60 ys) = true then some (ys.any fun y => D.eqv y x) else none
  | .tup ys => if (scalar x && ys.all scalar) = true then some (ys.any fun y => D.eqv y x) else if (D.flat 60 x && D.flats 60 ys) = true then some (ys.any fun y => D.eqv y x) else none
  | .str s => match x with
    | .str [c] => some (s.contains c)
    | _ => none
  | _ => none
/-- is, with None, True, False alone -/
def isB : D → D → Option Bool
  | .non, .non => some true
  | .bl a, .bl b => some (a == b)
  | _, .non => some false
  | .non, .bl _ => some false
  | .int _, .bl _ => some false
  | .str _, .bl _ => some false
  | .tup _, .bl _ => some false
  | .lst _, .bl _ => some false
  | .ref _, .bl _ => some false
  | _, _ => none
def cmpB : Cop → D → D → Option Bool
  | .eq, a, b => eqB a b
  | .ne, a, b => (eqB a b).map (!·)
  | .lt, .int i, .int j => some (decide (i < j))
  | .le, .int i, .int j => some (decide (i ≤ j))
  | .gt, .int i, .int j => some (decide (j < i))
  | .ge, .int i, .int j => some (decide (j ≤ i))
  | .isin, a, b => inB a b
  | .notin, a, b => (inB a b).map (!·)
  | .is, a, b => isB a b
  | .isnot, a, b => (isB a b).map (!·)
  | _, _, _ => none

def isK : Kd → D → Option Bool
  | _, .scr => none
  | _, .ref _ => none
  | .int, .int _ => some true
  | .int, .bl _ => some true
  | .bool, .bl _ => some true
  | .str, .str _ => some true
  | .tuple, .tup _ => some true
  | .list, .lst _ => some true
  | _, _ => some false

def idxB : D → D → Option D
  | .lst xs, .int i => nth xs i
  | .tup xs, .int i => nth xs i
  | .str s, .int i => if s.length ≤ SZ then (nth s i).map fun c => .str [c] else none
  | _, _ => none
def slcB (a : D) (l h : Option Int) : Option D :=
  match a with
  | .lst xs => some (.lst (cut xs l h))
  | .tup xs => some (.tup (cut xs l h))
  | .str s => if s.length ≤ SZ then some (.str (cut s l h)) else none
  | _ => none

def intsD : List D → Option (List Int)
  | [] => some []
  | .int i :: r => (intsD r).map (i :: ·)
  | _ => none
def boolsD : List D → Option (List Bool)
  | [] => some []
  | .bl i :: r => (boolsD r).map (i :: ·)
  | _ => none
def seqOf : D → Option (List D)
  | .lst xs => some xs
  | .tup xs => some xs
  | _ => none

abbrev Tok := Int ⊕ List Nat
mutual
def D.toks : D → List Tok
  | .bl b => [.inl (if b = true then 1 else 0)]
  | .int n => [.inl n]
  | .str x => [.inr x]
  | .lst xs => D.tokss xs
  | .tup xs => D.tokss xs
  | _ => []
def D.tokss : List D → List Tok
  | [] => [.inl 0]
  | x :: xs => .inl 1 :: (D.toks x ++ D.tokss xs)
end
def ltN : List Nat → List Nat → Bool
  | [], [] => false
  | [], _ :: _ => true
  | _ :: _, [] => false
  | x :: xs, y :: ys => if x = y then ltN xs ys else decide (x < y)
def ltTok : Tok → Tok → Bool
  | .inl a, .inl b => decide (a < b)
  | .inl _, .inr _ => true
  | .inr _, .inl _ => false
  | .inr a, .inr b => ltN a b
def ltToks : List Tok → List Tok → Bool
  | [], [] => false
  | [], _ :: _ => true
  | _ :: _, [] => false
  | x :: xs, y :: ys => ltTok x y || (!ltTok y x && ltToks xs ys)
/-- x comes no later than y -/
def D.le (x y : D) : Bool := !ltToks y.toks x.toks
def insD (x : D) : List D → List D
  | [] => [x]
  | y :: ys => if D.le x y = true then x :: y :: ys else y :: insD x ys
def sortD : List D → List D
  | [] => []
  | x :: xs => insD x (sortD xs)
def isInts : List D → Bool
  | [] => true
  | .int _ :: r => isInts r
  | _ => false
mutual
/-- the two can be compared: places of one kind; of lists those of ints alone -/
def D.alk : D → D → Bool
  | .bl _, .bl _ => true
  | .int _, .int _ => true
  | .str _, .str _ => true
  | .tup xs, .tup ys => D.alks xs ys
  | .lst xs, .lst ys => isInts xs && isInts ys
  | _, _ => false
def D.alks : List D → List D → Bool
  | [], [] => true
  | x :: xs, y :: ys => D.alk x y && D.alks xs ys
  | _, _ => false
end
def okShp : D → Bool
  | .tup [] => false
  | _ => true
def canSort : List D → Bool
  | [] => true
  | x :: xs => okShp x && D.alk x x && xs.all (D.alk x) && D.flats 20 (x :: xs)
def sortB (xs : List D) : Option D := if (canSort xs && decide (xs.length ≤ SZ)) = true then some (.lst (sortD xs)) else none

/-- the figures of a number below a hundred -/
def digs (i : Nat) : List Nat := if i < 10 then [48 + i] else [48 + i / 10, 48 + i % 10]
def bltB : Blt → List D → Option D
  | .len, [.lst xs] => some (.int xs.length)
  | .len, [.tup xs] => some (.int xs.length)
  | .len, [.str s] => if s.length ≤ SZ then some (.int s.length) else none
  | .abs, [.int i] => some (.int (if i < 0 then -i else i))
  | .max2, [.int i, .int j] => some (.int (if j > i then j else i))
  | .min2, [.int i, .int j] => some (.int (if j < i then j else i))
  | .maxL, [.lst xs] => match intsD xs with
    | some (n :: ns) => some (.int (ns.foldl max n))
    | _ => none
  | .minL, [.lst xs] => match intsD xs with
    | some (n :: ns) => some (.int (ns.foldl min n))
    | _ => none
  | .sum, [.lst xs] => (intsD xs).map fun ns => .int ns.sum
  | .all, [.lst xs] => (boolsD xs).map fun bs => .bl (bs.all id)
  | .sorted, [.lst xs] => sortB xs
  | .tuple, [.lst xs] => some (.tup xs)
  | .tuple, [.tup xs] => some (.tup xs)
  | .list, [.lst xs] => some (.lst xs)
  | .list, [.tup xs] => some (.lst xs)
  | .int, [.int i] => some (.int i)
  | .int, [.bl b] => some (.int (if b then 1 else 0))
  | .str, [.int i] => if 0 ≤ i ∧ i < 100 then some (.str (digs i.toNat)) else none
  | _, _ => none

/-- methods of one argument -/
inductive Mth where
  | lcnt | lidx
  deriving DecidableEq
/-- what the method is asked of -/
def mthK : Mth → D → Bool
  | .lcnt, .lst _ => true
  | .lidx, .lst _ => true
  | _, _ => false
def mthB : Mth → D → D → Option D
  | .lcnt, .lst xs, y => if (scalar y && xs.all scalar) = true then some (.int (xs.countP fun z => D.eqv z y : Nat)) else none
  | .lidx, .lst xs, y => if (scalar y && xs.all scalar) = true then (xs.findIdx? fun z => D.eqv z y).map fun (j : Nat) => .int (j : Int) else none
  | _, _, _ => none
/-- sorted(set(ints)) -/
def insS (x : Int) : List Int → List Int
  | [] => [x]
  | y :: ys => if x < y then x :: y :: ys else if x = y then y :: ys else y :: insS x ys
def setI : List Int → List Int
  | [] => []
  | x :: xs => insS x (setI xs)
def ssB : D → Option D
  | .lst xs => match intsD xs with
    | some ns => if ns.length ≤ 4000 then some (.lst ((setI ns).map .int)) else none
    | none => none
  | _ => none

/-- how many texts, each once -/
def strsD : List D → Option (List (List Nat))
  | [] => some []
  | .str z :: r => (strsD r).map (z :: ·)
  | _ => none
def cntD : List (List Nat) → Nat
  | [] => 0
  | z :: zs => if (zs.any (· == z)) = true then cntD zs else cntD zs + 1
def lsB (d : D) : Option D := match seqOf d with
  | some xs => match strsD xs with
    | some zs => if zs.length ≤ 1000 then some (.int (cntD zs.reverse : Nat)) else none
    | none => none
  | none => none

inductive Tg where
  | v (i : Nat) | t (ts : List Tg)
inductive Ex where
  | var (i : Nat) | cst (d : D)
  | tup (es : List Ex) | lst (es : List Ex)
  | bin (o : Bop) (a b : Ex) | neg (a : Ex) | not (a : Ex)
  | cmp (o : Cop) (a b : Ex) | chn (o p : Cop) (a b c : Ex)
  | and (es : List Ex) | or (es : List Ex) | ite (c a b : Ex)
  | idx (a i : Ex) | slc (a lo hi : Ex)
  | isi (a : Ex) (k : Kd)
  | call (f : Nat) (es ks : List Ex) (bs : List (Nat ⊕ D))
  | drawn (i : Nat) (k m : Ex)
  | blt (b : Blt) (es : List Ex)
  | rng (es : List Ex) | zip (a b : Ex) | enm (a : Ex)
  | lc (e : Ex) (t : Tg) (it c : Ex)
  | efld (i : Nat) (c : Nat) | eis (i : Nat) (c : Nat)
  | rev (a : Ex) | lrng (es : List Ex)
  | mth (m : Mth) (a b : Ex) | sset (a : Ex) | lset (a : Ex)
  | lc2 (e : Ex) (t1 : Tg) (it1 : Ex) (t2 : Tg) (it2 c : Ex)
  | fld (i : Nat) (a : Ex)
  | meth (c f : Nat) (a : Ex) (es ks : List Ex) (bs : List (Nat ⊕ D))
  | mk (c f : Nat) (es ks : List Ex) (bs : List (Nat ⊕ D))
  | new (a : Ex) | cpop (z : Bool) (a : Ex)
  | cmpC (o : Cop) (a b : Ex) | binC (o : Bop) (a b : Ex) | idxC (a i : Ex) | slcC (a lo hi : Ex) | bltC (b : Blt) (a : Ex)
  | ilen (c f : Nat) (a : Ex)
  | dget (a k : Ex) | din (neg : Bool) (k a : Ex) | dnew (t : Bool) | ddsp (es : List Ex) | dcp (a : Ex)

mutual
def asg : Tg → D → Env → Option Env
  | .v i, d, env => some (env.set i (.fz d))
  | .t ts, d, env => match d with
    | .tup ds => asgs ts ds env
    | _ => none
def asgs : List Tg → List D → Env → Option Env
  | [], [], env => some env
  | t :: ts, d :: ds, env => match asg t d env with
    | some env' => asgs ts ds env'
    | none => none
  | _, _, _ => none
end
mutual
def slots : Tg → List Nat
  | .v i => [i]
  | .t ts => slotss ts
def slotss : List Tg → List Nat
  | [] => []
  | t :: ts => slots t ++ slotss ts
end
/-- slots emptied; none of them holds a list of its own -/
def wipS : List Nat → Env → Env
  | [], env => env
  | i :: is, env => (wipS is env).set i .un
def okW (env : Env) : List Nat → Bool
  | [] => true
  | i :: is => (match env[i]? with | some (.own _) => false | some _ => true | none => false) && okW env is

/-- a class is another one, or stands below it: all stand below the first -/
def isSub (c C : Nat) : Bool := c == C || C == 0

def rangeL (lo : Int) (n : Nat) : List D := (List.range n).map fun (k : Nat) => D.int (lo + k)
def rangeD (lo : Int) (n : Nat) : List D := (List.range n).map fun (k : Nat) => D.int (lo - k)
def big : Int := 4611686018427387904
def rngB : List D → Option (List D)
  | [.int hi] => if -big ≤ hi ∧ hi < big then some (rangeL 0 hi.toNat) else none
  | [.int lo, .int hi] => if -big ≤ lo ∧ lo < big ∧ -big ≤ hi ∧ hi < big then some (rangeL lo (hi - lo).toNat) else none
  | [.int lo, .int hi, .int c] => if c = -1 ∧ -big ≤ lo ∧ lo < big ∧ -big ≤ hi ∧ hi < big then some (rangeD lo (lo - hi).toNat) else none
  | _ => none
def revB : D → Option D
  | .lst xs => some (.lst xs.reverse)
  | _ => none
/-- list(range(n)) -/
def lrgB : List D → Option D
  | [.int hi] => if -1000000 ≤ hi ∧ hi ≤ 1000000 then some (.lst (rangeL 0 hi.toNat)) else none
  | _ => none
def itB : D → Option (List D)
  | .lst xs => some xs
  | .tup xs => some xs
  | .str s => some (s.map fun c => .str [c])
  | _ => none
def zipB : D → D → Option D
  | .lst xs, .lst ys => some (.lst (List.zipWith (fun x y => .tup [x, y]) xs ys))
  | .tup xs, .tup ys => some (.lst (List.zipWith (fun x y => .tup [x, y]) xs ys))
  | _, _ => none
def enumL : Nat → List D → List D
  | _, [] => []
  | k, x :: xs => .tup [.int k, x] :: enumL (k + 1) xs
def enmB : D → Option D
  | .lst xs => some (.lst (enumL 0 xs))
  | .tup xs => some (.lst (enumL 0 xs))
  | _ => none

def lcL (f : D → Sto → Res (Option D)) : List D → Sto → Res (List D)
  | [], S => .ok [] S
  | d :: ds, S => match f d S with
    | .ok o S1 => (lcL f ds S1).bind fun r S2 => .ok (match o with | some x => x :: r | none => r) S2
    | _ => .stuck

def catL (f : D → Sto → Res (List D)) : List D → Sto → Res (List D)
  | [], S => .ok [] S
  | d :: ds, S => match f d S with
    | .ok a S1 => (catL f ds S1).bind fun r S2 => .ok (a ++ r) S2
    | _ => .stuck

/-- a slice's end: left out (None is written), or an int -/
def isOut : Ex → Bool
  | .cst .non => true
  | _ => false
def part (x : Ex) (d : D) : Option (Option Int) :=
  if isOut x = true then some none else match d with
    | .int i => some (some i)
    | _ => none
/-- a name read where its own list may stand -/
def rd (a : Ex) (env : Env) (S : Sto) (r : Res D) : Res D :=
  match a with
  | .var i => match env[i]? with
    | some (.fz d) => .ok d S
    | some (.own xs) => .ok (.lst xs) S
    | _ => .stuck
  | _ => r
/-- what a loop walks is no list of the frame's own -/
def notOwn (a : Ex) (env : Env) : Bool :=
  match a with
  | .var i => match env[i]? with
    | some (.own _) => false
    | _ => true
  | _ => true
def noOwnIt (a : Ex) (env : Env) : Bool :=
  match a with
  | .zip a b => notOwn a env && notOwn b env
  | .enm a => notOwn a env
  | _ => true
def binds (ds : List D) : List (Nat ⊕ D) → Option (List D)
  | [] => some []
  | .inl i :: bs => match ds[i]?, binds ds bs with
    | some d, some r => some (d :: r)
    | _, _ => none
  | .inr d :: bs => (binds ds bs).map (d :: ·)

/-- a cell's list, as it stands -/
def drf (S : Sto) : D → D
  | .ref n => match S[n]? with
    | some (.lst xs) => .lst xs
    | _ => .ref n
  | d => d
def isLs (S : Sto) : D → Bool
  | .ref n => match S[n]? with
    | some (.lst _) => true
    | _ => false
  | _ => false
def isIns (S : Sto) (n c : Nat) : Bool := match S[n]? with
  | some (.ins c' _) => c' == c
  | _ => false
def fldB (S : Sto) (i : Nat) : D → Option D
  | .ref n => match S[n]? with
    | some (.ins _ fs) => fs.lookup i
    | _ => none
  | _ => none
def putA (i : Nat) (d : D) : List (Nat × D) → List (Nat × D)
  | [] => [(i, d)]
  | (k, x) :: r => if k = i then (k, d) :: r else (k, x) :: putA i d r
/-- a key of a dict: a number or a text; or a tuple of such -/
def keyS : D → Bool
  | .int _ => true
  | .str _ => true
  | _ => false
def keyT : D → Bool
  | .tup ks => ks.all keyS
  | _ => false
def keyB (t : Bool) (k : D) : Bool := if t = true then keyT k else keyS k
def dLook (k : D) (kvs : List (D × D)) : Option D := (kvs.find? fun p => D.eqv p.1 k).map (·.2)
/-- in its place, or at the end -/
def dPut (k v : D) (kvs : List (D × D)) : List (D × D) :=
  if (kvs.any fun p => D.eqv p.1 k) = true then kvs.map (fun p => if D.eqv p.1 k = true then (p.1, v) else p) else kvs ++ [(k, v)]
def dgetB (S : Sto) (a k : D) : Option D := match a with
  | .ref n => match S[n]? with
    | some (.dct t kvs) => if keyB t k = true then dLook k kvs else none
    | _ => none
  | _ => none
def dinB (S : Sto) (a k : D) : Option Bool := match a with
  | .ref n => match S[n]? with
    | some (.dct t kvs) => if keyB t k = true then some (dLook k kvs).isSome else none
    | _ => none
  | _ => none
/-- pairs of a display -/
def prsD : List D → Option (List (D × D))
  | [] => some []
  | k :: v :: r => if keyS k = true then (prsD r).map ((k, v) :: ·) else none
  | _ => none
def dMrg (kvs : List (D × D)) : List (D × D) → List (D × D)
  | [] => kvs
  | (k, v) :: r => dMrg (dPut k v kvs) r
/-- an item is put into a cell: of a list, of a dict -/
def subB (dd : Bool) (S : Sto) (a k d : D) : Option Sto := match a with
  | .ref n => match S[n]? with
    | some (.lst xs) => match k with
      | .int i => if dd = false ∧ 0 ≤ i ∧ i < xs.length then some (S.set n (.lst (xs.set i.toNat d))) else none
      | _ => none
    | some (.dct t kvs) => if (dd && keyB t k && decide (kvs.length < 1000000)) = true then some (S.set n (.dct t (dPut k d kvs))) else none
    | _ => none
  | _ => none
def popB (z : Bool) (S : Sto) : D → Option (D × Sto)
  | .ref n => match S[n]? with
    | some (.lst xs) => if z = true then (match xs with
      | y :: ys => some (y, S.set n (.lst ys))
      | [] => none) else match xs.getLast? with
      | some y => some (y, S.set n (.lst xs.dropLast))
      | none => none
    | _ => none
  | _ => none
/-- the functions that are called, and the draws -/
structure Fns where
  call : Nat → List D → Sto → Res D
  dr : Int → Int → Int

section
variable (F : Fns)
mutual
def evE : Ex → Env → Sto → Res D
  | .var i, env, S => match env[i]? with
    | some (.fz d) => .ok d S
    | _ => .stuck
  | .cst d, _, S => .ok d S
  | .tup es, env, S => (evEs es env S).bind fun ds S => if ds.length ≤ SZ then .ok (.tup ds) S else .stuck
  | .lst es, env, S => (evEs es env S).bind fun ds S => if ds.length ≤ SZ then .ok (.lst ds) S else .stuck
  | .bin o a b, env, S => (rd a env S (evE a env S)).bind fun x S => (rd b env S (evE b env S)).bind fun y S => .of (opB o x y) S
  | .neg a, env, S => (evE a env S).bind fun x S => match x with
    | .int i => .ok (.int (-i)) S
    | _ => .stuck
  | .not a, env, S => (evE a env S).bind fun x S => match x with
    | .bl b => .ok (.bl (!b)) S
    | _ => .stuck
  | .cmp o a b, env, S => (rd a env S (evE a env S)).bind fun x S => (rd b env S (evE b env S)).bind fun y S => .of ((cmpB o x y).map .bl) S
  | .chn o p a b c, env, S => (evE a env S).bind fun x S => (evE b env S).bind fun y S => match cmpB o x y with
    | some true => (evE c env S).bind fun z S => .of ((cmpB p y z).map .bl) S
    | some false => .ok (.bl false) S
    | none => .stuck
  | .and es, env, S => evAnd es env S
  | .or es, env, S => evOr es env S
  | .ite c a b, env, S => (evE c env S).bind fun x S => match x with
    | .bl true => evE a env S
    | .bl false => evE b env S
    | _ => .stuck
  | .idx a i, env, S => (rd a env S (evE a env S)).bind fun x S => (evE i env S).bind fun y S => .of (idxB x y) S
  | .slc a lo hi, env, S => (rd a env S (evE a env S)).bind fun x S => (evE lo env S).bind fun l S => match part lo l with
    | some l => (evE hi env S).bind fun h S => match part hi h with
      | some h => .of (slcB x l h) S
      | none => .stuck
    | none => .stuck
  | .isi a k, env, S => (rd a env S (evE a env S)).bind fun x S => .of ((isK k x).map .bl) S
  | .call f es ks bs, env, S => (evEs es env S).bind fun ds S => (evEs ks env S).bind fun zs S => match binds (ds ++ zs) bs with
    | some vs => F.call f vs S
    | none => .stuck
  | .drawn q k m, env, S => match env[q]? with
    | some (.fz .scr) => (evE k env S).bind fun x S => (evE m env S).bind fun y S => match x, y with
      | .int i, .int j => if 0 ≤ i ∧ i < 1000000 ∧ 0 < j ∧ j ≤ 1073741824 then .ok (.int (F.dr i j)) S else .stuck
      | _, _ => .stuck
    | _ => .stuck
  | .blt b es, env, S => (evRs es env S).bind fun ds S => .of (bltB b ds) S
  | .rng es, env, S => (evEs es env S).bind fun ds S => .of ((rngB ds).map .lst) S
  | .zip a b, env, S => (rd a env S (evE a env S)).bind fun x S => (rd b env S (evE b env S)).bind fun y S => .of (zipB x y) S
  | .enm a, env, S => (rd a env S (evE a env S)).bind fun x S => .of (enmB x) S
  | .lc e t it c, env, S => (rd it env S (evE it env S)).bind fun x S => match itB x with
    | some xs => if (decide (xs.length ≤ SZ) && okW env (slots t)) = true then (lcL (fun d S => match asg t d (wipS (slots t) env) with
        | some env' => (evE c env' S).bind fun b S => match b with
          | .bl true => (evE e env' S).bind fun y S => .ok (some y) S
          | .bl false => .ok none S
          | _ => .stuck
        | none => .stuck) xs S).bind fun ys S => .ok (.lst ys) S else .stuck
    | none => .stuck
  | .efld i C, env, S => match env[i]? with
    | some (.exn c d) => if c = C then .ok d S else .stuck
    | _ => .stuck
  | .eis i C, env, S => match env[i]? with
    | some (.exn c _) => .ok (.bl (isSub c C)) S
    | _ => .stuck
  | .rev a, env, S => (rd a env S (evE a env S)).bind fun x S => .of (revB x) S
  | .lrng es, env, S => (evEs es env S).bind fun ds S => .of (lrgB ds) S
  | .mth m a b, env, S => (rd a env S (evE a env S)).bind fun x S => if mthK m x = true then (evE b env S).bind fun y S => .of (mthB m x y) S else .stuck
  | .sset a, env, S => (rd a env S (evE a env S)).bind fun x S => .of (ssB x) S
  | .lset a, env, S => (rd a env S (evE a env S)).bind fun x S => .of (lsB x) S
  | .lc2 e t1 it1 t2 it2 c, env, S => (rd it1 env S (evE it1 env S)).bind fun x S => match itB x with
    | some xs => if (decide (xs.length ≤ 4000) && okW env (slots t1 ++ slots t2)) = true then (catL (fun d S => match asg t1 d (wipS (slots t1 ++ slots t2) env) with
        | some env1 => match (if noOwnIt it2 env1 = true then evE it2 env1 S else .stuck) with
          | .ok y S => match itB y with
            | some ys => if (decide (ys.length ≤ 4000) && okW env1 (slots t2)) = true then lcL (fun d S => match asg t2 d (wipS (slots t2) env1) with
                | some env' => (evE c env' S).bind fun b S => match b with
                  | .bl true => (evE e env' S).bind fun y S => .ok (some y) S
                  | .bl false => .ok none S
                  | _ => .stuck
                | none => .stuck) ys S else .stuck
            | none => .stuck
          | _ => .stuck
        | none => .stuck) xs S).bind fun ys S => .ok (.lst ys) S else .stuck
    | none => .stuck
  | .fld i a, env, S => (evE a env S).bind fun x S => .of (fldB S i x) S
  | .meth c f a es ks bs, env, S => (evE a env S).bind fun x S => match x with
    | .ref n => if isIns S n c = true then (evEs es env S).bind fun ds S => (evEs ks env S).bind fun zs S => match binds (.ref n :: (ds ++ zs)) bs with
        | some vs => F.call f vs S
        | none => .stuck
      else .stuck
    | _ => .stuck
  | .mk c f es ks bs, env, S => (evEs es env S).bind fun ds S => (evEs ks env S).bind fun zs S => match binds (.ref S.length :: (ds ++ zs)) bs with
    | some vs => (F.call f vs (S ++ [.ins c []])).bind fun d S' => match d with
      | .non => .ok (.ref S.length) S'
      | _ => .stuck
    | none => .stuck
  | .new a, env, S => (evE a env S).bind fun d S => match d with
    | .lst xs => .ok (.ref S.length) (S ++ [.lst xs])
    | _ => .stuck
  | .cpop z a, env, S => (evE a env S).bind fun x S => match popB z S x with
    | some (y, S') => .ok y S'
    | none => .stuck
  | .cmpC o a b, env, S => (evE a env S).bind fun x S => (evE b env S).bind fun y S => .of ((cmpB o (drf S x) (drf S y)).map .bl) S
  | .binC o a b, env, S => (evE a env S).bind fun x S => (evE b env S).bind fun y S => .of (opB o (drf S x) (drf S y)) S
  | .idxC a i, env, S => (evE a env S).bind fun x S => (evE i env S).bind fun y S => .of (idxB (drf S x) y) S
  | .slcC a lo hi, env, S => (evE a env S).bind fun x S => (evE lo env S).bind fun l S => match part lo l with
    | some l => (evE hi env S).bind fun h S => match part hi h with
      | some h => .of (slcB (drf S x) l h) S
      | none => .stuck
    | none => .stuck
  | .bltC b a, env, S => (evE a env S).bind fun x S => .of (bltB b [drf S x]) S
  | .ilen c f a, env, S => (evE a env S).bind fun x S => match x with
    | .ref n => if isIns S n c = true then (F.call f [.ref n] S).bind fun d S => match d with
        | .int i => if 0 ≤ i ∧ i < 1000000 then .ok (.int i) S else .stuck
        | _ => .stuck
      else .stuck
    | _ => .stuck
  | .dget a k, env, S => (evE a env S).bind fun x S => (evE k env S).bind fun y S => .of (dgetB S x y) S
  | .din neg k a, env, S => (evE k env S).bind fun y S => (evE a env S).bind fun x S => .of ((dinB S x y).map fun b => .bl (if neg = true then !b else b)) S
  | .dnew t, _, S => .ok (.ref S.length) (S ++ [.dct t []])
  | .ddsp es, env, S => (evEs es env S).bind fun ds S => match prsD ds with
    | some kvs => if kvs.length ≤ 15 then .ok (.ref S.length) (S ++ [.dct false (dMrg [] kvs)]) else .stuck
    | none => .stuck
  | .dcp a, env, S => (evE a env S).bind fun x S => match x with
    | .ref n => match S[n]? with
      | some (.dct t kvs) => if kvs.length ≤ 1000000 then .ok (.ref S.length) (S ++ [.dct t kvs]) else .stuck
      | _ => .stuck
    | _ => .stuck
def evAnd : List Ex → Env → Sto → Res D
  | [], _, _ => .stuck
  | [e], env, S => evE e env S
  | e :: es, env, S => (evE e env S).bind fun x S => match x with
    | .bl true => evAnd es env S
    | .bl false => .ok (.bl false) S
    | _ => .stuck
def evOr : List Ex → Env → Sto → Res D
  | [], _, _ => .stuck
  | [e], env, S => evE e env S
  | e :: es, env, S => (evE e env S).bind fun x S => match x with
    | .bl true => .ok (.bl true) S
    | .bl false => evOr es env S
    | _ => .stuck
def evEs : List Ex → Env → Sto → Res (List D)
  | [], _, S => .ok [] S
  | e :: es, env, S => (evE e env S).bind fun d S => (evEs es env S).bind fun ds S => .ok (d :: ds) S
def evRs : List Ex → Env → Sto → Res (List D)
  | [], _, S => .ok [] S
  | e :: es, env, S => (rd e env S (evE e env S)).bind fun d S => (evRs es env S).bind fun ds S => .ok (d :: ds) S
end
end

/-- where a value goes: a name, an attribute, an item -/
inductive Lv where
  | n (i : Nat) | f (a : Ex) (i : Nat) | s (dd : Bool) (a k : Ex)
inductive St where
  | as1 (t : Lv) (e : Ex) | asN (ts : List Lv) (e : Ex) | capp (a e : Ex)
  | set (t : Tg) (e : Ex) | own (i : Nat) (e : Ex)
  | par (is : List (Nat × Bool)) (es : List Ex)
  | star (i j : Nat) (e : Ex) | aug (i : Nat) (e : Ex)
  | app (i : Nat) (e : Ex) | pop (j i : Nat) | put (i : Nat) (k e : Ex)
  | frz (i : Nat)
  | exp (e : Ex)
  | ite (c : Ex) (a b : List St)
  | whl (c : Ex) (b : List St)
  | for_ (t : Tg) (it : Ex) (b : List St)
  | ret (e : Ex)
  | rse (c : Nat) (e : Ex)
  | try_ (b : List St) (hs : List (Nat × Nat × List St))
  | pass | nvr

inductive Fl where
  | nx (e : Env) | rt (d : D)
inductive SR where
  | ok (f : Fl) (S : Sto) | exc (c : Nat) (d : D) (e : Env) (S : Sto) | stuck
def SR.of (env : Env) : Res D → (D → Sto → SR) → SR
  | .ok d S, f => f d S
  | .exc c d S, _ => .exc c d env S
  | .stuck, _ => .stuck
def SR.next : SR → (Env → Sto → SR) → SR
  | .ok (.nx e) S, f => f e S
  | .ok (.rt d) S, _ => .ok (.rt d) S
  | .exc c d e S, _ => .exc c d e S
  | .stuck, _ => .stuck

def forL (f : D → Env → Sto → SR) : List D → Env → Sto → SR
  | [], env, S => .ok (.nx env) S
  | d :: ds, env, S => (f d env S).next fun env S => forL f ds env S
def whlL (c : Env → Sto → Res D) (b : Env → Sto → SR) : Nat → Env → Sto → SR
  | 0, _, _ => .stuck
  | n + 1, env, S => .of env (c env S) fun x S => match x with
    | .bl true => (b env S).next fun env S => whlL c b n env S
    | .bl false => .ok (.nx env) S
    | _ => .stuck
def puts : List (Nat × Bool) → List D → Env → Option Env
  | [], [], env => some env
  | (i, false) :: is, d :: ds, env => puts is ds (env.set i (.fz d))
  | (i, true) :: is, .lst xs :: ds, env => puts is ds (env.set i (.own xs))
  | _, _, _ => none

/-- no slot holds an exception -/
def noX : Env → Bool
  | [] => true
  | .exn _ _ :: _ => false
  | _ :: env => noX env
/-- behind an except suite: its name is gone; nothing may be raised in it -/
def exEnd (i : Nat) : SR → SR
  | .ok (.nx env) S => if noX (env.set i .un) = true then .ok (.nx (env.set i .un)) S else .stuck
  | .ok (.rt d) S => .ok (.rt d) S
  | _ => .stuck
def isL : D → Bool
  | .lst _ => true
  | _ => false
section
variable (F : Fns)
/-- values for several names; where a list of its own is wanted it is one -/
def evWs : List Bool → List Ex → Env → Sto → Res (List D)
  | [], [], _, S => .ok [] S
  | b :: bs, e :: es, env, S => (evE F e env S).bind fun d S => if (b && !isL d) = true then .stuck else (evWs bs es env S).bind fun ds S => .ok (d :: ds) S
  | _, _, _, _ => .stuck
end
/-- a value is put where it goes -/
def lvA (F : Fns) (d : D) : Lv → Env → Sto → SR
  | .n i, env, S => .ok (.nx (env.set i (.fz d))) S
  | .f a i, env, S => .of env (evE F a env S) fun x S => match x with
    | .ref n => match S[n]? with
      | some (.ins c fs) => if fs.length < 900 then .ok (.nx env) (S.set n (.ins c (putA i d fs))) else .stuck
      | _ => .stuck
    | _ => .stuck
  | .s dd a k, env, S => .of env (evE F a env S) fun x S => .of env (evE F k env S) fun y S => match subB dd S x y d with
    | some S' => .ok (.nx env) S'
    | none => .stuck
def lvN (F : Fns) : List Lv → List D → Env → Sto → SR
  | [], [], env, S => .ok (.nx env) S
  | t :: ts, d :: ds, env, S => (lvA F d t env S).next fun env S => lvN F ts ds env S
  | _, _, _, _ => .stuck
section
variable (F : Fns) (W : Nat)
mutual
def exS : St → Env → Sto → SR
  | .as1 t e, env, S => .of env (evE F e env S) fun d S => lvA F d t env S
  | .asN ts e, env, S => .of env (evE F e env S) fun d S => match d with
    | .tup ds => if ds.length = ts.length then lvN F ts ds env S else .stuck
    | _ => .stuck
  | .capp a e, env, S => .of env (evE F a env S) fun x S => if isLs S x = true then .of env (evE F e env S) fun d S => match x with
    | .ref n => match S[n]? with
      | some (.lst xs) => if xs.length < SZ then .ok (.nx env) (S.set n (.lst (xs ++ [d]))) else .stuck
      | _ => .stuck
    | _ => .stuck
    else .stuck
  | .set t e, env, S => .of env (evE F e env S) fun d S => match asg t d env with
    | some env' => .ok (.nx env') S
    | none => .stuck
  | .own i e, env, S => .of env (evE F e env S) fun d S => match d with
    | .lst xs => .ok (.nx (env.set i (.own xs))) S
    | _ => .stuck
  | .par is es, env, S => match evWs F (is.map (·.2)) es env S with
    | .ok ds S => match puts is ds env with
      | some env' => .ok (.nx env') S
      | none => .stuck
    | .exc c d S => .exc c d env S
    | .stuck => .stuck
  | .star i j e, env, S => .of env (evE F e env S) fun d S => match d with
    | .lst xs => match xs.getLast? with
      | some y => .ok (.nx ((env.set i (.fz (.lst xs.dropLast))).set j (.fz y))) S
      | none => .stuck
    | _ => .stuck
  | .aug i e, env, S => match env[i]? with
    | some (.fz (.int a)) => .of env (evE F e env S) fun d S => match d with
      | .int b => .ok (.nx (env.set i (.fz (.int (a + b))))) S
      | _ => .stuck
    | _ => .stuck
  | .app i e, env, S => match env[i]? with
    | some (.own xs) => .of env (evE F e env S) fun d S => if xs.length < SZ then .ok (.nx (env.set i (.own (xs ++ [d])))) S else .stuck
    | _ => .stuck
  | .pop j i, env, S => match env[i]? with
    | some (.own xs) => match xs.getLast? with
      | some d => .ok (.nx ((env.set i (.own xs.dropLast)).set j (.fz d))) S
      | none => .stuck
    | _ => .stuck
  | .put i k e, env, S => match env[i]? with
    | some (.own xs) => .of env (evE F e env S) fun d S => .of env (evE F k env S) fun kd S => match kd with
      | .int n => if 0 ≤ n ∧ n < xs.length then .ok (.nx (env.set i (.own (xs.set n.toNat d)))) S else .stuck
      | _ => .stuck
    | _ => .stuck
  | .frz i, env, S => match env[i]? with
    | some (.own xs) => .ok (.nx (env.set i (.fz (.lst xs)))) S
    | some (.fz _) => .ok (.nx env) S
    | _ => .stuck
  | .exp e, env, S => .of env (evE F e env S) fun _ S => .ok (.nx env) S
  | .ite c a b, env, S => .of env (evE F c env S) fun x S => match x with
    | .bl true => exSs a env S
    | .bl false => exSs b env S
    | _ => .stuck
  | .whl c b, env, S => whlL (fun env S => evE F c env S) (fun env S => exSs b env S) W env S
  | .for_ t it b, env, S => if noOwnIt it env = true then .of env (evE F it env S) fun x S => match itB x with
      | some xs => forL (fun d env S => match asg t d env with
        | some env' => exSs b env' S
        | none => .stuck) xs env S
      | none => .stuck
    else .stuck
  | .ret e, env, S => .of env (evE F e env S) fun d S => .ok (.rt d) S
  | .rse c e, env, S => .of env (evE F e env S) fun d S => .exc c d env S
  | .try_ b hs, env, S => match exSs b env S with
    | .exc c d env' S' => exHs hs c d env' S'
    | r => r
  | .pass, env, S => .ok (.nx env) S
  | .nvr, _, _ => .stuck
def exSs : List St → Env → Sto → SR
  | [], env, S => .ok (.nx env) S
  | s :: ss, env, S => (exS s env S).next fun env S => exSs ss env S
def exHs : List (Nat × Nat × List St) → Nat → D → Env → Sto → SR
  | [], c, d, env, S => .exc c d env S
  | (C, i, b) :: hs, c, d, env, S => if isSub c C = true then exEnd i (exSs b (env.set i (.exn c d)) S) else exHs hs c d env S
end
end

structure Def where
  np : Nat
  ns : Nat
  body : List St
def Def.start (df : Def) (ds : List D) : Env := ds.map .fz ++ List.replicate (df.ns - ds.length) .un

/-- calls, one below another at most n deep -/
def callN (T : Nat → Option Def) (dr : Int → Int → Int) (W : Nat) : Nat → Nat → List D → Sto → Res D
  | 0, _, _, _ => .stuck
  | n + 1, f, ds, S => match T f with
    | none => .stuck
    | some df => if ds.length = df.np then match exSs ⟨callN T dr W n, dr⟩ W df.body (df.start ds) S with
        | .ok (.rt d) S => .ok d S
        | .ok (.nx _) S => .ok .non S
        | .exc c d _ S => .exc c d S
        | .stuck => .stuck
      else .stuck
end Mi

set_option maxRecDepth 100000
set_option maxHeartbeats 4000000
namespace Mi
open PySem PySem.Spec PyProof.Rows
open L2 (V Hp HO upd upd_same upd_ne Same SqL SqT Rd VK XK WX)

def toStr (l : List Nat) : Str := ⟨l.toArray⟩
def okStr (l : List Nat) : Prop := ∀ c ∈ l, c < 0x110000

/-- the fixed facts of a law's run: the written part, the script's place, its ints -/
structure Gd where
  K : PySem.W.Frag
  sc : Addr
  ns : List Int
  /-- the classes whose instances are made; the names of their attributes -/
  cl : List (Nat × Addr)
  fd : List Str
  nd : fd.Nodup

section
variable (G : Gd)
mutual
def Rep (H : Hp) (B : Addr → Prop) (r : List Addr) : D → V → Prop
  | .non, v => v = .non
  | .bl b, v => v = .bl b
  | .int i, v => v = .int i
  | .str s, v => v = .str (toStr s) ∧ okStr s
  | .tup ds, v => ∃ a vs, v = .ref a ∧ SqT G.K H a vs ∧ Reps H B r ds vs
  | .lst ds, v => ∃ a vs, v = .ref a ∧ ¬ B a ∧ H a = some (.lst vs) ∧ Reps H B r ds vs
  | .scr, v => v = .ref G.sc
  | .ref n, v => ∃ a, r[n]? = some a ∧ v = .ref a
def Reps (H : Hp) (B : Addr → Prop) (r : List Addr) : List D → List V → Prop
  | [], vs => vs = []
  | d :: ds, vs => ∃ v ws, vs = v :: ws ∧ Rep H B r d v ∧ Reps H B r ds ws
end
end

/-- what an expression's step leaves: all but the cells; new cells are new places -/
structure Stp (H : Hp) (r : List Addr) (H' : Hp) (r' : List Addr) : Prop where
  pre : ∀ (n : Nat) a, r[n]? = some a → r'[n]? = some a
  keep : ∀ a o, H a = some o → a ∉ r → H' a = some o
  tups : ∀ a xs, H a = some (.tup xs) → H' a = some (.tup xs)
  frzs : ∀ a o u, H a = some (.frz o u) → H' a = some (.frz o u)
  new : ∀ a, a ∈ r' → a ∈ r ∨ H a = none
  some_ : ∀ a o, H a = some o → ∃ o', H' a = some o'
theorem Stp.refl {H : Hp} {r : List Addr} : Stp H r H r := ⟨fun _ _ h => h, fun _ _ h _ => h, fun _ _ h => h, fun _ _ _ h => h, fun _ h => .inl h, fun _ o h => ⟨o, h⟩⟩
theorem Stp.trans {H H1 H2 : Hp} {r r1 r2 : List Addr} (a : Stp H r H1 r1) (b : Stp H1 r1 H2 r2) : Stp H r H2 r2 where
  pre := fun n x h => b.pre n x (a.pre n x h)
  keep := fun x o h hn => by
    refine b.keep x o (a.keep x o h hn) fun hm => ?_
    rcases a.new x hm with z | z
    · exact hn z
    · rw [h] at z; cases z
  tups := fun x xs h => b.tups x xs (a.tups x xs h)
  frzs := fun x o u h => b.frzs x o u (a.frzs x o u h)
  new := fun x hm => by
    rcases b.new x hm with z | z
    · exact a.new x z
    · refine .inr ?_
      cases e : H x with
      | none => rfl
      | some o =>
        obtain ⟨o', q⟩ := a.some_ x o e
        rw [q] at z; cases z
  some_ := fun x o h => by
    obtain ⟨o1, h1⟩ := a.some_ x o h
    exact b.some_ x o1 h1
/-- a new object -/
theorem Stp.laid {H : Hp} {r : List Addr} {p : Addr} {o : HO} (h : H p = none) : Stp H r (upd H p o) r where
  pre := fun _ _ h => h
  keep := fun a u e _ => by rw [upd_ne (L2.ne_of_none e h)]; exact e
  tups := fun a u e => by rw [upd_ne (L2.ne_of_none e h)]; exact e
  frzs := fun a u w e => by rw [upd_ne (L2.ne_of_none e h)]; exact e
  new := fun _ h => .inl h
  some_ := fun a u e => ⟨u, by rw [upd_ne (L2.ne_of_none e h)]; exact e⟩

section
variable {G : Gd} {H H' : Hp} {B B' : Addr → Prop} {r r' : List Addr}
theorem SqT.kp {K : PySem.W.Frag} (t : ∀ a xs, H a = some (.tup xs) → H' a = some (.tup xs)) (f : ∀ a o u, H a = some (.frz o u) → H' a = some (.frz o u)) {a : Addr} {vs : List V} (h : SqT K H a vs) : SqT K H' a vs := by
  rcases h with (h | ⟨o, h⟩) | h
  · exact .inl (.inl (t _ _ h))
  · exact .inl (.inr ⟨o, f _ _ _ h⟩)
  · exact .inr h
mutual
theorem Rep.mono (k : ∀ a xs, H a = some (.lst xs) → ¬ B a → H' a = some (.lst xs)) (t : ∀ a xs, H a = some (.tup xs) → H' a = some (.tup xs)) (f : ∀ a o u, H a = some (.frz o u) → H' a = some (.frz o u))
    (nb : ∀ a, B' a → B a ∨ H a = none) (pr : ∀ (n : Nat) a, r[n]? = some a → r'[n]? = some a) : ∀ {d : D} {v : V}, Rep G H B r d v → Rep G H' B' r' d v
  | .non, _, h => by rw [Rep] at *; exact h
  | .bl _, _, h => by rw [Rep] at *; exact h
  | .int _, _, h => by rw [Rep] at *; exact h
  | .str _, _, h => by rw [Rep] at *; exact h
  | .scr, _, h => by rw [Rep] at *; exact h
  | .ref n, _, h => by
    rw [Rep] at *
    obtain ⟨a, e, rfl⟩ := h
    exact ⟨a, pr _ _ e, rfl⟩
  | .tup ds, _, h => by
    rw [Rep] at *
    obtain ⟨a, vs, e, q, p⟩ := h
    exact ⟨a, vs, e, SqT.kp t f q, Reps.mono k t f nb pr p⟩
  | .lst ds, _, h => by
    rw [Rep] at *
    obtain ⟨a, vs, e, n, q, p⟩ := h
    refine ⟨a, vs, e, fun z => ?_, k _ _ q n, Reps.mono k t f nb pr p⟩
    rcases nb a z with z | z
    · exact n z
    · rw [q] at z; cases z
theorem Reps.mono (k : ∀ a xs, H a = some (.lst xs) → ¬ B a → H' a = some (.lst xs)) (t : ∀ a xs, H a = some (.tup xs) → H' a = some (.tup xs)) (f : ∀ a o u, H a = some (.frz o u) → H' a = some (.frz o u))
    (nb : ∀ a, B' a → B a ∨ H a = none) (pr : ∀ (n : Nat) a, r[n]? = some a → r'[n]? = some a) : ∀ {ds : List D} {vs : List V}, Reps G H B r ds vs → Reps G H' B' r' ds vs
  | [], _, h => by rw [Reps] at *; exact h
  | d :: ds, _, h => by
    rw [Reps] at *
    obtain ⟨v, ws, e, p, q⟩ := h
    exact ⟨v, ws, e, Rep.mono k t f nb pr p, Reps.mono k t f nb pr q⟩
end
theorem Reps.len : ∀ {ds : List D} {vs : List V}, Reps G H B r ds vs → vs.length = ds.length
  | [], _, h => by rw [Reps] at h; subst h; rfl
  | d :: ds, _, h => by
    rw [Reps] at h
    obtain ⟨v, ws, rfl, _, q⟩ := h
    rw [List.length_cons, List.length_cons, Reps.len q]
theorem Reps.at : ∀ {ds : List D} {vs : List V} {i : Nat} {d : D}, Reps G H B r ds vs → ds[i]? = some d → ∃ v, vs[i]? = some v ∧ Rep G H B r d v
  | [], _, _, _, _, e => by simp at e
  | x :: ds, _, 0, d, h, e => by
    rw [Reps] at h
    obtain ⟨v, ws, rfl, p, _⟩ := h
    simp at e; subst e
    exact ⟨v, rfl, p⟩
  | x :: ds, _, i + 1, d, h, e => by
    rw [Reps] at h
    obtain ⟨v, ws, rfl, _, q⟩ := h
    obtain ⟨u, h1, h2⟩ := Reps.at (i := i) q (by simpa using e)
    exact ⟨u, by simpa using h1, h2⟩
theorem Reps.nil : Reps G H B r [] [] := by rw [Reps]
theorem Reps.cons {d : D} {ds : List D} {v : V} {vs : List V} (h : Rep G H B r d v) (hs : Reps G H B r ds vs) : Reps G H B r (d :: ds) (v :: vs) := by
  rw [Reps]; exact ⟨v, vs, rfl, h, hs⟩
theorem Reps.append : ∀ {ds es : List D} {vs ws : List V}, Reps G H B r ds vs → Reps G H B r es ws → Reps G H B r (ds ++ es) (vs ++ ws)
  | [], _, _, _, h, k => by rw [Reps] at h; subst h; exact k
  | d :: ds, _, _, _, h, k => by
    rw [Reps] at h
    obtain ⟨v, us, rfl, p, q⟩ := h
    exact .cons p (Reps.append q k)
theorem Reps.take : ∀ {ds : List D} {vs : List V} (n : Nat), Reps G H B r ds vs → Reps G H B r (ds.take n) (vs.take n)
  | _, _, 0, _ => by simp; exact Reps.nil
  | [], _, n + 1, h => by rw [Reps] at h; subst h; exact Reps.nil
  | d :: ds, _, n + 1, h => by
    rw [Reps] at h
    obtain ⟨v, us, rfl, p, q⟩ := h
    exact .cons p (Reps.take n q)
theorem Reps.drop : ∀ {ds : List D} {vs : List V} (n : Nat), Reps G H B r ds vs → Reps G H B r (ds.drop n) (vs.drop n)
  | _, _, 0, h => h
  | [], _, n + 1, h => by rw [Reps] at h; subst h; exact Reps.nil
  | d :: ds, _, n + 1, h => by
    rw [Reps] at h
    obtain ⟨v, us, rfl, p, q⟩ := h
    exact Reps.drop n q
theorem Reps.set {x : D} {u : V} (hx : Rep G H B r x u) : ∀ {ds : List D} {vs : List V} (n : Nat), Reps G H B r ds vs → Reps G H B r (ds.set n x) (vs.set n u)
  | [], _, n, h => by rw [Reps] at h; subst h; exact Reps.nil
  | d :: ds, _, 0, h => by
    rw [Reps] at h
    obtain ⟨v, us, rfl, p, q⟩ := h
    exact .cons hx q
  | d :: ds, _, n + 1, h => by
    rw [Reps] at h
    obtain ⟨v, us, rfl, p, q⟩ := h
    exact .cons p (Reps.set hx n q)
theorem Reps.rep {ds : List D} {vs : List V} (h : Reps G H B r ds vs) : ∀ k : Nat, Reps G H B r (List.replicate k ds).flatten (List.replicate k vs).flatten
  | 0 => Reps.nil
  | k + 1 => by
    rw [List.replicate_succ, List.replicate_succ, List.flatten_cons, List.flatten_cons]
    exact h.append (Reps.rep h k)
theorem Reps.dropLast {ds : List D} {vs : List V} (h : Reps G H B r ds vs) : Reps G H B r ds.dropLast vs.dropLast := by
  rw [List.dropLast_eq_take, List.dropLast_eq_take, h.len]
  exact h.take _
theorem Reps.intsR : ∀ {ds : List D} {vs : List V} {ns : List Int}, Reps G H B r ds vs → intsD ds = some ns → vs = ns.map V.int
  | [], _, _, h, e => by rw [Reps] at h; subst h; cases e; rfl
  | d :: ds, _, ns, h, e => by
    rw [Reps] at h
    obtain ⟨v, us, rfl, p, q⟩ := h
    cases d with
    | int i =>
      rw [Rep] at p
      subst p
      simp only [Mi.intsD] at e
      cases e1 : Mi.intsD ds with
      | none => rw [e1] at e; cases e
      | some ms =>
        rw [e1] at e; cases e
        rw [Reps.intsR q e1]; rfl
    | _ => simp [Mi.intsD] at e
theorem Reps.boolsR : ∀ {ds : List D} {vs : List V} {ns : List Bool}, Reps G H B r ds vs → boolsD ds = some ns → vs = ns.map V.bl
  | [], _, _, h, e => by rw [Reps] at h; subst h; cases e; rfl
  | d :: ds, _, ns, h, e => by
    rw [Reps] at h
    obtain ⟨v, us, rfl, p, q⟩ := h
    cases d with
    | bl i =>
      rw [Rep] at p
      subst p
      simp only [Mi.boolsD] at e
      cases e1 : Mi.boolsD ds with
      | none => rw [e1] at e; cases e
      | some ms =>
        rw [e1] at e; cases e
        rw [Reps.boolsR q e1]; rfl
    | _ => simp [Mi.boolsD] at e
end

/-- banned places: the callers' own lists, the cells, this frame's own lists -/
def BB (Z : Addr → Prop) (r : List Addr) (ow : Nat → Option Addr) : Addr → Prop := fun a => Z a ∨ a ∈ r ∨ ∃ i, ow i = some a

/-- an attribute, by its number -/
def FldR (G : Gd) (H : Hp) (B : Addr → Prop) (r : List Addr) (p : Nat × D) (q : Str × V) : Prop := G.fd[p.1]? = some q.1 ∧ Rep G H B r p.2 q.2
/-- a key of a dict -/
def KeyR : D → L2.Key → Prop
  | .int i, .inl j => i = j
  | .str z, .inr x => x = toStr z ∧ okStr z
  | _, _ => False
def KeysR : D → List L2.Key → Prop
  | .tup ks, kk => Paired KeyR ks kk
  | _, _ => False
def DKR (G : Gd) (H : Hp) (B : Addr → Prop) (r : List Addr) (p : D × D) (q : L2.Key × V) : Prop := KeyR p.1 q.1 ∧ Rep G H B r p.2 q.2
def DTR (G : Gd) (H : Hp) (B : Addr → Prop) (r : List Addr) (p : D × D) (q : List L2.Key × V) : Prop := KeysR p.1 q.1 ∧ Rep G H B r p.2 q.2
/-- what stands at a cell's place -/
def CellR (G : Gd) (H : Hp) (B : Addr → Prop) (r : List Addr) (a : Addr) : Cell → Prop
  | .lst xs => ∃ vs, H a = some (.lst vs) ∧ Reps G H B r xs vs
  | .ins c fs => ∃ C dx us, (c, C) ∈ G.cl ∧ H a = some (.ins C dx us) ∧ Paired (FldR G H B r) fs us
  | .dct false kvs => ∃ us, H a = some (.dK us) ∧ Paired (DKR G H B r) kvs us
  | .dct true _ => False
structure StoR (G : Gd) (H : Hp) (B : Addr → Prop) (r : List Addr) (S : Sto) : Prop where
  len : r.length = S.length
  nd : r.Nodup
  cell : ∀ (n : Nat) a c, r[n]? = some a → S[n]? = some c → CellR G H B r a c
theorem paired_imp {α β : Type} {F F' : α → β → Prop} (h : ∀ a b, F a b → F' a b) : ∀ {xs : List α} {ys : List β}, Paired F xs ys → Paired F' xs ys
  | _, _, .nil => .nil
  | _, _, .cons a b => .cons (h _ _ a) (paired_imp h b)
section
variable {G : Gd} {H H' : Hp} {B B' : Addr → Prop} {r r' : List Addr}
theorem CellR.some_ {a : Addr} : ∀ {c : Cell}, CellR G H B r a c → ∃ o, H a = some o
  | .lst _, ⟨_, e, _⟩ => ⟨_, e⟩
  | .ins _ _, ⟨_, _, _, _, e, _⟩ => ⟨_, e⟩
  | .dct false _, ⟨_, e, _⟩ => ⟨_, e⟩
  | .dct true _, h => h.elim
theorem CellR.mono (k : ∀ a xs, H a = some (.lst xs) → ¬ B a → H' a = some (.lst xs)) (t : ∀ a xs, H a = some (.tup xs) → H' a = some (.tup xs)) (f : ∀ a o u, H a = some (.frz o u) → H' a = some (.frz o u))
    (nb : ∀ a, B' a → B a ∨ H a = none) (pr : ∀ (n : Nat) a, r[n]? = some a → r'[n]? = some a) {a : Addr} (ka : ∀ o, H a = some o → H' a = some o) : ∀ {c : Cell}, CellR G H B r a c → CellR G H' B' r' a c
  | .lst _, ⟨vs, e, h⟩ => ⟨vs, ka _ e, Reps.mono k t f nb pr h⟩
  | .ins _ _, ⟨C, dx, us, hc, e, h⟩ => ⟨C, dx, us, hc, ka _ e, paired_imp (fun p q z => ⟨z.1, Rep.mono k t f nb pr z.2⟩) h⟩
  | .dct false _, ⟨us, e, h⟩ => ⟨us, ka _ e, paired_imp (fun p q z => ⟨z.1, Rep.mono k t f nb pr z.2⟩) h⟩
  | .dct true _, h => h.elim
theorem StoR.mono {S : Sto} (k : ∀ a xs, H a = some (.lst xs) → ¬ B a → H' a = some (.lst xs)) (t : ∀ a xs, H a = some (.tup xs) → H' a = some (.tup xs)) (f : ∀ a o u, H a = some (.frz o u) → H' a = some (.frz o u))
    (nb : ∀ a, B' a → B a ∨ H a = none) (kc : ∀ a, a ∈ r → ∀ o, H a = some o → H' a = some o) (h : StoR G H B r S) : StoR G H' B' r S where
  len := h.len
  nd := h.nd
  cell := fun n a c e1 e2 => CellR.mono k t f nb (fun _ _ e => e) (kc a (List.mem_of_getElem? e1)) (h.cell n a c e1 e2)
end

/-- an exception as it is seen: class and field -/
structure Xc where
  adr : Nat → Option Addr
  fld : Nat → Option Str
/-- the exception that is handled: its place, class, dict -/
abbrev XA := Option (Addr × Value × Option Addr)

/-- an exception's class and dict bear (c, d) -/
def ExR (G : Gd) (xc : Xc) (H : Hp) (B : Addr → Prop) (r : List Addr) (c : Nat) (d : D) (cls : Value) (dd : Option Addr) : Prop :=
  ∃ C, xc.adr c = some C ∧ cls = .ref C ∧ match xc.fld c with
    | none => dd = none
    | some f => ∃ da v, dd = some da ∧ ¬ B da ∧ H da = some (.xd [(f, v)]) ∧ Rep G H B r d v

def SlotR (G : Gd) (xc : Xc) (xa : XA) (H : Hp) (B : Addr → Prop) (r : List Addr) (ow : Nat → Option Addr) (s : L2.St) (i : Nat) : Pl → Prop
  | .un => ow i = none
  | .fz d => ow i = none ∧ ∃ v, s[i]? = some (some v) ∧ Rep G H B r d v
  | .own xs => ∃ a vs, ow i = some a ∧ s[i]? = some (some (.ref a)) ∧ H a = some (.lst vs) ∧ Reps G H B r xs vs
  | .exn c d => ow i = none ∧ ∃ a cls dd, xa = some (a, cls, dd) ∧ s[i]? = some (some (.ref a)) ∧ ExR G xc H B r c d cls dd

structure Fr (G : Gd) (xc : Xc) (xa : XA) (Z : Addr → Prop) (r : List Addr) (ow : Nat → Option Addr) (H : Hp) (S : Sto) (env : Env) (s : L2.St) : Prop where
  slot : ∀ (i : Nat) p, env[i]? = some p → SlotR G xc xa H (BB Z r ow) r ow s i p
  out : ∀ i a, ow i = some a → i < env.length
  inj : ∀ i j a, ow i = some a → ow j = some a → i = j
  dis : ∀ i a, ow i = some a → ¬ Z a ∧ a ∉ r
  zr : ∀ a, a ∈ r → ¬ Z a
  al : ∀ a, BB Z r ow a → ∃ o, H a = some o
  sto : StoR G H (BB Z r ow) r S
  len : env.length = s.length
  scr : SqL G.K H G.sc (G.ns.map V.int)
  scf : (∃ o u, H G.sc = some (.frz o u)) ∨ ∀ H', SqL G.K H' G.sc (G.ns.map V.int)

section
variable {G : Gd} {xc : Xc} {xa : XA} {Z : Addr → Prop} {r r' : List Addr} {ow : Nat → Option Addr} {H H' : Hp} {S S' : Sto} {env : Env} {s : L2.St}
theorem Stp.rep (st : Stp H r H' r') {d : D} {v : V} (h : Rep G H (BB Z r ow) r d v) : Rep G H' (BB Z r' ow) r' d v := by
  refine Rep.mono (fun a o e n => st.keep a _ e fun z => n (.inr (.inl z))) st.tups st.frzs (fun a z => ?_) st.pre h
  rcases z with z | z | z
  · exact .inl (.inl z)
  · rcases st.new a z with z | z
    · exact .inl (.inr (.inl z))
    · exact .inr z
  · exact .inl (.inr (.inr z))
theorem Stp.reps (st : Stp H r H' r') {ds : List D} {vs : List V} (h : Reps G H (BB Z r ow) r ds vs) : Reps G H' (BB Z r' ow) r' ds vs := by
  refine Reps.mono (fun a o e n => st.keep a _ e fun z => n (.inr (.inl z))) st.tups st.frzs (fun a z => ?_) st.pre h
  rcases z with z | z | z
  · exact .inl (.inl z)
  · rcases st.new a z with z | z
    · exact .inl (.inr (.inl z))
    · exact .inr z
  · exact .inl (.inr (.inr z))
theorem Stp.exr (st : Stp H r H' r') {c : Nat} {d : D} {cls : Value} {dd : Option Addr} (h : ExR G xc H (BB Z r ow) r c d cls dd) : ExR G xc H' (BB Z r' ow) r' c d cls dd := by
  obtain ⟨C, e1, e2, h⟩ := h
  refine ⟨C, e1, e2, ?_⟩
  cases e : xc.fld c with
  | none => rw [e] at h; exact h
  | some f =>
    rw [e] at h
    obtain ⟨da, v, h1, h2, h3, h4⟩ := h
    refine ⟨da, v, h1, fun z => ?_, st.keep _ _ h3 fun z => h2 (.inr (.inl z)), st.rep h4⟩
    rcases z with z | z | z
    · exact h2 (.inl z)
    · rcases st.new _ z with z | z
      · exact h2 (.inr (.inl z))
      · rw [h3] at z; cases z
    · exact h2 (.inr (.inr z))
theorem SqL.frz {K : PySem.W.Frag} {a : Addr} {vs : List V} (hf : (∃ o u, H a = some (.frz o u)) ∨ ∀ H', SqL K H' a vs) (f : ∀ a o u, H a = some (.frz o u) → H' a = some (.frz o u)) (h : SqL K H a vs) : SqL K H' a vs := by
  rcases hf with ⟨o, u, e⟩ | k
  case inr => exact k _
  rcases h with (h | ⟨o', h⟩) | h
  · rw [e] at h; cases h
  · exact .inl (.inr ⟨o', f _ _ _ h⟩)
  · exact .inr h
/-- a frame behind an expression's step -/
theorem Fr.step (fr : Fr G xc xa Z r ow H S env s) (st : Stp H r H' r') (so : StoR G H' (BB Z r' ow) r' S') : Fr G xc xa Z r' ow H' S' env s where
  slot := fun i p e => by
    have h := fr.slot i p e
    cases p with
    | un => exact h
    | fz d =>
      obtain ⟨h0, v, h1, h2⟩ := h
      exact ⟨h0, v, h1, st.rep h2⟩
    | own xs =>
      obtain ⟨a, vs, h1, h2, h3, h4⟩ := h
      exact ⟨a, vs, h1, h2, st.keep _ _ h3 (fr.dis i a h1).2, st.reps h4⟩
    | exn c d =>
      obtain ⟨h0, a, cls, dd, h1, h2, h3⟩ := h
      exact ⟨h0, a, cls, dd, h1, h2, st.exr h3⟩
  out := fr.out
  inj := fr.inj
  dis := fun i a h => ⟨(fr.dis i a h).1, fun z => by
    rcases st.new a z with z | z
    · exact (fr.dis i a h).2 z
    · obtain ⟨o, e⟩ := fr.al a (.inr (.inr ⟨i, h⟩))
      rw [e] at z; cases z⟩
  zr := fun a ha z => by
    rcases st.new a ha with h | h
    · exact fr.zr a h z
    · obtain ⟨o, e⟩ := fr.al a (.inl z)
      rw [h] at e; cases e
  al := fun a h => by
    by_cases hb : BB Z r ow a
    · obtain ⟨o, e⟩ := fr.al a hb
      exact st.some_ a o e
    · rcases h with h | h | h
      · exact absurd (.inl h) hb
      · obtain ⟨n, hn, e⟩ := List.getElem_of_mem h
        have h1 : r'[n]? = some a := by rw [List.getElem?_eq_getElem hn, e]
        have h2 : n < S'.length := by rw [← so.len]; exact hn
        exact (so.cell n a _ h1 (List.getElem?_eq_getElem h2)).some_
      · exact absurd (.inr (.inr h)) hb
  sto := so
  len := fr.len
  scr := SqL.frz fr.scf st.frzs fr.scr
  scf := by
    rcases fr.scf with ⟨o, u, e⟩ | k
    · exact .inl ⟨o, u, st.frzs _ _ _ e⟩
    · exact .inr k
end
end Mi

set_option maxRecDepth 100000
set_option maxHeartbeats 4000000
namespace Mi
open PySem PySem.Spec PyProof.Rows
open L2 (V Hp HO upd upd_same upd_ne Same SqL SqT Rd VK XK WX PE PT PA OpR CallR IxR SlR TE TT TA tOp)

/-- the whole of a run's fixed letters -/
structure Lt where
  G : Gd
  xc : Xc
  F : Fns
  wf : Nat

/-- what is wanted behind an expression -/
def PostE (L : Lt) (xa : XA) (Z : Addr → Prop) (r : List Addr) (ow : Nat → Option Addr) (H : Hp) (env : Env) (s : L2.St) (Q : VK) (E : XK) : Res D → Prop
  | .ok d S' => ∀ v H' r', Stp H r H' r' → Fr L.G L.xc xa Z r' ow H' S' env s → Rep L.G H' (BB Z r' ow) r' d v → Q v H'
  | .exc c d S' => ∀ cls dd H' r', Stp H r H' r' → Fr L.G L.xc xa Z r' ow H' S' env s → ExR L.G L.xc H' (BB Z r' ow) r' c d cls dd → E cls dd H'
  | .stuck => False
/-- the same of several values -/
def PostEs (L : Lt) (xa : XA) (Z : Addr → Prop) (r : List Addr) (ow : Nat → Option Addr) (H : Hp) (env : Env) (s : L2.St) (Q : List V → Hp → Prop) (E : XK) : Res (List D) → Prop
  | .ok ds S' => ∀ vs H' r', Stp H r H' r' → Fr L.G L.xc xa Z r' ow H' S' env s → Reps L.G H' (BB Z r' ow) r' ds vs → Q vs H'
  | .exc c d S' => ∀ cls dd H' r', Stp H r H' r' → Fr L.G L.xc xa Z r' ow H' S' env s → ExR L.G L.xc H' (BB Z r' ow) r' c d cls dd → E cls dd H'
  | .stuck => False
/-- a value as it is looked at: a frozen one, or this frame's own list -/
def Pk (G : Gd) (Z : Addr → Prop) (r : List Addr) (ow : Nat → Option Addr) (H : Hp) (d : D) (v : V) : Prop :=
  Rep G H (BB Z r ow) r d v ∨ ∃ i a xs vs, ow i = some a ∧ d = .lst xs ∧ v = .ref a ∧ H a = some (.lst vs) ∧ Reps G H (BB Z r ow) r xs vs
/-- .. or a cell's list, as it stands now -/
def Pc (G : Gd) (Z : Addr → Prop) (r : List Addr) (ow : Nat → Option Addr) (H : Hp) (d : D) (v : V) : Prop :=
  Pk G Z r ow H d v ∨ ∃ (n : Nat) (a : Addr) (xs : List D) (vs : List V), r[n]? = some a ∧ d = .lst xs ∧ v = .ref a ∧ H a = some (.lst vs) ∧ Reps G H (BB Z r ow) r xs vs
theorem Pc.r {G : Gd} {Z : Addr → Prop} {r : List Addr} {ow : Nat → Option Addr} {H : Hp} {d : D} {v : V} (h : Rep G H (BB Z r ow) r d v) : Pc G Z r ow H d v := .inl (.inl h)
def PostR (L : Lt) (xa : XA) (Z : Addr → Prop) (r : List Addr) (ow : Nat → Option Addr) (H : Hp) (env : Env) (s : L2.St) (Q : VK) (E : XK) : Res D → Prop
  | .ok d S' => ∀ v H' r', Stp H r H' r' → Fr L.G L.xc xa Z r' ow H' S' env s → Pk L.G Z r' ow H' d v → Q v H'
  | .exc c d S' => ∀ cls dd H' r', Stp H r H' r' → Fr L.G L.xc xa Z r' ow H' S' env s → ExR L.G L.xc H' (BB Z r' ow) r' c d cls dd → E cls dd H'
  | .stuck => False
def PostRs (L : Lt) (xa : XA) (Z : Addr → Prop) (r : List Addr) (ow : Nat → Option Addr) (H : Hp) (env : Env) (s : L2.St) (Q : List V → Hp → Prop) (E : XK) : Res (List D) → Prop
  | .ok ds S' => ∀ vs H' r', Stp H r H' r' → Fr L.G L.xc xa Z r' ow H' S' env s → Paired (Pk L.G Z r' ow H') ds vs → Q vs H'
  | .exc c d S' => ∀ cls dd H' r', Stp H r H' r' → Fr L.G L.xc xa Z r' ow H' S' env s → ExR L.G L.xc H' (BB Z r' ow) r' c d cls dd → E cls dd H'
  | .stuck => False

/-- the readings: W is the wish about exceptions -/
def rdE (L : Lt) (xa : XA) (W : WX) (x : Ex) : TE := fun s H Q => ∃ Z r ow S env, Fr L.G L.xc xa Z r ow H S env s ∧ PostE L xa Z r ow H env s Q (fun c d H' => W c d s H') (evE L.F x env S)
def rdR (L : Lt) (xa : XA) (W : WX) (x : Ex) : TE := fun s H Q => ∃ Z r ow S env, Fr L.G L.xc xa Z r ow H S env s ∧ PostR L xa Z r ow H env s Q (fun c d H' => W c d s H') (rd x env S (evE L.F x env S))
def rdEs (L : Lt) (xa : XA) (W : WX) (xs : List Ex) : TA := fun s H Q => ∃ Z r ow S env, Fr L.G L.xc xa Z r ow H S env s ∧ PostEs L xa Z r ow H env s Q (fun c d H' => W c d s H') (evEs L.F xs env S)
def rdRs (L : Lt) (xa : XA) (W : WX) (xs : List Ex) : TA := fun s H Q => ∃ Z r ow S env, Fr L.G L.xc xa Z r ow H S env s ∧ PostRs L xa Z r ow H env s Q (fun c d H' => W c d s H') (evRs L.F xs env S)
def rdT (L : Lt) (xa : XA) (W : WX) (x : Ex) : TT := fun s H Q => ∃ Z r ow S env, Fr L.G L.xc xa Z r ow H S env s ∧ PostE L xa Z r ow H env s (fun v H' => ∃ b, v = .bl b ∧ Q b H') (fun c d H' => W c d s H') (evE L.F x env S)

theorem PE.imp {X : L2.Cx} {e : Expr} {t t' : TE} (h : PE X e t) (k : ∀ s H Q, t' s H Q → t s H Q) : PE X e t' := ⟨fun pins s σ H Q I q => h.run pins s σ H Q I (k _ _ _ q)⟩
theorem PT.imp {X : L2.Cx} {e : Expr} {t t' : TT} (h : PT X e t) (k : ∀ s H Q, t' s H Q → t s H Q) : PT X e t' := ⟨fun pins s σ H Q I q => h.run pins s σ H Q I (k _ _ _ q)⟩
theorem PA.imp {X : L2.Cx} {e : List Expr} {t t' : TA} (h : PA X e t) (k : ∀ s H Q, t' s H Q → t s H Q) : PA X e t' := ⟨fun pos pins s σ H Q I q => h.run pos pins s σ H Q I (k _ _ _ q)⟩

section
variable {L : Lt} {xa : XA} {Z : Addr → Prop} {r r' : List Addr} {ow : Nat → Option Addr} {H H' : Hp} {S S' : Sto} {env : Env} {s : L2.St} {Q : VK} {E : XK} {W : WX}
theorem Pk.step (fr : Fr L.G L.xc xa Z r ow H S env s) (st : Stp H r H' r') {d : D} {v : V} (h : Pk L.G Z r ow H d v) : Pk L.G Z r' ow H' d v := by
  rcases h with h | ⟨i, a, xs, vs, h1, h2, h3, h4, h5⟩
  · exact .inl (st.rep h)
  · exact .inr ⟨i, a, xs, vs, h1, h2, h3, st.keep _ _ h4 (fr.dis i a h1).2, st.reps h5⟩
/-- wants and steps -/
theorem PostE.from {H1 : Hp} {r1 : List Addr} (st : Stp H r H1 r1) : ∀ {R : Res D}, PostE L xa Z r ow H env s Q E R → PostE L xa Z r1 ow H1 env s Q E R
  | .ok d S', h => fun v H' r' st' fr rp => h v H' r' (st.trans st') fr rp
  | .exc c d S', h => fun cls dd H' r' st' fr rp => h cls dd H' r' (st.trans st') fr rp
  | .stuck, h => h
theorem PostR.from {H1 : Hp} {r1 : List Addr} (st : Stp H r H1 r1) : ∀ {R : Res D}, PostR L xa Z r ow H env s Q E R → PostR L xa Z r1 ow H1 env s Q E R
  | .ok d S', h => fun v H' r' st' fr rp => h v H' r' (st.trans st') fr rp
  | .exc c d S', h => fun cls dd H' r' st' fr rp => h cls dd H' r' (st.trans st') fr rp
  | .stuck, h => h
theorem PostEs.from {QA : List V → Hp → Prop} {H1 : Hp} {r1 : List Addr} (st : Stp H r H1 r1) : ∀ {R : Res (List D)}, PostEs L xa Z r ow H env s QA E R → PostEs L xa Z r1 ow H1 env s QA E R
  | .ok d S', h => fun v H' r' st' fr rp => h v H' r' (st.trans st') fr rp
  | .exc c d S', h => fun cls dd H' r' st' fr rp => h cls dd H' r' (st.trans st') fr rp
  | .stuck, h => h
/-- one value, then more: the value's own reading -/
theorem rdE.bind {x : Ex} {β : Type} {k : D → Sto → Res β} {P : Res β → Prop} (fr : Fr L.G L.xc xa Z r ow H S env s)
    (hp : P ((evE L.F x env S).bind k)) (hok : ∀ d S', P (k d S') → ∀ v H' r', Stp H r H' r' → Fr L.G L.xc xa Z r' ow H' S' env s → Rep L.G H' (BB Z r' ow) r' d v → Q v H')
    (hex : ∀ c d S', P (.exc c d S') → ∀ cls dd H' r', Stp H r H' r' → Fr L.G L.xc xa Z r' ow H' S' env s → ExR L.G L.xc H' (BB Z r' ow) r' c d cls dd → W cls dd s H') (hst : ¬ P .stuck) : rdE L xa W x s H Q := by
  refine ⟨Z, r, ow, S, env, fr, ?_⟩
  cases e : evE L.F x env S with
  | ok d S' => rw [e] at hp; exact hok d S' hp
  | exc c d S' => rw [e] at hp; exact hex c d S' hp
  | stuck => rw [e] at hp; exact hst hp
theorem rdR.bind {x : Ex} {β : Type} {k : D → Sto → Res β} {P : Res β → Prop} (fr : Fr L.G L.xc xa Z r ow H S env s)
    (hp : P ((rd x env S (evE L.F x env S)).bind k)) (hok : ∀ d S', P (k d S') → ∀ v H' r', Stp H r H' r' → Fr L.G L.xc xa Z r' ow H' S' env s → Pk L.G Z r' ow H' d v → Q v H')
    (hex : ∀ c d S', P (.exc c d S') → ∀ cls dd H' r', Stp H r H' r' → Fr L.G L.xc xa Z r' ow H' S' env s → ExR L.G L.xc H' (BB Z r' ow) r' c d cls dd → W cls dd s H') (hst : ¬ P .stuck) : rdR L xa W x s H Q := by
  refine ⟨Z, r, ow, S, env, fr, ?_⟩
  cases e : rd x env S (evE L.F x env S) with
  | ok d S' => rw [e] at hp; exact hok d S' hp
  | exc c d S' => rw [e] at hp; exact hex c d S' hp
  | stuck => rw [e] at hp; exact hst hp
theorem rdEs.bind {xs : List Ex} {β : Type} {k : List D → Sto → Res β} {P : Res β → Prop} {QA : List V → Hp → Prop} (fr : Fr L.G L.xc xa Z r ow H S env s)
    (hp : P ((evEs L.F xs env S).bind k)) (hok : ∀ d S', P (k d S') → ∀ v H' r', Stp H r H' r' → Fr L.G L.xc xa Z r' ow H' S' env s → Reps L.G H' (BB Z r' ow) r' d v → QA v H')
    (hex : ∀ c d S', P (.exc c d S') → ∀ cls dd H' r', Stp H r H' r' → Fr L.G L.xc xa Z r' ow H' S' env s → ExR L.G L.xc H' (BB Z r' ow) r' c d cls dd → W cls dd s H') (hst : ¬ P .stuck) : rdEs L xa W xs s H QA := by
  refine ⟨Z, r, ow, S, env, fr, ?_⟩
  cases e : evEs L.F xs env S with
  | ok d S' => rw [e] at hp; exact hok d S' hp
  | exc c d S' => rw [e] at hp; exact hex c d S' hp
  | stuck => rw [e] at hp; exact hst hp
theorem rdRs.bind {xs : List Ex} {β : Type} {k : List D → Sto → Res β} {P : Res β → Prop} {QA : List V → Hp → Prop} (fr : Fr L.G L.xc xa Z r ow H S env s)
    (hp : P ((evRs L.F xs env S).bind k)) (hok : ∀ d S', P (k d S') → ∀ v H' r', Stp H r H' r' → Fr L.G L.xc xa Z r' ow H' S' env s → Paired (Pk L.G Z r' ow H') d v → QA v H')
    (hex : ∀ c d S', P (.exc c d S') → ∀ cls dd H' r', Stp H r H' r' → Fr L.G L.xc xa Z r' ow H' S' env s → ExR L.G L.xc H' (BB Z r' ow) r' c d cls dd → W cls dd s H') (hst : ¬ P .stuck) : rdRs L xa W xs s H QA := by
  refine ⟨Z, r, ow, S, env, fr, ?_⟩
  cases e : evRs L.F xs env S with
  | ok d S' => rw [e] at hp; exact hok d S' hp
  | exc c d S' => rw [e] at hp; exact hex c d S' hp
  | stuck => rw [e] at hp; exact hst hp
end

section
variable {L : Lt} {xa : XA} {X : L2.Cx} {W : WX}
/-- an operator by values is good for a function upon trees -/
def OpG (L : Lt) (xa : XA) (f : D → D → Option D) (R : L2.R2) : Prop :=
  ∀ Z r ow H S env s d1 d2 v1 v2 d Q, Fr L.G L.xc xa Z r ow H S env s → Pc L.G Z r ow H d1 v1 → Pc L.G Z r ow H d2 v2 → f d1 d2 = some d →
    (∀ v H' r', Stp H r H' r' → Fr L.G L.xc xa Z r' ow H' S env s → Rep L.G H' (BB Z r' ow) r' d v → Q v H') → R v1 v2 H Q
theorem two_ok {f : D → D → Option D} {R : L2.R2} {x y : Ex} (og : OpG L xa f R) {s : L2.St} {H : Hp} {Q : VK} {Z : Addr → Prop} {r : List Addr} {ow : Nat → Option Addr} {S : Sto} {env : Env} (fr : Fr L.G L.xc xa Z r ow H S env s)
    (h : PostE L xa Z r ow H env s Q (fun c d H' => W c d s H') ((rd x env S (evE L.F x env S)).bind fun a S => (rd y env S (evE L.F y env S)).bind fun b S => .of (f a b) S)) :
    tOp R (rdR L xa W x) (rdR L xa W y) s H Q := by
  refine rdR.bind (P := PostE L xa Z r ow H env s Q (fun c d H' => W c d s H')) fr h (fun d1 S1 h1 v1 H1 r1 st1 fr1 p1 => ?_) (fun c d S' h => h) id
  refine rdR.bind (P := PostE L xa Z r ow H env s Q (fun c d H' => W c d s H')) fr1 h1 (fun d2 S2 h2 v2 H2 r2 st2 fr2 p2 => ?_) (fun c d S' h cls dd H' r' st => h cls dd H' r' (st1.trans st)) id
  cases e : f d1 d2 with
  | none => rw [e] at h2; exact h2.elim
  | some d =>
    rw [e] at h2
    exact og Z r2 ow H2 S2 env s d1 d2 v1 v2 d Q fr2 (.inl (Pk.step fr1 st2 p1)) (.inl p2) e fun v H' r' st' fr' rp => h2 v H' r' ((st1.trans st2).trans st') fr' rp
end
end Mi

set_option maxRecDepth 100000
set_option maxHeartbeats 4000000
namespace Mi
open PySem PySem.Spec PyProof.Rows
open L2 (V Hp HO upd upd_same upd_ne Same SqL SqT Rd VK XK WX PE PT PA OpR CallR IxR SlR TE TT TA tOp)

section
variable {G : Gd} {xc : Xc} {xa : XA} {Z : Addr → Prop} {r r' : List Addr} {ow : Nat → Option Addr} {H H' : Hp} {S S' : Sto} {env : Env} {s : L2.St}
theorem Pk.non {v : V} (h : Pk G Z r ow H .non v) : v = .non := by
  rcases h with h | ⟨_, _, _, _, _, h, _⟩
  · rw [Rep] at h; exact h
  · cases h
theorem Pk.bl {b : Bool} {v : V} (h : Pk G Z r ow H (.bl b) v) : v = .bl b := by
  rcases h with h | ⟨_, _, _, _, _, h, _⟩
  · rw [Rep] at h; exact h
  · cases h
theorem Pk.int {i : Int} {v : V} (h : Pk G Z r ow H (.int i) v) : v = .int i := by
  rcases h with h | ⟨_, _, _, _, _, h, _⟩
  · rw [Rep] at h; exact h
  · cases h
theorem Pk.str {x : List Nat} {v : V} (h : Pk G Z r ow H (.str x) v) : v = .str (toStr x) ∧ okStr x := by
  rcases h with h | ⟨_, _, _, _, _, h, _⟩
  · rw [Rep] at h; exact h
  · cases h
theorem Pk.tup {xs : List D} {v : V} (h : Pk G Z r ow H (.tup xs) v) : ∃ a vs, v = .ref a ∧ SqT G.K H a vs ∧ Reps G H (BB Z r ow) r xs vs := by
  rcases h with h | ⟨_, _, _, _, _, h, _⟩
  · rw [Rep] at h; exact h
  · cases h
theorem Pk.lst {xs : List D} {v : V} (h : Pk G Z r ow H (.lst xs) v) : ∃ a vs, v = .ref a ∧ H a = some (.lst vs) ∧ Reps G H (BB Z r ow) r xs vs := by
  rcases h with h | ⟨_, a, _, vs, _, e, h1, h2, h3⟩
  · rw [Rep] at h
    obtain ⟨a, vs, h1, _, h2, h3⟩ := h
    exact ⟨a, vs, h1, h2, h3⟩
  · cases e
    exact ⟨a, vs, h1, h2, h3⟩
theorem Pc.non {v : V} (h : Pc G Z r ow H .non v) : v = .non := by
  rcases h with h | ⟨_, _, _, _, _, h, _⟩
  · exact h.non
  · cases h
theorem Pc.bl {b : Bool} {v : V} (h : Pc G Z r ow H (.bl b) v) : v = .bl b := by
  rcases h with h | ⟨_, _, _, _, _, h, _⟩
  · exact h.bl
  · cases h
theorem Pc.int {i : Int} {v : V} (h : Pc G Z r ow H (.int i) v) : v = .int i := by
  rcases h with h | ⟨_, _, _, _, _, h, _⟩
  · exact h.int
  · cases h
theorem Pc.str {x : List Nat} {v : V} (h : Pc G Z r ow H (.str x) v) : v = .str (toStr x) ∧ okStr x := by
  rcases h with h | ⟨_, _, _, _, _, h, _⟩
  · exact h.str
  · cases h
theorem Pc.tup {xs : List D} {v : V} (h : Pc G Z r ow H (.tup xs) v) : ∃ a vs, v = .ref a ∧ SqT G.K H a vs ∧ Reps G H (BB Z r ow) r xs vs := by
  rcases h with h | ⟨_, _, _, _, _, h, _⟩
  · exact h.tup
  · cases h
theorem Pc.lst {xs : List D} {v : V} (h : Pc G Z r ow H (.lst xs) v) : ∃ a vs, v = .ref a ∧ H a = some (.lst vs) ∧ Reps G H (BB Z r ow) r xs vs := by
  rcases h with h | ⟨_, a, _, vs, _, e, h1, h2, h3⟩
  · exact h.lst
  · cases e
    exact ⟨a, vs, h1, h2, h3⟩
theorem StoR.laid {B : Addr → Prop} {p : Addr} {o : HO} (hp : H p = none) (h : StoR G H B r S) : StoR G (upd H p o) B r S :=
  StoR.mono (fun a u e _ => by rw [upd_ne (L2.ne_of_none e hp)]; exact e) (fun a u e => by rw [upd_ne (L2.ne_of_none e hp)]; exact e) (fun a u w e => by rw [upd_ne (L2.ne_of_none e hp)]; exact e) (fun a z => .inl z) (fun a _ u e => by rw [upd_ne (L2.ne_of_none e hp)]; exact e) h
theorem StoR.yld {B : Addr → Prop} {H2 : Hp} (hH : H2 = H ∨ ∃ (T : Addr) (o : List V), H T = none ∧ H2 = upd H T (.tup o)) (h : StoR G H B r S) : StoR G H2 B r S := by
  rcases hH with rfl | ⟨T, o, hT, rfl⟩
  · exact h
  · exact h.laid hT
theorem Fr.laid (fr : Fr G xc xa Z r ow H S env s) {p : Addr} {o : HO} (hp : H p = none) : Fr G xc xa Z r ow (upd H p o) S env s := fr.step (.laid hp) (fr.sto.laid hp)
theorem Fr.fresh (fr : Fr G xc xa Z r ow H S env s) {p : Addr} (hp : H p = none) : ¬ BB Z r ow p := fun z => by
  obtain ⟨o, e⟩ := fr.al p z
  rw [hp] at e; cases e
theorem rep_lst (fr : Fr G xc xa Z r ow H S env s) {p : Addr} {ds : List D} {vs : List V} (hp : H p = none) (h : Reps G H (BB Z r ow) r ds vs) : Rep G (upd H p (.lst vs)) (BB Z r ow) r (.lst ds) (.ref p) := by
  rw [Rep]
  exact ⟨p, vs, rfl, fr.fresh hp, upd_same, (Stp.laid hp).reps h⟩
theorem rep_tup (fr : Fr G xc xa Z r ow H S env s) {p : Addr} {ds : List D} {vs : List V} (hp : H p = none) (h : Reps G H (BB Z r ow) r ds vs) : Rep G (upd H p (.tup vs)) (BB Z r ow) r (.tup ds) (.ref p) := by
  rw [Rep]
  exact ⟨p, vs, rfl, .of upd_same, (Stp.laid hp).reps h⟩
end

theorem sz_eq : SZ = sizeLine := by rw [sizeLine_eq]
theorem toStr_app (x y : List Nat) : toStr (x ++ y) = toStr x ++ toStr y := by
  show (⟨(x ++ y).toArray⟩ : Str) = ⟨x.toArray ++ y.toArray⟩
  simp
theorem toStr_len (x : List Nat) : (toStr x).length = x.length := by
  show x.toArray.size = _
  simp
theorem okStr.app {x y : List Nat} (h : okStr x) (k : okStr y) : okStr (x ++ y) := fun c hc => (List.mem_append.mp hc).elim (h c) (k c)

section
variable {L : Lt} {xa : XA} {X : L2.Cx} {W : WX}
/-- two ints -/
theorem OpG.ints {f : D → D → Option D} {C : Int → Int → Prop} {g : Int → Int → Int}
    (h : ∀ d1 d2 d, f d1 d2 = some d → ∃ i j, d1 = .int i ∧ d2 = .int j ∧ C i j ∧ d = .int (g i j)) : OpG L xa f (L2.rI C fun i j => .int (g i j)) := by
  intro Z r ow H S env s d1 d2 v1 v2 d Q fr p1 p2 e hq
  obtain ⟨i, j, rfl, rfl, hc, rfl⟩ := h d1 d2 d e
  exact ⟨i, j, p1.int, p2.int, hc, hq _ _ _ .refl fr (by rw [Rep])⟩

abbrev rOr (a b : L2.R2) : L2.R2 := fun x y H Q => a x y H Q ∨ b x y H Q
theorem OpG.inl {f : D → D → Option D} {a b : L2.R2} (h : OpG L xa f a) : OpG L xa f (rOr a b) := fun Z r ow H S env s d1 d2 v1 v2 d Q fr p1 p2 e hq => .inl (h Z r ow H S env s d1 d2 v1 v2 d Q fr p1 p2 e hq)
theorem OpG.inr {f : D → D → Option D} {a b : L2.R2} (h : OpG L xa f b) : OpG L xa f (rOr a b) := fun Z r ow H S env s d1 d2 v1 v2 d Q fr p1 p2 e hq => .inr (h Z r ow H S env s d1 d2 v1 v2 d Q fr p1 p2 e hq)

/-- what the model's operator asks, for each of ours -/
def opR (K : PySem.W.Frag) : Bop → L2.R2
  | .add => rOr (L2.rI0 fun i j => .int (i + j)) (rOr (fun x y H Q => ∃ i j, x = .str i ∧ y = .str j ∧ i.length + j.length ≤ sizeLine ∧ Q (.str (i ++ j)) H) (rOr L2.rCat (L2.rCatA K)))
  | .sub => L2.rI0 fun i j => .int (i - j)
  | .mul => rOr (L2.rI L2.CMul fun i j => .int (i * j)) L2.rRep
  | .mod => L2.rI (fun _ j => 0 < j) fun i j => .int (i % j)
  | .fdiv => L2.rI L2.CDiv fun i j => .int (i / j)
  | .pow => L2.rI L2.CPow fun i j => .int (i ^ j.toNat)
  | .shl => L2.rI L2.CPow fun i j => .int (i * 2 ^ j.toNat)
  | .shr => L2.rI (fun _ j => 0 ≤ j) fun i j => .int (i / 2 ^ j.toNat)
  | .band => L2.rI0 fun i j => .int (Builtin.bitAnd i j)
  | .bor => L2.rI0 fun i j => .int (Builtin.bitOr i j)
  | .bxor => L2.rI0 fun i j => .int (Builtin.bitXor i j)
def opOf : Bop → Operator
  | .add => .Add | .sub => .Sub | .mul => .Mult | .mod => .Mod | .fdiv => .FloorDiv | .pow => .Pow | .shl => .LShift | .shr => .RShift | .band => .BitAnd | .bor => .BitOr | .bxor => .BitXor
theorem op_run (o : Bop) : OpR X (binaryOp (opOf o)) (opR X.K o) := by
  cases o
  · exact L2.op_add.or (L2.op_add_str.or (L2.op_cat.or L2.op_catA))
  · exact L2.op_sub
  · exact L2.op_mul.or L2.op_rep
  · exact L2.op_mod
  · exact L2.op_fdiv
  · exact L2.op_pow
  · exact L2.op_shl
  · exact L2.op_shr
  · exact L2.op_and
  · exact L2.op_or
  · exact L2.op_xor
theorem cmul_of {i j : Int} (h : (small i || small j) = true) : L2.CMul i j := by
  rcases Bool.or_eq_true_iff.mp h with h | h
  · exact .inl (of_decide_eq_true h)
  · exact .inr (of_decide_eq_true h)
theorem op_good (o : Bop) : OpG L xa (opB o) (opR L.G.K o) := by
  intro Z r ow H S env s d1 d2 v1 v2 d Q fr p1 p2 e hq
  have fin : ∀ i : Int, d = .int i → Q (.int i) H := fun i h => hq _ _ _ .refl fr (by rw [h, Rep])
  have il : ∀ {C : Int → Int → Prop} {g : Int → Int → V} {i j k : Int}, d1 = .int i → d2 = .int j → C i j → d = .int k → g i j = .int k → L2.rI C g v1 v2 H Q := fun {C g i j k} h1 h2 hc h3 h4 => by
    subst h1; subst h2
    exact ⟨i, j, p1.int, p2.int, hc, h4 ▸ fin k h3⟩
  have il0 : ∀ {g : Int → Int → V} {i j k : Int}, d1 = .int i → d2 = .int j → d = .int k → g i j = .int k → L2.rI0 g v1 v2 H Q := fun {g i j k} h1 h2 h3 h4 => by
    subst h1; subst h2
    exact ⟨i, j, p1.int, p2.int, h4 ▸ fin k h3⟩
  cases o
  case add =>
    cases d1 <;> cases d2 <;> simp only [opB] at e <;> (try (cases e; done))
    case int.int i j => cases e; exact .inl (il0 rfl rfl rfl rfl)
    case str.str x y =>
      split at e
      · rename_i hz
        cases e
        refine .inr (.inl ⟨_, _, p1.str.1, p2.str.1, ?_, ?_⟩)
        · rw [toStr_len, toStr_len, ← sz_eq]; exact hz
        · refine hq _ _ _ .refl fr ?_
          rw [Rep, toStr_app]
          exact ⟨rfl, p1.str.2.app p2.str.2⟩
      · cases e
    case lst.lst x y =>
      split at e
      · rename_i hz
        cases e
        obtain ⟨a, vs, e1, h1, q1⟩ := p1.lst
        obtain ⟨b, ws, e2, h2, q2⟩ := p2.lst
        refine .inr (.inr (.inl ⟨a, b, vs, ws, e1, e2, h1, h2, ?_, fun p hp => ?_⟩))
        · rw [q1.len, q2.len, ← sz_eq]; exact hz
        · exact hq _ _ _ (.laid hp) (fr.laid hp) (rep_lst fr hp (q1.append q2))
      · cases e
    case tup.tup x y =>
      split at e
      · rename_i hz
        cases e
        obtain ⟨a, vs, e1, h1, q1⟩ := p1.tup
        obtain ⟨b, ws, e2, h2, q2⟩ := p2.tup
        have l1 := q1.len
        have l2 := q2.len
        refine .inr (.inr (.inr ⟨a, b, vs, ws, e1, e2, h1, h2, ?_, fun z => ?_, fun _ z => ?_, fun _ _ p hp => ?_⟩))
        · rw [l1, l2, ← sz_eq]; exact hz
        · subst z
          have : x = [] := List.length_eq_zero_iff.mp (by simpa using l1.symm)
          subst this
          refine hq _ _ _ .refl fr ?_
          rw [List.nil_append, Rep]
          exact ⟨b, ws, rfl, h2, q2⟩
        · subst z
          have : y = [] := List.length_eq_zero_iff.mp (by simpa using l2.symm)
          subst this
          rw [List.append_nil] at hq
          refine hq _ _ _ .refl fr ?_
          rw [Rep]
          exact ⟨a, vs, rfl, h1, q1⟩
        · exact hq _ _ _ (.laid hp) (fr.laid hp) (rep_tup fr hp (q1.append q2))
      · cases e
  case sub =>
    cases d1 <;> cases d2 <;> simp only [opB] at e <;> (try (cases e; done))
    cases e; exact il0 rfl rfl rfl rfl
  case mul =>
    cases d1 <;> cases d2 <;> simp only [opB] at e <;> (try (cases e; done))
    case int.int i j =>
      split at e
      · rename_i hz
        cases e; exact .inl (il rfl rfl (cmul_of hz) rfl rfl)
      · cases e
    case lst.int x k =>
      split at e
      · rename_i hz
        cases e
        obtain ⟨a, vs, e1, h1, q1⟩ := p1.lst
        refine .inr ⟨a, k, vs, e1, p2.int, h1, by omega, ?_, ?_, fun p hp => ?_⟩
        · have h3 : k ≤ 16777216 := hz.2.2
          omega
        · rw [q1.len, ← sz_eq]; exact hz.1
        · exact hq _ _ _ (.laid hp) (fr.laid hp) (rep_lst fr hp (q1.rep k.toNat))
      · cases e
  case mod =>
    cases d1 <;> cases d2 <;> simp only [opB] at e <;> (try (cases e; done))
    split at e
    · rename_i hz
      cases e; exact il rfl rfl hz rfl rfl
    · cases e
  case fdiv =>
    cases d1 <;> cases d2 <;> simp only [opB] at e <;> (try (cases e; done))
    split at e
    · rename_i hz
      cases e; exact il rfl rfl hz rfl rfl
    · cases e
  case pow =>
    cases d1 <;> cases d2 <;> simp only [opB] at e <;> (try (cases e; done))
    split at e
    · rename_i hz
      cases e; exact il rfl rfl ⟨hz.1, by omega, hz.2.2⟩ rfl rfl
    · cases e
  case shl =>
    cases d1 <;> cases d2 <;> simp only [opB] at e <;> (try (cases e; done))
    split at e
    · rename_i hz
      cases e; exact il rfl rfl ⟨hz.1, by omega, hz.2.2⟩ rfl rfl
    · cases e
  case shr =>
    cases d1 <;> cases d2 <;> simp only [opB] at e <;> (try (cases e; done))
    split at e
    · rename_i hz
      cases e; exact il rfl rfl hz rfl rfl
    · cases e
  case band =>
    cases d1 <;> cases d2 <;> simp only [opB] at e <;> (try (cases e; done))
    split at e
    · rename_i hz
      cases e; exact il0 rfl rfl rfl (by rw [bitAnd_pp hz.1 hz.2])
    · cases e
  case bor =>
    cases d1 <;> cases d2 <;> simp only [opB] at e <;> (try (cases e; done))
    split at e
    · rename_i hz
      cases e; exact il0 rfl rfl rfl (by rw [Bits.bitOr_pp hz.1 hz.2])
    · cases e
  case bxor =>
    cases d1 <;> cases d2 <;> simp only [opB] at e <;> (try (cases e; done))
    split at e
    · rename_i hz
      cases e; exact il0 rfl rfl rfl (by rw [Bits.bitXor_pp hz.1 hz.2])
    · cases e
end
end Mi

set_option maxRecDepth 100000
set_option maxHeartbeats 4000000
namespace Mi
open PySem PySem.Spec PyProof.Rows
open L2 (V Hp HO upd upd_same upd_ne Same SqL SqT Rd VK XK WX PE PT PA OpR CallR IxR SlR TE TT TA tOp Dp DpAll)

mutual
def D.py : D → PyData
  | .non => .none
  | .bl b => .bool b
  | .int i => .int i
  | .str s => .str (toStr s)
  | .tup xs => .tuple (D.pys xs)
  | .lst xs => .list (D.pys xs)
  | .scr => .none
  | .ref _ => .none
def D.pys : List D → List PyData
  | [] => []
  | x :: xs => D.py x :: D.pys xs
end
theorem toStr_beq (x y : List Nat) : (toStr x == toStr y) = (x == y) := by
  by_cases h : x = y
  · subst h; simp
  · have h2 : toStr x ≠ toStr y := fun e => by
      have e1 : x.toArray = y.toArray := congrArg Str.cps e
      exact h (by simpa using congrArg Array.toList e1)
    rw [beq_eq_false_iff_ne.mpr h, beq_eq_false_iff_ne.mpr h2]
theorem toStr_inj {x y : List Nat} (h : toStr x = toStr y) : x = y := by
  have e1 : x.toArray = y.toArray := congrArg Str.cps h
  simpa using congrArg Array.toList e1
mutual
theorem eqv_py : ∀ (n m : Nat) (a b : D), D.flat n a = true → D.flat m b = true → PyData.eqv a.py b.py = D.eqv a b
  | n, m, .non, b, _, hb => by cases b <;> simp [D.py, PyData.eqv, D.eqv, D.flat] at hb ⊢
  | n, m, .bl _, b, _, hb => by cases b <;> simp [D.py, PyData.eqv, D.eqv, D.flat] at hb ⊢
  | n, m, .int _, b, _, hb => by cases b <;> simp [D.py, PyData.eqv, D.eqv, D.flat] at hb ⊢
  | n, m, .str x, b, _, hb => by
    cases b <;> simp [D.py, PyData.eqv, D.eqv, D.flat] at hb ⊢
    exact toStr_beq _ _
  | n, m, .scr, _, ha, _ => by simp [D.flat] at ha
  | n, m, .ref _, _, ha, _ => by simp [D.flat] at ha
  | 0, m, .tup xs, b, ha, hb => by simp [D.flat] at ha
  | 0, m, .lst xs, b, ha, hb => by simp [D.flat] at ha
  | n + 1, m, .tup xs, b, ha, hb => by
    cases b with
    | tup ys =>
      cases m with
      | zero => simp [D.flat] at hb
      | succ m =>
        simp only [D.flat] at ha hb
        simp only [D.py, PyData.eqv, D.eqv]
        exact eqvs_py n m xs ys ha hb
    | _ => simp [D.py, PyData.eqv, D.eqv, D.flat] at hb ⊢
  | n + 1, m, .lst xs, b, ha, hb => by
    cases b with
    | lst ys =>
      cases m with
      | zero => simp [D.flat] at hb
      | succ m =>
        simp only [D.flat] at ha hb
        simp only [D.py, PyData.eqv, D.eqv]
        exact eqvs_py n m xs ys ha hb
    | _ => simp [D.py, PyData.eqv, D.eqv, D.flat] at hb ⊢
theorem eqvs_py : ∀ (n m : Nat) (a b : List D), D.flats n a = true → D.flats m b = true → PyData.eqvAll (D.pys a) (D.pys b) = D.eqvs a b
  | n, m, [], [], _, _ => by simp [D.pys, PyData.eqvAll, D.eqvs]
  | n, m, [], _ :: _, _, _ => by simp [D.pys, PyData.eqvAll, D.eqvs]
  | n, m, _ :: _, [], _, _ => by simp [D.pys, PyData.eqvAll, D.eqvs]
  | n, m, x :: xs, y :: ys, ha, hb => by
    simp only [D.flats, Bool.and_eq_true] at ha hb
    simp only [D.pys, PyData.eqvAll, D.eqvs]
    rw [eqv_py n m x y ha.1 hb.1, eqvs_py n m xs ys ha.2 hb.2]
end
mutual
theorem py_depth : ∀ (n : Nat) (a : D), D.flat n a = true → a.py.depth ≤ n
  | n, .non, _ => by simp [D.py, PyData.depth]
  | n, .bl _, _ => by simp [D.py, PyData.depth]
  | n, .int _, _ => by simp [D.py, PyData.depth]
  | n, .str _, _ => by simp [D.py, PyData.depth]
  | n, .scr, h => by simp [D.flat] at h
  | n, .ref _, h => by simp [D.flat] at h
  | 0, .tup _, h => by simp [D.flat] at h
  | 0, .lst _, h => by simp [D.flat] at h
  | n + 1, .tup xs, h => by
    simp only [D.flat] at h
    simp only [D.py, PyData.depth]
    exact Nat.succ_le_succ (pys_depth n xs h)
  | n + 1, .lst xs, h => by
    simp only [D.flat] at h
    simp only [D.py, PyData.depth]
    exact Nat.succ_le_succ (pys_depth n xs h)
theorem pys_depth : ∀ (n : Nat) (a : List D), D.flats n a = true → PyData.depthAll (D.pys a) ≤ n
  | n, [], _ => by simp [D.pys, PyData.depthAll]
  | n, x :: xs, h => by
    simp only [D.flats, Bool.and_eq_true] at h
    simp only [D.pys, PyData.depthAll]
    exact Nat.max_le.mpr ⟨py_depth n x h.1, pys_depth n xs h.2⟩
end
theorem strOk_of {x : List Nat} (h : okStr x) : PyData.strOk (toStr x) = true := by
  show x.toArray.all _ = true
  rw [List.all_toArray, List.all_eq_true]
  exact fun c hc => decide_eq_true (h c hc)
section
variable {G : Gd} {H : Hp} {B : Addr → Prop} {r : List Addr}
mutual
theorem Rep.dp : ∀ (n : Nat) (d : D) (v : V), D.flat n d = true → Rep G H B r d v → Dp G.K H v d.py ∧ d.py.canLay0 = true
  | n, .non, _, _, h => by rw [Rep] at h; subst h; exact ⟨.non, by simp [D.py, PyData.canLay0]⟩
  | n, .bl b, _, _, h => by rw [Rep] at h; subst h; exact ⟨.bl b, by simp [D.py, PyData.canLay0]⟩
  | n, .int i, _, _, h => by rw [Rep] at h; subst h; exact ⟨.int i, by simp [D.py, PyData.canLay0]⟩
  | n, .str x, _, _, h => by
    rw [Rep] at h
    obtain ⟨rfl, ho⟩ := h
    exact ⟨.str _, by simp only [D.py, PyData.canLay0]; exact strOk_of ho⟩
  | n, .scr, _, hf, _ => by simp [D.flat] at hf
  | n, .ref _, _, hf, _ => by simp [D.flat] at hf
  | 0, .tup _, _, hf, _ => by simp [D.flat] at hf
  | 0, .lst _, _, hf, _ => by simp [D.flat] at hf
  | n + 1, .tup xs, _, hf, h => by
    rw [Rep] at h
    obtain ⟨a, vs, rfl, h1, h2⟩ := h
    simp only [D.flat] at hf
    obtain ⟨q1, q2⟩ := Reps.dp n xs vs hf h2
    exact ⟨.tup h1 q1, by simp only [D.py, PyData.canLay0]; exact q2⟩
  | n + 1, .lst xs, _, hf, h => by
    rw [Rep] at h
    obtain ⟨a, vs, rfl, _, h1, h2⟩ := h
    simp only [D.flat] at hf
    obtain ⟨q1, q2⟩ := Reps.dp n xs vs hf h2
    exact ⟨.lst (.of h1) q1, by simp only [D.py, PyData.canLay0]; exact q2⟩
theorem Reps.dp : ∀ (n : Nat) (ds : List D) (vs : List V), D.flats n ds = true → Reps G H B r ds vs → DpAll G.K H vs (D.pys ds) ∧ PyData.canLayAll0 (D.pys ds) = true
  | n, [], _, _, h => by rw [Reps] at h; subst h; exact ⟨.nil, by simp [D.pys, PyData.canLayAll0]⟩
  | n, d :: ds, _, hf, h => by
    rw [Reps] at h
    obtain ⟨v, ws, rfl, h1, h2⟩ := h
    simp only [D.flats, Bool.and_eq_true] at hf
    obtain ⟨a1, a2⟩ := Rep.dp n d v hf.1 h1
    obtain ⟨b1, b2⟩ := Reps.dp n ds ws hf.2 h2
    exact ⟨.cons a1 b1, by simp only [D.pys, PyData.canLayAll0, a2, b2, Bool.and_self]⟩
end
theorem shaped_of {n : Nat} {d : D} (hn : n ≤ 64) (hf : D.flat n d = true) (hc : d.py.canLay0 = true) : SeqAt.shaped d.py = true := by
  show (d.py.canLay0 && decide (d.py.depth ≤ 64)) = true
  rw [hc, Bool.true_and]
  exact decide_eq_true (Nat.le_trans (py_depth n d hf) hn)
theorem Pc.dp {Z : Addr → Prop} {ow : Nat → Option Addr} {d : D} {v : V} {n : Nat} (h : Pc G Z r ow H d v) (hf : D.flat n d = true) : Dp G.K H v d.py ∧ d.py.canLay0 = true := by
  rcases h with (h | ⟨i, a, xs, vs, h1, rfl, rfl, h4, h5⟩) | ⟨i, a, xs, vs, h1, rfl, rfl, h4, h5⟩
  · exact Rep.dp n d v hf h
  all_goals
    cases n with
    | zero => simp [D.flat] at hf
    | succ n =>
      simp only [D.flat] at hf
      obtain ⟨q1, q2⟩ := Reps.dp n xs vs hf h5
      exact ⟨.lst (.of h4) q1, by simp only [D.py, PyData.canLay0]; exact q2⟩
end

section
variable {L : Lt} {xa : XA} {X : L2.Cx} {W : WX}
def copOf : Cop → CmpOp
  | .eq => .Eq | .ne => .NotEq | .lt => .Lt | .le => .LtE | .gt => .Gt | .ge => .GtE | .isin => .In | .notin => .NotIn | .is => .Is | .isnot => .IsNot
def rIsC (neg : Bool) : L2.R2 := fun x y H Q => (y = .non ∧ Q (.bl (neg ^^ decide (x = .non))) H) ∨ (∃ b, y = .bl b ∧ (∀ n, x ≠ .ty n) ∧ Q (.bl (neg ^^ decide (x = .bl b))) H)
theorem is_val {x : V} {v : Value} {b : Bool} (rx : L2.RelV x v) : (v == Value.bool b) = decide (x = .bl b) := by
  cases x with
  | non => cases rx; rfl
  | bl c =>
    cases rx
    by_cases e : c = b
    · subst e; simp
    · have : V.bl c ≠ .bl b := fun z => e (by cases z; rfl)
      rw [decide_eq_false this]
      exact beq_eq_false_iff_ne.mpr fun z => e (by cases z; rfl)
  | int _ => obtain ⟨t, rfl⟩ := rx; rfl
  | str _ => obtain ⟨t, rfl⟩ := rx; rfl
  | byt _ => obtain ⟨t, rfl⟩ := rx; rfl
  | flt _ => obtain ⟨t, rfl⟩ := rx; rfl
  | ref _ => cases rx; rfl
  | ty _ => cases rx; rfl
theorem plain_bool {x : V} {v : Value} {b : Bool} (rx : L2.RelV x v) : plainIs v (.bool b) = true := by
  cases x with
  | non => cases rx; rfl
  | bl c => cases rx; rfl
  | int _ => obtain ⟨t, rfl⟩ := rx; rfl
  | str _ => obtain ⟨t, rfl⟩ := rx; rfl
  | byt _ => obtain ⟨t, rfl⟩ := rx; rfl
  | flt _ => obtain ⟨t, rfl⟩ := rx; rfl
  | ref _ => cases rx; rfl
  | ty _ => cases rx; rfl
theorem op_is : OpR X (compareOp .Is) (rIsC false) := by
  intro pins s σ H x y v u Q I rx ry h
  rcases h with ⟨rfl, q⟩ | ⟨b, rfl, _, q⟩
  · exact L2.op_isN pins s σ H x .non v u Q I rx ry ⟨rfl, by simpa using q⟩
  · cases ry
    refine wpAny_is_plain (plain_bool rx) ⟨.bl _, H, I, ?_, q⟩
    rw [is_val rx, Bool.false_xor]; rfl
theorem op_isnot : OpR X (compareOp .IsNot) (rIsC true) := by
  intro pins s σ H x y v u Q I rx ry h
  rcases h with ⟨rfl, q⟩ | ⟨b, rfl, _, q⟩
  · exact L2.op_notN pins s σ H x .non v u Q I rx ry ⟨rfl, by simpa using q⟩
  · cases ry
    refine wpAny_isNot_plain (plain_bool rx) ⟨.bl _, H, I, ?_, q⟩
    rw [is_val rx, Bool.true_xor]; rfl
def rSgn (neg : Bool) : L2.R2 := fun x y H Q => ∃ (c : Nat) (z : Str), x = .str ⟨#[c]⟩ ∧ y = .str z ∧ Q (.bl (neg ^^ decide (c ∈ z.cps.toList))) H
theorem op_sgn : OpR X (compareOp .In) (rSgn false) := by
  intro pins s σ H x y v u Q I rx ry h
  obtain ⟨c, z, e1, e2, q⟩ := h
  exact L2.op_in_sign pins s σ H x y v u Q I rx ry ⟨c, z, e1, e2, by simpa using q⟩
theorem op_nsgn : OpR X (compareOp .NotIn) (rSgn true) := by
  intro pins s σ H x y v u Q I rx ry h
  obtain ⟨c, z, e1, e2, q⟩ := h
  exact L2.op_notIn_sign pins s σ H x y v u Q I rx ry ⟨c, z, e1, e2, by simpa using q⟩
def rInT (K : PySem.W.Frag) (neg : Bool) : L2.R2 := fun x y H Q => ∃ dx dy, Dp K H x dx ∧ Dp K H y (.tuple dy) ∧ SeqAt.shaped dx = true ∧ SeqAt.shaped (.tuple dy) = true ∧ Q (.bl (neg ^^ dy.any fun z => PyData.eqv z dx)) H
theorem op_inT (hu : X.A.units + 65 < cLine) : OpR X (compareOp .In) (rInT X.K false) := by
  intro pins s σ H x y v u Q I rx ry h
  obtain ⟨dx, dy, h1, h2, s1, s2, q⟩ := h
  obtain ⟨a1, r1⟩ := Dp.reads I dx x v h1 rx
  obtain ⟨a2, r2⟩ := Dp.reads I (.tuple dy) y u h2 ry
  exact SeqAt.in_tuple_reads r2 r1 (SeqAt.canLay_of_shaped s2) (SeqAt.canLay_of_shaped s1) (room_in_shaped s1 hu) ⟨.bl _, H, I, rfl, by simpa using q⟩
theorem op_ninT (hu : X.A.units + 65 < cLine) : OpR X (compareOp .NotIn) (rInT X.K true) := by
  intro pins s σ H x y v u Q I rx ry h
  obtain ⟨dx, dy, h1, h2, s1, s2, q⟩ := h
  obtain ⟨a1, r1⟩ := Dp.reads I dx x v h1 rx
  obtain ⟨a2, r2⟩ := Dp.reads I (.tuple dy) y u h2 ry
  exact SeqAt.notIn_tuple_reads r2 r1 (SeqAt.canLay_of_shaped s2) (SeqAt.canLay_of_shaped s1) (room_in_shaped s1 hu) ⟨.bl _, H, I, rfl, by simpa using q⟩
def copR (K : PySem.W.Frag) : Cop → L2.R2
  | .eq => L2.rEqD K
  | .ne => L2.rNeD K
  | .lt => L2.rI0 fun i j => .bl (decide (i < j))
  | .le => L2.rI0 fun i j => .bl (decide (i ≤ j))
  | .gt => L2.rI0 fun i j => .bl (decide (j < i))
  | .ge => L2.rI0 fun i j => .bl (decide (j ≤ i))
  | .isin => rOr (L2.rInD K) (rOr (L2.rIn K false) (rOr (rSgn false) (rInT K false)))
  | .notin => rOr (L2.rNotInD K) (rOr (L2.rIn K true) (rOr (rSgn true) (rInT K true)))
  | .is => rIsC false
  | .isnot => rIsC true
theorem cop_run (o : Cop) (hu : X.A.units + 65 < cLine) : OpR X (compareOp (copOf o)) (copR X.K o) := by
  cases o
  · exact L2.op_eqD (by omega)
  · exact L2.op_neD (by omega)
  · exact L2.op_lt
  · exact L2.op_le
  · exact L2.op_gt
  · exact L2.op_ge
  · exact (L2.op_inD hu).or (L2.op_in_seq.or (op_sgn.or (op_inT hu)))
  · exact (L2.op_notInD hu).or (L2.op_notIn_seq.or (op_nsgn.or (op_ninT hu)))
  · exact op_is
  · exact op_isnot
theorem any_py (n m : Nat) (x : D) (hx : D.flat n x = true) : ∀ ys : List D, D.flats m ys = true → ((D.pys ys).any fun z => PyData.eqv z x.py) = ys.any fun y => D.eqv y x
  | [], _ => by simp [D.pys]
  | y :: ys, h => by
    simp only [D.flats, Bool.and_eq_true] at h
    simp only [D.pys, List.any_cons]
    rw [eqv_py m n y x h.1 hx, any_py n m x hx ys h.2]
theorem flats_flat {n : Nat} {ys : List D} (h : D.flats n ys = true) : D.flat (n + 1) (.lst ys) = true := by simpa only [D.flat] using h
section
variable {G : Gd} {Z : Addr → Prop} {r : List Addr} {ow : Nat → Option Addr} {H : Hp}
theorem scal_flat {x : D} {v : V} (h : Pc G Z r ow H x v) (hs : scalar x = true) : L2.flatV v = true := by
  cases x <;> simp [scalar] at hs
  · rw [h.non]; rfl
  · rw [h.bl]; rfl
  · rw [h.int]; rfl
  · rw [h.str.1]; rfl
theorem scal_eq {x y : D} {v w : V} (h : Pc G Z r ow H x v) (k : Pc G Z r ow H y w) (hs : scalar x = true) (ht : scalar y = true) : L2.eqV w v = D.eqv y x := by
  cases x <;> simp [scalar] at hs <;> cases y <;> simp [scalar] at ht
  all_goals first
    | (rw [h.non, k.non]; simp [L2.eqV, D.eqv])
    | (rw [h.non, k.bl]; simp [L2.eqV, D.eqv])
    | (rw [h.non, k.int]; simp [L2.eqV, D.eqv])
    | (rw [h.non, k.str.1]; simp [L2.eqV, D.eqv])
    | (rw [h.bl, k.non]; simp [L2.eqV, D.eqv])
    | (rw [h.bl, k.bl]; simp [L2.eqV, D.eqv])
    | (rw [h.bl, k.int]; simp [L2.eqV, D.eqv])
    | (rw [h.bl, k.str.1]; simp [L2.eqV, D.eqv])
    | (rw [h.int, k.non]; simp [L2.eqV, D.eqv])
    | (rw [h.int, k.bl]; simp [L2.eqV, D.eqv])
    | (rw [h.int, k.int]; simp [L2.eqV, D.eqv])
    | (rw [h.int, k.str.1]; simp [L2.eqV, D.eqv])
    | (rw [h.str.1, k.non]; simp [L2.eqV, D.eqv])
    | (rw [h.str.1, k.bl]; simp [L2.eqV, D.eqv])
    | (rw [h.str.1, k.int]; simp [L2.eqV, D.eqv])
    | (rw [h.str.1, k.str.1]; simp only [L2.eqV, D.eqv]; exact toStr_beq _ _)
theorem scal_in {x : D} {v : V} (h : Pc G Z r ow H x v) (hs : scalar x = true) : ∀ {ys : List D} {ws : List V}, Reps G H (BB Z r ow) r ys ws → ys.all scalar = true → ws.all L2.flatV = true ∧ L2.inV v ws = ys.any fun y => D.eqv y x
  | [], _, h2, _ => by rw [Reps] at h2; subst h2; exact ⟨rfl, rfl⟩
  | y :: ys, _, h2, ha => by
    rw [Reps] at h2
    obtain ⟨w, ws, rfl, p, q⟩ := h2
    simp only [List.all_cons, Bool.and_eq_true] at ha
    obtain ⟨a, b⟩ := scal_in h hs q ha.2
    refine ⟨?_, ?_⟩
    · simp only [List.all_cons, Bool.and_eq_true]
      exact ⟨scal_flat (.r p) ha.1, a⟩
    · unfold L2.inV at b ⊢
      simp only [List.any_cons]
      rw [scal_eq h (.r p) hs ha.1, b]
end
section
variable {G : Gd} {Z : Addr → Prop} {r : List Addr} {ow : Nat → Option Addr} {H : Hp}
theorem in_good {d1 d2 : D} {v1 v2 : V} {b : Bool} (p1 : Pc G Z r ow H d1 v1) (p2 : Pc G Z r ow H d2 v2) (e : inB d1 d2 = some b) :
    (∃ d ds, Dp G.K H v1 d ∧ Dp G.K H v2 (.list ds) ∧ SeqAt.shaped d = true ∧ SeqAt.shaped (.list ds) = true ∧ b = ds.any fun z => PyData.eqv z d) ∨
    (∃ p xs, v2 = .ref p ∧ (SqL G.K H p xs ∨ SqT G.K H p xs) ∧ L2.flatV v1 = true ∧ xs.all L2.flatV = true ∧ b = L2.inV v1 xs) ∨
    (∃ (c : Nat) (z : Str), v1 = .str ⟨#[c]⟩ ∧ v2 = .str z ∧ b = decide (c ∈ z.cps.toList)) ∨
    (∃ d ds, Dp G.K H v1 d ∧ Dp G.K H v2 (.tuple ds) ∧ SeqAt.shaped d = true ∧ SeqAt.shaped (.tuple ds) = true ∧ b = ds.any fun z => PyData.eqv z d) := by
  cases d2 with
  | lst ys =>
    simp only [inB] at e
    split at e
    · rename_i q
      cases e
      obtain ⟨f1, f2⟩ := Bool.and_eq_true_iff.mp q
      obtain ⟨q1, c1⟩ := p1.dp f1
      obtain ⟨q2, c2⟩ := p2.dp (flats_flat f2)
      exact .inl ⟨_, D.pys ys, q1, by simpa only [D.py] using q2, shaped_of (by decide) f1 c1, by simpa only [D.py] using shaped_of (d := .lst ys) (n := 61) (by decide) (flats_flat f2) c2, (any_py 60 60 d1 f1 ys f2).symm⟩
    · cases e
  | tup ys =>
    simp only [inB] at e
    split at e
    · rename_i q
      cases e
      obtain ⟨f1, f2⟩ := Bool.and_eq_true_iff.mp q
      obtain ⟨a, ws, e2, h2, q2⟩ := p2.tup
      obtain ⟨g1, g2⟩ := scal_in p1 f1 q2 f2
      exact .inr (.inl ⟨a, ws, e2, .inr h2, scal_flat p1 f1, g1, g2.symm⟩)
    · split at e
      · rename_i q
        cases e
        obtain ⟨f1, f2⟩ := Bool.and_eq_true_iff.mp q
        have f3 : D.flat 61 (.tup ys) = true := by simpa only [D.flat] using f2
        obtain ⟨q1, c1⟩ := p1.dp f1
        obtain ⟨q2, c2⟩ := p2.dp f3
        exact .inr (.inr (.inr ⟨_, D.pys ys, q1, by simpa only [D.py] using q2, shaped_of (by decide) f1 c1, by simpa only [D.py] using shaped_of (d := .tup ys) (n := 61) (by decide) f3 c2, (any_py 60 60 d1 f1 ys f2).symm⟩))
      · cases e
  | str z =>
    cases d1 with
    | str x =>
      match x, p1, e with
      | [c], p1, e =>
        simp only [inB] at e
        cases e
        refine .inr (.inr (.inl ⟨c, toStr z, p1.str.1, p2.str.1, ?_⟩))
        show _ = decide (c ∈ z.toArray.toList)
        simp
      | [], _, e => simp [inB] at e
      | _ :: _ :: _, _, e => simp [inB] at e
    | _ => simp [inB] at e
  | _ => simp [inB] at e
theorem is_good {d1 d2 : D} {v1 v2 : V} {b : Bool} (p1 : Pc G Z r ow H d1 v1) (p2 : Pc G Z r ow H d2 v2) (e : isB d1 d2 = some b) :
    (v2 = .non ∧ b = decide (v1 = .non)) ∨ (∃ c, v2 = .bl c ∧ (∀ n, v1 ≠ .ty n) ∧ b = decide (v1 = .bl c)) := by
  cases d2 with
  | non =>
    refine .inl ⟨p2.non, ?_⟩
    cases d1 with
    | non => simp [isB] at e; rw [p1.non]; simp [← e]
    | bl c => simp [isB] at e; rw [p1.bl]; simp [← e]
    | int c => simp [isB] at e; rw [p1.int]; simp [← e]
    | str c => simp [isB] at e; rw [p1.str.1]; simp [← e]
    | tup c => simp [isB] at e; obtain ⟨a, vs, h, _⟩ := p1.tup; rw [h]; simp [← e]
    | lst c => simp [isB] at e; obtain ⟨a, vs, h, _⟩ := p1.lst; rw [h]; simp [← e]
    | scr =>
      simp [isB] at e
      rcases p1 with (h | ⟨_, _, _, _, _, z, _⟩) | ⟨_, _, _, _, _, z, _⟩
      · rw [Rep] at h; rw [h]; simp [← e]
      · cases z
      · cases z
    | ref n =>
      simp [isB] at e
      rcases p1 with (h | ⟨_, _, _, _, _, z, _⟩) | ⟨_, _, _, _, _, z, _⟩
      · rw [Rep] at h; obtain ⟨a, _, h⟩ := h; rw [h]; simp [← e]
      · cases z
      · cases z
  | bl c =>
    refine .inr ⟨c, p2.bl, ?_⟩
    cases d1 with
    | non => simp [isB] at e; rw [p1.non]; simp [← e]
    | bl k =>
      simp [isB] at e; rw [p1.bl]
      refine ⟨by simp, ?_⟩
      rw [← e]
      cases k <;> cases c <;> rfl
    | int c => simp [isB] at e; rw [p1.int]; simp [← e]
    | str c => simp [isB] at e; rw [p1.str.1]; simp [← e]
    | tup c => simp [isB] at e; obtain ⟨a, vs, h, _⟩ := p1.tup; rw [h]; simp [← e]
    | lst c => simp [isB] at e; obtain ⟨a, vs, h, _⟩ := p1.lst; rw [h]; simp [← e]
    | scr => simp [isB] at e
    | ref n =>
      simp [isB] at e
      rcases p1 with (h | ⟨_, _, _, _, _, z, _⟩) | ⟨_, _, _, _, _, z, _⟩
      · rw [Rep] at h; obtain ⟨a, _, h⟩ := h; rw [h]; simp [← e]
      · cases z
      · cases z
  | _ => cases d1 <;> simp [isB] at e
end
theorem eqB_some {a b : D} {c : Bool} (h : eqB a b = some c) : D.flat 60 a = true ∧ D.flat 60 b = true ∧ c = D.eqv a b := by
  unfold eqB at h
  split at h
  · rename_i q
    cases h
    exact ⟨(Bool.and_eq_true_iff.mp q).1, (Bool.and_eq_true_iff.mp q).2, rfl⟩
  · cases h
theorem cop_good (o : Cop) : OpG L xa (fun a b => (cmpB o a b).map D.bl) (copR L.G.K o) := by
  intro Z r ow H S env s d1 d2 v1 v2 d Q fr p1 p2 e hq
  obtain ⟨b, e, rfl⟩ := Option.map_eq_some_iff.mp e
  have fin : Q (.bl b) H := hq _ _ _ .refl fr (by rw [Rep])
  cases o
  case eq =>
    obtain ⟨f1, f2, rfl⟩ := eqB_some (show eqB d1 d2 = some b from by simpa [cmpB] using e)
    obtain ⟨q1, c1⟩ := p1.dp f1
    obtain ⟨q2, c2⟩ := p2.dp f2
    exact ⟨_, _, q1, q2, shaped_of (by decide) f1 c1, shaped_of (by decide) f2 c2, by rw [eqv_py 60 60 d1 d2 f1 f2]; exact fin⟩
  case ne =>
    have e' : (eqB d1 d2).map (!·) = some b := by simpa [cmpB] using e
    obtain ⟨c, e2, rfl⟩ := Option.map_eq_some_iff.mp e'
    obtain ⟨f1, f2, rfl⟩ := eqB_some e2
    obtain ⟨q1, c1⟩ := p1.dp f1
    obtain ⟨q2, c2⟩ := p2.dp f2
    exact ⟨_, _, q1, q2, shaped_of (by decide) f1 c1, shaped_of (by decide) f2 c2, by rw [eqv_py 60 60 d1 d2 f1 f2]; exact fin⟩
  case lt =>
    cases d1 <;> cases d2 <;> simp only [cmpB] at e <;> (try (cases e; done))
    cases e; exact ⟨_, _, p1.int, p2.int, fin⟩
  case le =>
    cases d1 <;> cases d2 <;> simp only [cmpB] at e <;> (try (cases e; done))
    cases e; exact ⟨_, _, p1.int, p2.int, fin⟩
  case gt =>
    cases d1 <;> cases d2 <;> simp only [cmpB] at e <;> (try (cases e; done))
    cases e; exact ⟨_, _, p1.int, p2.int, fin⟩
  case ge =>
    cases d1 <;> cases d2 <;> simp only [cmpB] at e <;> (try (cases e; done))
    cases e; exact ⟨_, _, p1.int, p2.int, fin⟩
  case isin =>
    have e : inB d1 d2 = some b := by simpa [cmpB] using e
    have q : Q (.bl (false ^^ b)) H := by rw [Bool.false_xor]; exact fin
    rcases in_good p1 p2 e with ⟨d, ds, h1, h2, h3, h4, rfl⟩ | ⟨a, ws, h1, h2, h3, h4, rfl⟩ | ⟨c, z, h1, h2, rfl⟩ | ⟨d, ds, h1, h2, h3, h4, rfl⟩
    · exact .inl ⟨d, ds, h1, h2, h3, h4, fin⟩
    · exact .inr (.inl ⟨a, ws, h1, h2, h3, h4, by rw [if_neg (by decide)]; exact fin⟩)
    · exact .inr (.inr (.inl ⟨c, z, h1, h2, q⟩))
    · exact .inr (.inr (.inr ⟨d, ds, h1, h2, h3, h4, q⟩))
  case notin =>
    have e' : (inB d1 d2).map (!·) = some b := by simpa [cmpB] using e
    obtain ⟨c, e2, rfl⟩ := Option.map_eq_some_iff.mp e'
    have q : Q (.bl (true ^^ c)) H := by rw [Bool.true_xor]; exact fin
    rcases in_good p1 p2 e2 with ⟨d, ds, h1, h2, h3, h4, rfl⟩ | ⟨a, ws, h1, h2, h3, h4, rfl⟩ | ⟨c, z, h1, h2, rfl⟩ | ⟨d, ds, h1, h2, h3, h4, rfl⟩
    · exact .inl ⟨d, ds, h1, h2, h3, h4, fin⟩
    · exact .inr (.inl ⟨a, ws, h1, h2, h3, h4, by rw [if_pos rfl]; exact fin⟩)
    · exact .inr (.inr (.inl ⟨c, z, h1, h2, q⟩))
    · exact .inr (.inr (.inr ⟨d, ds, h1, h2, h3, h4, q⟩))
  case is =>
    have e : isB d1 d2 = some b := by simpa [cmpB] using e
    have q : Q (.bl (false ^^ b)) H := by rw [Bool.false_xor]; exact fin
    rcases is_good p1 p2 e with ⟨h1, rfl⟩ | ⟨c, h1, h2, rfl⟩
    · exact .inl ⟨h1, q⟩
    · exact .inr ⟨c, h1, h2, q⟩
  case isnot =>
    have e' : (isB d1 d2).map (!·) = some b := by simpa [cmpB] using e
    obtain ⟨c, e2, rfl⟩ := Option.map_eq_some_iff.mp e'
    have q : Q (.bl (true ^^ c)) H := by rw [Bool.true_xor]; exact fin
    rcases is_good p1 p2 e2 with ⟨h1, rfl⟩ | ⟨c, h1, h2, rfl⟩
    · exact .inl ⟨h1, q⟩
    · exact .inr ⟨c, h1, h2, q⟩
end
end Mi

set_option maxRecDepth 100000
set_option maxHeartbeats 4000000
namespace Mi
open PySem PySem.Spec PyProof.Rows
open L2 (V Hp HO upd upd_same upd_ne Same SqL SqT Rd VK XK WX PE PT PA OpR CallR IxR SlR TE TT TA tOp Dp DpAll)

theorem ltN_eq : ∀ a b : List Nat, ltN a b = decide (a < b)
  | [], [] => by simp [ltN]
  | [], _ :: _ => by simp [ltN]
  | _ :: _, [] => by simp [ltN]
  | x :: xs, y :: ys => by
    unfold ltN
    rw [ltN_eq xs ys]
    by_cases h : x = y
    · subst h
      rw [if_pos rfl]
      simp [List.cons_lt_cons_iff]
    · rw [if_neg h]
      simp [List.cons_lt_cons_iff, h]
theorem ltTok_eq (a b : Tok) : ltTok a b = PyProof.Rows.itemLt a b := by
  cases a <;> cases b <;> simp only [ltTok, PyProof.Rows.itemLt]
  exact ltN_eq _ _
theorem ltToks_eq : ∀ a b : List Tok, ltToks a b = PyProof.Rows.lexLt PyProof.Rows.itemOrd a b
  | [], [] => rfl
  | [], _ :: _ => rfl
  | _ :: _, [] => rfl
  | x :: xs, y :: ys => by
    rw [lex_cons]
    unfold ltToks
    rw [ltTok_eq, ltTok_eq, ltToks_eq xs ys]
mutual
theorem toks_py : ∀ d : D, PySem.W.keyToks d.py = d.toks
  | .non => rfl
  | .bl _ => by simp [D.py, D.toks, PySem.W.keyToks]
  | .int _ => by simp [D.py, D.toks, PySem.W.keyToks]
  | .str _ => by simp [D.py, D.toks, PySem.W.keyToks, toStr]
  | .tup xs => by simp only [D.py, D.toks, PySem.W.keyToks]; exact tokss_py xs
  | .lst xs => by simp only [D.py, D.toks, PySem.W.keyToks]; exact tokss_py xs
  | .scr => rfl
  | .ref _ => rfl
theorem tokss_py : ∀ ds : List D, PySem.W.keyToksAll (D.pys ds) = D.tokss ds
  | [] => rfl
  | d :: ds => by
    simp only [D.pys, D.tokss, PySem.W.keyToksAll]
    rw [toks_py d, tokss_py ds]
end
theorem le_eq (a b : D) : D.le a b = PySem.W.dataLe false D.py a b := by
  unfold D.le PySem.W.dataLe PySem.W.sortLe
  show _ = !PyProof.Rows.lexLt PyProof.Rows.itemOrd (PySem.W.keyToks b.py) (PySem.W.keyToks a.py)
  rw [toks_py, toks_py, ltToks_eq]
theorem le_fun : D.le = PySem.W.dataLe false D.py := funext fun a => funext fun b => le_eq a b
theorem le_total : PySem.W.TotalLe D.le := by
  rw [le_fun]
  exact PySem.W.sortLe_total _ _ _
theorem insD_perm (x : D) : ∀ l : List D, (insD x l).Perm (x :: l)
  | [] => .refl _
  | y :: ys => by
    unfold insD
    split
    · exact .refl _
    · exact ((insD_perm x ys).cons y).trans (.swap x y ys)
theorem insD_sorted (x : D) : ∀ l : List D, l.Pairwise (fun a b => D.le a b = true) → (insD x l).Pairwise (fun a b => D.le a b = true)
  | [], _ => by simp [insD]
  | y :: ys, h => by
    have h' := List.pairwise_cons.mp h
    unfold insD
    split
    · rename_i e
      refine List.pairwise_cons.mpr ⟨fun z hz => ?_, h⟩
      rcases List.mem_cons.mp hz with rfl | hz
      · exact e
      · exact le_total.trans _ _ _ e (h'.1 z hz)
    · rename_i e
      refine List.pairwise_cons.mpr ⟨fun z hz => ?_, insD_sorted x ys h'.2⟩
      rcases List.mem_cons.mp ((insD_perm x ys).mem_iff.mp hz) with rfl | hz
      · rcases le_total.total y z with q | q
        · exact q
        · exact absurd q e
      · exact h'.1 z hz
theorem sortD_sorted : ∀ l : List D, (sortD l).Pairwise (fun a b => D.le a b = true)
  | [] => .nil
  | x :: xs => insD_sorted x _ (sortD_sorted xs)
theorem sortD_perm : ∀ l : List D, (sortD l).Perm l
  | [] => .refl _
  | x :: xs => (insD_perm x _).trans ((sortD_perm xs).cons x)
theorem insD_filter (c x : D) : ∀ l : List D, l.Pairwise (fun a b => D.le a b = true) → (insD x l).filter (PySem.W.sameRank D.le c) = (x :: l).filter (PySem.W.sameRank D.le c)
  | [], _ => rfl
  | y :: ys, h => by
    have h' := List.pairwise_cons.mp h
    unfold insD
    split
    · rfl
    · rename_i e
      rw [List.filter_cons, insD_filter c x ys h'.2]
      by_cases hx : PySem.W.sameRank D.le c x = true
      · by_cases hy : PySem.W.sameRank D.le c y = true
        · unfold PySem.W.sameRank at hx hy
          simp only [Bool.and_eq_true] at hx hy
          exact absurd (le_total.trans _ _ _ hx.2 hy.1) e
        · simp [List.filter_cons, hx, hy]
      · simp [List.filter_cons, hx]
theorem sortD_filter (c : D) : ∀ l : List D, (sortD l).filter (PySem.W.sameRank D.le c) = l.filter (PySem.W.sameRank D.le c)
  | [] => rfl
  | x :: xs => by
    show (insD x (sortD xs)).filter _ = _
    rw [insD_filter c x _ (sortD_sorted xs), List.filter_cons, List.filter_cons, sortD_filter c xs]
theorem sortD_eq (l : List D) : sortD l = l.mergeSort (PySem.W.dataLe false D.py) := by
  rw [← le_fun]
  exact PySem.W.sort_unique le_total (sortD_sorted l) fun c => sortD_filter c l

theorem isInts_alike : ∀ {xs ys : List D}, isInts xs = true → isInts ys = true → PySem.W.alikeAll (D.pys xs) (D.pys ys) = true
  | [], _, _, _ => by simp [D.pys, PySem.W.alikeAll]
  | .int _ :: xs, [], _, _ => by simp [D.pys, D.py, PySem.W.alikeAll]
  | .int _ :: xs, .int _ :: ys, h1, h2 => by
    simp only [D.pys, D.py, PySem.W.alikeAll, PySem.W.alike, Bool.true_and]
    exact isInts_alike (by simpa [isInts] using h1) (by simpa [isInts] using h2)
  | .int _ :: _, .non :: _, _, h | .int _ :: _, .bl _ :: _, _, h | .int _ :: _, .str _ :: _, _, h | .int _ :: _, .tup _ :: _, _, h | .int _ :: _, .lst _ :: _, _, h | .int _ :: _, .scr :: _, _, h | .int _ :: _, .ref _ :: _, _, h => by simp [isInts] at h
  | .non :: _, _, h, _ | .bl _ :: _, _, h, _ | .str _ :: _, _, h, _ | .tup _ :: _, _, h, _ | .lst _ :: _, _, h, _ | .scr :: _, _, h, _ | .ref _ :: _, _, h, _ => by simp [isInts] at h
mutual
theorem alk_alike : ∀ (x a b : D), D.alk x a = true → D.alk x b = true → PySem.W.alike a.py b.py = true
  | .bl _, a, b, h, k => by
    cases a <;> simp [D.alk] at h
    cases b <;> simp [D.alk] at k
    simp [D.py, PySem.W.alike]
  | .int _, a, b, h, k => by
    cases a <;> simp [D.alk] at h
    cases b <;> simp [D.alk] at k
    simp [D.py, PySem.W.alike]
  | .str _, a, b, h, k => by
    cases a <;> simp [D.alk] at h
    cases b <;> simp [D.alk] at k
    simp [D.py, PySem.W.alike]
  | .tup xs, a, b, h, k => by
    cases a <;> simp [D.alk] at h
    cases b <;> simp [D.alk] at k
    simp only [D.py, PySem.W.alike]
    exact alks_alike xs _ _ h k
  | .lst xs, a, b, h, k => by
    cases a <;> simp [D.alk] at h
    cases b <;> simp [D.alk] at k
    simp only [D.py, PySem.W.alike]
    exact isInts_alike h.2 k.2
  | .non, a, b, h, k => by simp [D.alk] at h
  | .scr, a, b, h, k => by simp [D.alk] at h
  | .ref _, a, b, h, k => by simp [D.alk] at h
theorem alks_alike : ∀ (xs as bs : List D), D.alks xs as = true → D.alks xs bs = true → PySem.W.alikeAll (D.pys as) (D.pys bs) = true
  | [], [], [], _, _ => by simp [D.pys, PySem.W.alikeAll]
  | [], _ :: _, _, h, _ => by simp [D.alks] at h
  | [], [], _ :: _, _, h => by simp [D.alks] at h
  | _ :: _, [], _, h, _ => by simp [D.alks] at h
  | _ :: _, _ :: _, [], _, h => by simp [D.alks] at h
  | x :: xs, a :: as, b :: bs, h, k => by
    simp only [D.alks, Bool.and_eq_true] at h k
    simp only [D.pys, PySem.W.alikeAll, Bool.and_eq_true]
    exact ⟨alk_alike x a b h.1 k.1, alks_alike xs as bs h.2 k.2⟩
end
theorem flats_mem {n : Nat} : ∀ {xs : List D}, D.flats n xs = true → ∀ d ∈ xs, D.flat n d = true
  | [], _, d, hd => by cases hd
  | x :: xs, h, d, hd => by
    simp only [D.flats, Bool.and_eq_true] at h
    rcases List.mem_cons.mp hd with rfl | hd
    · exact h.1
    · exact flats_mem h.2 d hd
theorem canSort_alike {xs : List D} (h : canSort xs = true) : PySem.W.AllAlike (xs.map D.py) ∧ PySem.W.Sortable (xs.map D.py) ∧ D.flats 20 xs = true := by
  cases xs with
  | nil => exact ⟨fun d hd => by simp at hd, .inl fun d hd => by simp at hd, rfl⟩
  | cons x xs =>
    simp only [canSort, Bool.and_eq_true, List.all_eq_true] at h
    obtain ⟨⟨⟨h0, h1⟩, h2⟩, h3⟩ := h
    have hx : ∀ d ∈ x :: xs, D.alk x d = true := fun d hd => by
      rcases List.mem_cons.mp hd with rfl | hd
      · exact h1
      · exact h2 d hd
    refine ⟨fun d hd d' hd' => ?_, ?_, h3⟩
    · obtain ⟨a, ha, rfl⟩ := List.mem_map.mp hd
      obtain ⟨b, hb, rfl⟩ := List.mem_map.mp hd'
      exact alk_alike x a b (hx a ha) (hx b hb)
    · cases x with
      | tup ys =>
        refine .inl fun d hd => ?_
        obtain ⟨a, ha, rfl⟩ := List.mem_map.mp hd
        have := hx a ha
        cases ys with
        | nil => simp [okShp] at h0
        | cons y ys =>
          cases a <;> simp [D.alk] at this
          rename_i zs
          cases zs with
          | nil => simp [D.alks] at this
          | cons z zs => exact ⟨z.py, D.pys zs, by simp [D.py, D.pys]⟩
      | _ =>
        refine .inr fun d hd => ?_
        obtain ⟨a, ha, rfl⟩ := List.mem_map.mp hd
        have := hx a ha
        cases a <;> simp [D.alk] at this <;> simp [D.py]

section
variable {X : L2.Cx} {pins : List (Addr × Obj)} {s : Shared} {H : Hp} {G : Gd} {B : Addr → Prop} {r : List Addr} {σ : L2.St}
theorem each_of : ∀ {ds : List D} {vs : List V} {us : List Value}, Reps G H B r ds vs → L2.Vals vs us → PySem.W.EachIs (fun u d => ∃ v, L2.RelV v u ∧ Rep G H B r d v) us ds
  | [], _, _, h, k => by rw [Reps] at h; subst h; cases k; exact .nil
  | d :: ds, _, _, h, k => by
    rw [Reps] at h
    obtain ⟨v, ws, rfl, p, q⟩ := h
    cases k with
    | cons a b => exact .cons ⟨v, a, p⟩ (each_of q b)
theorem each_back : ∀ {ds : List D} {us : List Value}, PySem.W.EachIs (fun u d => ∃ v, L2.RelV v u ∧ Rep G H B r d v) us ds → ∃ vs, L2.Vals vs us ∧ Reps G H B r ds vs
  | _, _, .nil => ⟨[], .nil, Reps.nil⟩
  | _, _, .cons ⟨v, a, p⟩ t => by
    obtain ⟨vs, h1, h2⟩ := each_back t
    exact ⟨v :: vs, .cons a h1, .cons p h2⟩
theorem reads_of (hK : X.K = G.K) (I : L2.Inv X pins σ H s) : ∀ {ds : List D} {vs : List V} {us : List Value}, Reps G H B r ds vs → L2.Vals vs us → D.flats 20 ds = true → PySem.W.EachIs (fun u d => ∃ as, Reads s.heap u (D.py d) as) us ds
  | [], _, _, h, k, _ => by rw [Reps] at h; subst h; cases k; exact .nil
  | d :: ds, _, _, h, k, f => by
    rw [Reps] at h
    obtain ⟨v, ws, rfl, p, q⟩ := h
    simp only [D.flats, Bool.and_eq_true] at f
    cases k with
    | cons a b => exact .cons (L2.Dp.reads I _ _ _ (by rw [hK]; exact (Rep.dp 20 d v f.1 p).1) a) (reads_of hK I q b f.2)
/-- sorted(xs), by trees -/
def rSort (G : Gd) : List V → Hp → VK → Prop := fun xs H Q => ∃ (B : Addr → Prop) (r : List Addr) (a : Addr) (vs : List V) (ds : List D), xs = [.ref a] ∧ H a = some (.lst vs) ∧ Reps G H B r ds vs ∧ canSort ds = true ∧ ds.length ≤ SZ ∧
  ∀ p ws, H p = none → Reps G H B r (sortD ds) ws → Q (.ref p) (upd H p (.lst ws))
theorem cr_sort (hK : X.K = G.K) (hu : X.A.units + 64 < cLine) : CallR X (.builtin "sorted") (rSort G) := by
  intro pins s σ H vs us Q I rv h
  obtain ⟨B, r, a, vs, ds, rfl, ha, hr, hc, hz, q⟩ := h
  obtain ⟨h1, h2, h3⟩ := canSort_alike hc
  obtain ⟨its, ri, hl, _⟩ := I.list (L2.SqL.of (K := X.K) ha)
  rw [L2.Vals.ref1 rv]
  have he := each_of hr ri
  have her : PySem.W.EachIs (fun v b => ∃ as, Reads s.heap v (D.py b) as) its ds := reads_of hK I hr ri h3
  refine PySem.W.sorted_data hl.isList he her h1 h2 (by rw [← sz_eq]; exact hz) (fun b hb => ?_) fun out hlen hout => ?_
  · have := py_depth 20 b (flats_mem h3 b hb)
    omega
  · rw [← sortD_eq] at hout
    obtain ⟨ws, w1, w2⟩ := each_back hout
    obtain ⟨ep, he'⟩ := PyProof.Rows.sortedAll_at s.heap its out.toArray
    have hlen2 : ws.length ≤ sizeLine := by
      rw [w2.len, (sortD_perm ds).length_eq, ← sz_eq]; exact hz
    exact ⟨.ref _, upd H (s.heap.objs.size + 1) (.lst ws), I.laid (t' := s.toks) (fun _ _ => PyProof.Rows.sortedAll_old) (Nat.le_succ _) ⟨hlen2, out, ep, w1, by simpa using he'⟩, rfl, q _ ws (I.hok.fresh (Nat.le_succ _)) w2⟩
end
end Mi

set_option maxRecDepth 100000
set_option maxHeartbeats 4000000
namespace Mi
open PySem PySem.Spec PyProof.Rows
open L2 (V Hp HO upd upd_same upd_ne Same SqL SqT Rd VK XK WX PE PT PA OpR CallR IxR SlR TE TT TA tOp Dp DpAll)

theorem nth_atI {α : Type} {xs : List α} {i : Int} {v : α} (h : nth xs i = some v) : L2.atI xs i = some v := by
  unfold nth at h
  unfold L2.atI L2.ixN
  split at h
  · rename_i h0
    rw [if_pos h0]
    have hl : i.toNat < xs.length := (List.getElem?_eq_some_iff.mp h).1
    rw [if_pos (by omega)]
    exact h
  · rename_i h0
    rw [if_neg h0]
    split at h
    · rename_i h1
      rw [if_pos (by omega)]
      exact h
    · cases h
theorem nth_len {α β : Type} {xs : List α} {ys : List β} (hl : ys.length = xs.length) {i : Int} {v : α} (h : nth xs i = some v) : ∃ j : Nat, xs[j]? = some v ∧ nth ys i = ys[j]? := by
  unfold nth at h ⊢
  split at h
  · rename_i h0
    exact ⟨_, h, by rw [if_pos h0]⟩
  · rename_i h0
    split at h
    · refine ⟨_, h, ?_⟩
      rename_i h1
      rw [hl, if_neg h0, if_pos h1]
    · cases h
section
variable {G : Gd} {H : Hp} {B : Addr → Prop} {r : List Addr}
theorem Reps.nth {ds : List D} {vs : List V} (h : Reps G H B r ds vs) {i : Int} {d : D} (e : nth ds i = some d) : ∃ v, nth vs i = some v ∧ Rep G H B r d v := by
  obtain ⟨j, e1, e2⟩ := nth_len h.len e
  obtain ⟨v, e3, p⟩ := h.at e1
  exact ⟨v, e2.trans e3, p⟩
theorem clip_eq (n d : Nat) (o : Option Int) : clip n d o = HT.sIx n d o := by
  cases o <;> rfl
theorem Reps.cut {ds : List D} {vs : List V} (h : Reps G H B r ds vs) (lo hi : Option Int) : Reps G H B r (cut ds lo hi) (L2.cutV vs lo hi) := by
  unfold Mi.cut L2.cutV
  rw [clip_eq, clip_eq, h.len]
  exact (h.drop _).take _
end

section
variable {L : Lt} {xa : XA} {X : L2.Cx} {W : WX}
theorem idx_good : OpG L xa idxB (L2.rIx L.G.K) := by
  intro Z r ow H S env s d1 d2 v1 v2 d Q fr p1 p2 e hq
  cases d1 <;> cases d2 <;> simp only [idxB] at e <;> (try (cases e; done))
  case str.int x i =>
    split at e
    · rename_i hz
      obtain ⟨c, e1, rfl⟩ := Option.map_eq_some_iff.mp e
      refine .inr (.inr ⟨toStr x, i, c, p1.str.1, p2.int, by rw [toStr_len, ← sz_eq]; exact hz, ?_, ?_⟩)
      · show L2.atI x.toArray.toList i = some c
        rw [List.toList_toArray]
        exact nth_atI e1
      · refine hq _ _ _ .refl fr ?_
        rw [Rep]
        refine ⟨rfl, fun c' hc' => ?_⟩
        rw [List.mem_singleton.mp hc']
        unfold nth at e1
        split at e1
        · exact p1.str.2 c (List.mem_of_getElem? e1)
        · split at e1
          · exact p1.str.2 c (List.mem_of_getElem? e1)
          · cases e1
    · cases e
  case tup.int xs i =>
    obtain ⟨a, vs, e1, h1, q1⟩ := p1.tup
    obtain ⟨v, e2, rp⟩ := q1.nth e
    exact .inr (.inl ⟨a, vs, i, v, e1, p2.int, h1, nth_atI e2, hq _ _ _ .refl fr rp⟩)
  case lst.int xs i =>
    obtain ⟨a, vs, e1, h1, q1⟩ := p1.lst
    obtain ⟨v, e2, rp⟩ := q1.nth e
    exact .inl ⟨a, vs, i, v, e1, p2.int, .of h1, nth_atI e2, hq _ _ _ .refl fr rp⟩

/-- a slice by values -/
def slR (K : PySem.W.Frag) : V → Option Int → Option Int → Hp → VK → Prop := fun x lo hi H Q => L2.rSlL K x lo hi H Q ∨ L2.rSlA K x lo hi H Q ∨ L2.rSlS x lo hi H Q
theorem sl_run : SlR X (slR X.K) := L2.SlR.or L2.sl_list (L2.SlR.or L2.sl_tupA L2.sl_str)
theorem slc_good {Z : Addr → Prop} {r : List Addr} {ow : Nat → Option Addr} {H : Hp} {S : Sto} {env : Env} {s : L2.St} {d1 d : D} {v1 : V} {l h : Option Int} {Q : VK}
    (fr : Fr L.G L.xc xa Z r ow H S env s) (p1 : Pc L.G Z r ow H d1 v1) (e : slcB d1 l h = some d)
    (hq : ∀ v H' r', Stp H r H' r' → Fr L.G L.xc xa Z r' ow H' S env s → Rep L.G H' (BB Z r' ow) r' d v → Q v H') : slR L.G.K v1 l h H Q := by
  unfold slcB at e
  cases d1 <;> simp only at e <;> (try (cases e; done))
  case lst xs =>
    cases e
    obtain ⟨a, vs, e1, h1, q1⟩ := p1.lst
    exact .inl ⟨a, vs, e1, .of h1, fun p hp => hq _ _ _ (.laid hp) (fr.laid hp) (rep_lst fr hp (q1.cut l h))⟩
  case tup xs =>
    cases e
    obtain ⟨a, vs, e1, h1, q1⟩ := p1.tup
    refine .inr (.inl ⟨a, vs, e1, h1, fun ⟨z1, z2⟩ => ?_, fun _ p hp => hq _ _ _ (.laid hp) (fr.laid hp) (rep_tup fr hp (q1.cut l h))⟩)
    have hc : cut xs l h = xs := by
      unfold cut
      rw [clip_eq, clip_eq, ← q1.len, z1, z2, q1.len]
      simp
    rw [hc] at hq
    exact hq _ _ _ .refl fr (by rw [Rep]; exact ⟨a, vs, rfl, h1, q1⟩)
  case str x =>
    split at e
    · rename_i hz
      cases e
      refine .inr (.inr ⟨toStr x, p1.str.1, by rw [toStr_len, ← sz_eq]; exact hz, hq _ _ _ .refl fr ?_⟩)
      rw [Rep]
      refine ⟨congrArg V.str ?_, fun c hc => p1.str.2 c (List.mem_of_mem_drop (List.mem_of_mem_take hc))⟩
      unfold L2.cutS cut toStr
      have hl : (⟨x.toArray⟩ : Str).length = x.length := by show x.toArray.size = _; simp
      simp only [hl, List.toList_toArray, clip_eq]
    · cases e

def kdName : Kd → String
  | .int => "int" | .bool => "bool" | .str => "str" | .tuple => "tuple" | .list => "list"
def tyName : D → String
  | .non => "NoneType" | .bl _ => "bool" | .int _ => "int" | .str _ => "str" | .tup _ => "tuple" | .lst _ => "list" | _ => ""
theorem tyX_of {Z : Addr → Prop} {r : List Addr} {ow : Nat → Option Addr} {H : Hp} {d : D} {v : V} {k : Kd} {b : Bool} (p : Pc L.G Z r ow H d v) (h : isK k d = some b) : L2.TyX L.G.K H v (.type (tyName d)) := by
  cases d with
  | non => rw [p.non]; exact .base .non
  | bl c => rw [p.bl]; exact .base (.bl c)
  | int c => rw [p.int]; exact .base (.int c)
  | str c => rw [p.str.1]; exact .base (.str _)
  | tup xs =>
    obtain ⟨a, vs, rfl, h1, _⟩ := p.tup
    rcases h1 with (h1 | ⟨o, h1⟩) | ⟨o, its, n, h1, h2, _⟩
    · exact .base (.tup h1)
    · exact .fTuple h1
    · exact .kTuple h1 h2
  | lst xs =>
    obtain ⟨a, vs, rfl, h1, _⟩ := p.lst
    exact .base (.lst h1)
  | scr => cases k <;> simp [isK] at h
  | ref n => cases k <;> simp [isK] at h
theorem kit_isK {k : Kd} {d : D} {b : Bool} (h : isK k d = some b) : L2.kitB (tyName d) (kdName k) = some b := by
  cases k <;> cases d <;> simp only [isK] at h <;> (try (cases h; done)) <;> (cases h; simp only [tyName, kdName]; decide +kernel)
theorem isi_good {Z : Addr → Prop} {r : List Addr} {ow : Nat → Option Addr} {H : Hp} {S : Sto} {env : Env} {s : L2.St} {d : D} {v : V} {k : Kd} {b : Bool} {Q : VK}
    (fr : Fr L.G L.xc xa Z r ow H S env s) (p : Pc L.G Z r ow H d v) (h : isK k d = some b)
    (hq : ∀ v H' r', Stp H r H' r' → Fr L.G L.xc xa Z r' ow H' S env s → Rep L.G H' (BB Z r' ow) r' (.bl b) v → Q v H') : L2.rIsi L.G.K [v, .ty (kdName k)] H Q :=
  ⟨v, .ty (kdName k), .type (tyName d), .type (kdName k), b, rfl, .ty _, tyX_of p h, L2.kit_ty (kit_isK h), hq _ _ _ .refl fr (by rw [Rep])⟩

def bltV : Blt → Value
  | .len => .builtin "len" | .abs => .builtin "abs" | .max2 => .builtin "max" | .min2 => .builtin "min" | .maxL => .builtin "max" | .minL => .builtin "min" | .sum => .builtin "sum" | .all => .builtin "all"
  | .sorted => .builtin "sorted" | .tuple => .type "tuple" | .list => .type "list" | .int => .type "int" | .str => .type "str"
def bltName : Blt → Str
  | .len => "len" | .abs => "abs" | .max2 => "max" | .min2 => "min" | .maxL => "max" | .minL => "min" | .sum => "sum" | .all => "all"
  | .sorted => "sorted" | .tuple => "tuple" | .list => "list" | .int => "int" | .str => "str"
theorem blt_boot (b : Blt) : bootBuiltins (bltName b) = some (bltV b) := by
  cases b <;> decide +kernel
abbrev CR := List V → Hp → VK → Prop
def bltR (G : Gd) : Blt → CR
  | .len => fun xs H Q => (∃ p ys, xs = [.ref p] ∧ (SqL G.K H p ys ∨ SqT G.K H p ys) ∧ Q (.int ys.length) H) ∨ (∃ z, xs = [.str z] ∧ z.length ≤ sizeLine ∧ Q (.int z.length) H)
  | .abs => fun xs H Q => ∃ i, xs = [.int i] ∧ Q (.int (if i < 0 then -i else i)) H
  | .max2 => fun xs H Q => ∃ i j, xs = [.int i, .int j] ∧ Q (.int (if j > i then j else i)) H
  | .min2 => fun xs H Q => ∃ i j, xs = [.int i, .int j] ∧ Q (.int (if j < i then j else i)) H
  | .maxL => L2.rMax G.K
  | .minL => L2.rMin G.K
  | .sum => L2.rSum G.K
  | .all => L2.rAll G.K
  | .sorted => rSort G
  | .tuple => fun xs H Q => ∃ p ys, xs = [.ref p] ∧ ((SqL G.K H p ys ∧ ∀ l, H l = none → Q (.ref l) (upd H l (.tup ys))) ∨ (SqT G.K H p ys ∧ Q (.ref p) H))
  | .list => fun xs H Q => ∃ p ys, xs = [.ref p] ∧ (SqL G.K H p ys ∨ SqT G.K H p ys) ∧ ∀ l, H l = none → Q (.ref l) (upd H l (.lst ys))
  | .int => fun xs H Q => (∃ i, xs = [.int i] ∧ Q (.int i) H) ∨ ∃ k, xs = [.bl k] ∧ Q (.int (if k then 1 else 0)) H
  | .str => fun xs H Q => ∃ i : Int, xs = [.int i] ∧ i.natAbs.log2 < 1920 ∧ Q (.str (toString i)) H
theorem digs_str : ∀ i : Nat, i < 100 → (Str.ofString (toString (i : Int))).cps = (toStr (digs i)).cps ∧ ((i : Int).natAbs.log2 < 1920) := by decide +kernel
theorem digs_ok (i : Nat) (h : i < 100) : (toString (i : Int) : Str) = toStr (digs i) ∧ ((i : Int).natAbs.log2 < 1920) ∧ okStr (digs i) := by
  obtain ⟨h1, h2⟩ := digs_str i h
  refine ⟨?_, h2, ?_⟩
  · show Str.ofString (toString (i : Int)) = toStr (digs i)
    cases e1 : Str.ofString (toString (i : Int))
    cases e2 : toStr (digs i)
    rw [e1, e2] at h1
    exact congrArg _ h1
  · intro c hc
    unfold digs at hc
    split at hc <;> simp at hc <;> omega
theorem blt_run {G : Gd} (hK : X.K = G.K) (hc : X.calm = true) (hu : X.A.units + 64 < cLine) (b : Blt) : CallR X (bltV b) (bltR G b) := by
  cases b
  · simp only [bltV, bltR]; rw [← hK]; exact L2.CallR.or L2.call_len_seq L2.call_len_str
  · exact L2.call_abs
  · exact L2.call_max2 hc
  · exact L2.call_min2 hc
  · simp only [bltV, bltR]; rw [← hK]; exact L2.cr_max hc
  · simp only [bltV, bltR]; rw [← hK]; exact L2.cr_min hc
  · simp only [bltV, bltR]; rw [← hK]; exact L2.cr_sum hc
  · simp only [bltV, bltR]; rw [← hK]; exact L2.cr_all hc
  · exact cr_sort hK hu
  · simp only [bltV, bltR]; rw [← hK]; exact L2.call_tuple_of
  · simp only [bltV, bltR]; rw [← hK]; exact L2.call_list_of
  · exact L2.call_int1
  · exact L2.call_str_int
theorem foldl_max (n : Int) : ∀ ns : List Int, (ns.foldl max n ∈ n :: ns) ∧ ∀ y ∈ n :: ns, y ≤ ns.foldl max n := by
  intro ns
  induction ns generalizing n with
  | nil => simp
  | cons m ms ih =>
    obtain ⟨h1, h2⟩ := ih (max n m)
    simp only [List.foldl_cons]
    refine ⟨?_, fun y hy => ?_⟩
    · rcases List.mem_cons.mp h1 with e | e
      · rw [e]
        rcases Int.le_total n m with q | q
        · rw [Int.max_eq_right q]; simp
        · rw [Int.max_eq_left q]; simp
      · exact List.mem_cons_of_mem _ (List.mem_cons_of_mem _ e)
    · have h3 := h2 (max n m) List.mem_cons_self
      rcases List.mem_cons.mp hy with rfl | hy
      · exact Int.le_trans (Int.le_max_left _ _) h3
      · rcases List.mem_cons.mp hy with rfl | hy
        · exact Int.le_trans (Int.le_max_right _ _) h3
        · exact h2 y (List.mem_cons_of_mem _ hy)
theorem foldl_min (n : Int) : ∀ ns : List Int, (ns.foldl min n ∈ n :: ns) ∧ ∀ y ∈ n :: ns, ns.foldl min n ≤ y := by
  intro ns
  induction ns generalizing n with
  | nil => simp
  | cons m ms ih =>
    obtain ⟨h1, h2⟩ := ih (min n m)
    simp only [List.foldl_cons]
    refine ⟨?_, fun y hy => ?_⟩
    · rcases List.mem_cons.mp h1 with e | e
      · rw [e]
        rcases Int.le_total n m with q | q
        · rw [Int.min_eq_left q]; simp
        · rw [Int.min_eq_right q]; simp
      · exact List.mem_cons_of_mem _ (List.mem_cons_of_mem _ e)
    · have h3 := h2 (min n m) List.mem_cons_self
      rcases List.mem_cons.mp hy with rfl | hy
      · exact Int.le_trans h3 (Int.min_le_left _ _)
      · rcases List.mem_cons.mp hy with rfl | hy
        · exact Int.le_trans h3 (Int.min_le_right _ _)
        · exact h2 y (List.mem_cons_of_mem _ hy)
theorem pk1 {R : D → V → Prop} {d : D} {vs : List V} (h : Paired R [d] vs) : ∃ v, vs = [v] ∧ R d v := by
  cases h with
  | cons a b => cases b; exact ⟨_, rfl, a⟩
theorem pk2 {R : D → V → Prop} {d e : D} {vs : List V} (h : Paired R [d, e] vs) : ∃ v w, vs = [v, w] ∧ R d v ∧ R e w := by
  cases h with
  | cons a b =>
    cases b with
    | cons c d => cases d; exact ⟨_, _, rfl, a, c⟩
theorem blt_good {Z : Addr → Prop} {r : List Addr} {ow : Nat → Option Addr} {H : Hp} {S : Sto} {env : Env} {s : L2.St} {ds : List D} {vs : List V} {b : Blt} {d : D} {Q : VK}
    (fr : Fr L.G L.xc xa Z r ow H S env s) (pp : Paired (Pc L.G Z r ow H) ds vs) (e : bltB b ds = some d)
    (hq : ∀ v H' r', Stp H r H' r' → Fr L.G L.xc xa Z r' ow H' S env s → Rep L.G H' (BB Z r' ow) r' d v → Q v H') : bltR L.G b vs H Q := by
  have fin : ∀ i : Int, d = .int i → Q (.int i) H := fun i h => hq _ _ _ .refl fr (by rw [h, Rep])
  have finb : ∀ i : Bool, d = .bl i → Q (.bl i) H := fun i h => hq _ _ _ .refl fr (by rw [h, Rep])
  unfold bltB at e
  split at e <;> (try (cases e; done))
  · obtain ⟨v, rfl, p⟩ := pk1 pp
    cases e
    obtain ⟨a, ws, e1, h1, q1⟩ := p.lst
    exact .inl ⟨a, ws, by rw [e1], .inl (.of h1), by rw [q1.len]; exact fin _ rfl⟩
  · obtain ⟨v, rfl, p⟩ := pk1 pp
    cases e
    obtain ⟨a, ws, e1, h1, q1⟩ := p.tup
    exact .inl ⟨a, ws, by rw [e1], .inr h1, by rw [q1.len]; exact fin _ rfl⟩
  · obtain ⟨v, rfl, p⟩ := pk1 pp
    split at e
    · rename_i hz
      cases e
      exact .inr ⟨_, by rw [p.str.1], by rw [toStr_len, ← sz_eq]; exact hz, by rw [toStr_len]; exact fin _ rfl⟩
    · cases e
  · obtain ⟨v, rfl, p⟩ := pk1 pp
    cases e
    exact ⟨_, by rw [p.int], fin _ rfl⟩
  · obtain ⟨v, w, rfl, p1, p2⟩ := pk2 pp
    cases e
    exact ⟨_, _, by rw [p1.int, p2.int], fin _ rfl⟩
  · obtain ⟨v, w, rfl, p1, p2⟩ := pk2 pp
    cases e
    exact ⟨_, _, by rw [p1.int, p2.int], fin _ rfl⟩
  · obtain ⟨v, rfl, p⟩ := pk1 pp
    split at e
    · rename_i n ns hi
      cases e
      obtain ⟨a, ws, e1, h1, q1⟩ := p.lst
      have hw := q1.intsR hi
      subst hw
      refine ⟨a, n :: ns, by rw [e1], .of h1, by simp, fun m hm hle => ?_⟩
      obtain ⟨g1, g2⟩ := foldl_max n ns
      have : m = ns.foldl max n := Int.le_antisymm (g2 m hm) (hle _ g1)
      subst this
      exact fin _ rfl
    · cases e
  · obtain ⟨v, rfl, p⟩ := pk1 pp
    split at e
    · rename_i n ns hi
      cases e
      obtain ⟨a, ws, e1, h1, q1⟩ := p.lst
      have hw := q1.intsR hi
      subst hw
      refine ⟨a, n :: ns, by rw [e1], .of h1, by simp, fun m hm hle => ?_⟩
      obtain ⟨g1, g2⟩ := foldl_min n ns
      have : m = ns.foldl min n := Int.le_antisymm (hle _ g1) (g2 m hm)
      subst this
      exact fin _ rfl
    · cases e
  · obtain ⟨v, rfl, p⟩ := pk1 pp
    obtain ⟨ns, hi, rfl⟩ := Option.map_eq_some_iff.mp e
    obtain ⟨a, ws, e1, h1, q1⟩ := p.lst
    have hw := q1.intsR hi
    subst hw
    exact ⟨a, ns, by rw [e1], .of h1, fin _ rfl⟩
  · obtain ⟨v, rfl, p⟩ := pk1 pp
    obtain ⟨ns, hi, rfl⟩ := Option.map_eq_some_iff.mp e
    obtain ⟨a, ws, e1, h1, q1⟩ := p.lst
    have hw := q1.boolsR hi
    subst hw
    exact ⟨a, ns, by rw [e1], .of h1, finb _ rfl⟩
  · obtain ⟨v, rfl, p⟩ := pk1 pp
    rename_i xs
    unfold sortB at e
    split at e
    · rename_i hz
      cases e
      simp only [Bool.and_eq_true, decide_eq_true_eq] at hz
      obtain ⟨a, ws, e1, h1, q1⟩ := p.lst
      exact ⟨_, _, a, ws, xs, by rw [e1], h1, q1, hz.1, hz.2, fun p ws' hp q2 => hq _ _ _ (.laid hp) (fr.laid hp) (rep_lst fr hp q2)⟩
    · cases e
  · obtain ⟨v, rfl, p⟩ := pk1 pp
    cases e
    obtain ⟨a, ws, e1, h1, q1⟩ := p.lst
    exact ⟨a, ws, by rw [e1], .inl ⟨.of h1, fun p hp => hq _ _ _ (.laid hp) (fr.laid hp) (rep_tup fr hp q1)⟩⟩
  · obtain ⟨v, rfl, p⟩ := pk1 pp
    cases e
    obtain ⟨a, ws, e1, h1, q1⟩ := p.tup
    exact ⟨a, ws, by rw [e1], .inr ⟨h1, hq _ _ _ .refl fr (by rw [Rep]; exact ⟨a, ws, rfl, h1, q1⟩)⟩⟩
  · obtain ⟨v, rfl, p⟩ := pk1 pp
    cases e
    obtain ⟨a, ws, e1, h1, q1⟩ := p.lst
    exact ⟨a, ws, by rw [e1], .inl (.of h1), fun p hp => hq _ _ _ (.laid hp) (fr.laid hp) (rep_lst fr hp q1)⟩
  · obtain ⟨v, rfl, p⟩ := pk1 pp
    cases e
    obtain ⟨a, ws, e1, h1, q1⟩ := p.tup
    exact ⟨a, ws, by rw [e1], .inr h1, fun p hp => hq _ _ _ (.laid hp) (fr.laid hp) (rep_lst fr hp q1)⟩
  · obtain ⟨v, rfl, p⟩ := pk1 pp
    cases e
    exact .inl ⟨_, by rw [p.int], fin _ rfl⟩
  · obtain ⟨v, rfl, p⟩ := pk1 pp
    cases e
    exact .inr ⟨_, by rw [p.bl], fin _ rfl⟩
  · obtain ⟨v, rfl, p⟩ := pk1 pp
    split at e
    · rename_i hb
      cases e
      rename_i i
      obtain ⟨n, rfl⟩ := Int.eq_ofNat_of_zero_le hb.1
      obtain ⟨h1, h2, h3⟩ := digs_ok n (by omega)
      exact ⟨_, by rw [p.int], h2, hq _ _ _ .refl fr (by rw [Rep]; exact ⟨congrArg V.str h1, h3⟩)⟩
    · cases e
end
end Mi

set_option maxRecDepth 100000
set_option maxHeartbeats 4000000
namespace Mi
open PySem PySem.Spec PyProof.Rows
open L2 (V Hp HO upd upd_same upd_ne Same SqL SqT Rd VK XK WX PE PT PA OpR CallR IxR SlR TE TT TA tOp Dp DpAll)

section
variable {L : Lt} {xa : XA} {X : L2.Cx} {W : WX} {e e1 e2 e3 : Expr} {x y z : Ex} {pos : Pos}
theorem snd_var {i : Nat} {n : Str} (hN : X.N[i]? = some n) (hv : L2.Vis X.env.scope n) (hd : (n == ("__debug__" : Str)) = false) (hcd : (n == ("__classdict__" : Str)) = false) : PE X (.Name n pos) (rdE L xa W (.var i)) := by
  refine PE.imp (L2.pe_var hN hv hd hcd) fun s H Q h => ?_
  obtain ⟨Z, r, ow, S, env, fr, h⟩ := h
  simp only [evE] at h
  cases ee : env[i]? with
  | none => rw [ee] at h; exact h.elim
  | some p =>
    rw [ee] at h
    have hs := fr.slot i p ee
    cases p with
    | fz d =>
      obtain ⟨_, v, e1, rp⟩ := hs
      exact ⟨v, e1, h v H r .refl fr rp⟩
    | un => exact h.elim
    | own xs => exact h.elim
    | exn c d => exact h.elim
theorem sndR_var {i : Nat} {n : Str} (hN : X.N[i]? = some n) (hv : L2.Vis X.env.scope n) (hd : (n == ("__debug__" : Str)) = false) (hcd : (n == ("__classdict__" : Str)) = false) : PE X (.Name n pos) (rdR L xa W (.var i)) := by
  refine PE.imp (L2.pe_var hN hv hd hcd) fun s H Q h => ?_
  obtain ⟨Z, r, ow, S, env, fr, h⟩ := h
  simp only [rd] at h
  cases ee : env[i]? with
  | none => rw [ee] at h; exact h.elim
  | some p =>
    rw [ee] at h
    have hs := fr.slot i p ee
    cases p with
    | fz d =>
      obtain ⟨_, v, e1, rp⟩ := hs
      exact ⟨v, e1, h v H r .refl fr (.inl rp)⟩
    | own xs =>
      obtain ⟨a, vs, e0, e1, e2, rp⟩ := hs
      exact ⟨_, e1, h _ H r .refl fr (.inr ⟨i, a, xs, vs, e0, rfl, rfl, e2, rp⟩)⟩
    | un => exact h.elim
    | exn c d => exact h.elim
theorem PostR.of (h : ∀ i, x ≠ .var i) {Z : Addr → Prop} {r : List Addr} {ow : Nat → Option Addr} {H : Hp} {S : Sto} {env : Env} {s : L2.St} {Q : VK} {E : XK} : PostR L xa Z r ow H env s Q E (rd x env S (evE L.F x env S)) → PostE L xa Z r ow H env s Q E (evE L.F x env S) := by
  have e : rd x env S (evE L.F x env S) = evE L.F x env S := by
    cases x <;> first | rfl | exact absurd rfl (h _)
  rw [e]
  cases evE L.F x env S with
  | ok d S' => exact fun h v H' r' st fr rp => h v H' r' st fr (.inl rp)
  | exc c d S' => exact fun h => h
  | stuck => exact fun h => h
theorem sndR_of (h : ∀ i, x ≠ .var i) (k : PE X e (rdE L xa W x)) : PE X e (rdR L xa W x) :=
  PE.imp k fun s H Q ⟨Z, r, ow, S, env, fr, q⟩ => ⟨Z, r, ow, S, env, fr, PostR.of h q⟩

/-- a constant, whatever the heap -/
theorem snd_cst {d : D} {v : V} (h : PE X e (L2.tC v)) (rp : ∀ H B r, Rep L.G H B r d v) : PE X e (rdE L xa W (.cst d)) := by
  refine PE.imp h fun s H Q q => ?_
  obtain ⟨Z, r, ow, S, env, fr, q⟩ := q
  simp only [evE] at q
  exact q v H r .refl fr (rp _ _ _)
theorem snd_es_nil : PA X [] (rdEs L xa W []) := by
  refine PA.imp L2.pa_nil fun s H Q q => ?_
  obtain ⟨Z, r, ow, S, env, fr, q⟩ := q
  simp only [evEs] at q
  exact q [] H r .refl fr Reps.nil
theorem snd_es_cons {es : List Expr} {xs : List Ex} (h : PE X e (rdE L xa W x)) (hs : PA X es (rdEs L xa W xs)) (st : starEach (e :: es) X.env = (false, eval e X.env) :: starEach es X.env) : PA X (e :: es) (rdEs L xa W (x :: xs)) := by
  refine PA.imp (L2.pa_cons h hs st) fun s H Q q => ?_
  obtain ⟨Z, r, ow, S, env, fr, q⟩ := q
  simp only [evEs] at q
  refine rdE.bind (P := PostEs L xa Z r ow H env s Q (fun c d H' => W c d s H')) fr q (fun d S1 h1 v H1 r1 st1 fr1 p1 => ?_) (fun c d S' h => h) id
  refine rdEs.bind (P := PostEs L xa Z r ow H env s Q (fun c d H' => W c d s H')) fr1 h1 (fun ds S2 h2 vs H2 r2 st2 fr2 p2 => ?_) (fun c d S' h cls dd H' r' st => h cls dd H' r' (st1.trans st)) id
  exact h2 (v :: vs) H2 r2 (st1.trans st2) fr2 (.cons (st2.rep p1) p2)
theorem snd_rs_nil : PA X [] (rdRs L xa W []) := by
  refine PA.imp L2.pa_nil fun s H Q q => ?_
  obtain ⟨Z, r, ow, S, env, fr, q⟩ := q
  simp only [evRs] at q
  exact q [] H r .refl fr .nil
theorem Pks.step {Z : Addr → Prop} {r r' : List Addr} {ow : Nat → Option Addr} {H H' : Hp} {S : Sto} {env : Env} {s : L2.St} (fr : Fr L.G L.xc xa Z r ow H S env s) (st : Stp H r H' r') : ∀ {ds : List D} {vs : List V}, Paired (Pk L.G Z r ow H) ds vs → Paired (Pk L.G Z r' ow H') ds vs
  | _, _, .nil => .nil
  | _, _, .cons a b => .cons (Pk.step fr st a) (Pks.step fr st b)
theorem snd_rs_cons {es : List Expr} {xs : List Ex} (h : PE X e (rdR L xa W x)) (hs : PA X es (rdRs L xa W xs)) (st : starEach (e :: es) X.env = (false, eval e X.env) :: starEach es X.env) : PA X (e :: es) (rdRs L xa W (x :: xs)) := by
  refine PA.imp (L2.pa_cons h hs st) fun s H Q q => ?_
  obtain ⟨Z, r, ow, S, env, fr, q⟩ := q
  simp only [evRs] at q
  refine rdR.bind (P := PostRs L xa Z r ow H env s Q (fun c d H' => W c d s H')) fr q (fun d S1 h1 v H1 r1 st1 fr1 p1 => ?_) (fun c d S' h => h) id
  refine rdRs.bind (P := PostRs L xa Z r ow H env s Q (fun c d H' => W c d s H')) fr1 h1 (fun ds S2 h2 vs H2 r2 st2 fr2 p2 => ?_) (fun c d S' h cls dd H' r' st => h cls dd H' r' (st1.trans st)) id
  exact h2 (v :: vs) H2 r2 (st1.trans st2) fr2 (.cons (Pk.step fr1 st2 p1) p2)
theorem snd_tup {es : List Expr} {xs : List Ex} {j : Nat} (h : PA X es (rdEs L xa W xs)) : PE X (.Tuple es j pos) (rdE L xa W (.tup xs)) := by
  refine PE.imp (L2.pe_tup h) fun s H Q q => ?_
  obtain ⟨Z, r, ow, S, env, fr, q⟩ := q
  simp only [evE] at q
  refine rdEs.bind (P := PostE L xa Z r ow H env s Q (fun c d H' => W c d s H')) fr q (fun ds S1 h1 vs H1 r1 st1 fr1 p1 => ?_) (fun c d S' h => h) id
  split at h1
  · rename_i hz
    exact ⟨by rw [p1.len, ← sz_eq]; exact hz, fun p hp => h1 _ _ _ (st1.trans (.laid hp)) (fr1.laid hp) (rep_tup fr1 hp p1)⟩
  · exact h1.elim
theorem snd_lst {es : List Expr} {xs : List Ex} (h : PA X es (rdEs L xa W xs)) : PE X (.List es pos) (rdE L xa W (.lst xs)) := by
  refine PE.imp (L2.pe_lst h) fun s H Q q => ?_
  obtain ⟨Z, r, ow, S, env, fr, q⟩ := q
  simp only [evE] at q
  refine rdEs.bind (P := PostE L xa Z r ow H env s Q (fun c d H' => W c d s H')) fr q (fun ds S1 h1 vs H1 r1 st1 fr1 p1 => ?_) (fun c d S' h => h) id
  split at h1
  · rename_i hz
    exact ⟨by rw [p1.len, ← sz_eq]; exact hz, fun p hp => h1 _ _ _ (st1.trans (.laid hp)) (fr1.laid hp) (rep_lst fr1 hp p1)⟩
  · exact h1.elim
theorem snd_bin {o : Bop} (hK : X.K = L.G.K) (h1 : PE X e1 (rdR L xa W x)) (h2 : PE X e2 (rdR L xa W y)) : PE X (.BinOp e1 (opOf o) e2 pos) (rdE L xa W (.bin o x y)) := by
  refine PE.imp (L2.pe_op (op_run o) h1 h2) fun s H Q q => ?_
  obtain ⟨Z, r, ow, S, env, fr, q⟩ := q
  simp only [evE] at q
  rw [hK]
  exact two_ok (op_good o) fr q
theorem snd_cmp {o : Cop} (hK : X.K = L.G.K) (hu : X.A.units + 65 < cLine) (h1 : PE X e1 (rdR L xa W x)) (h2 : PE X e2 (rdR L xa W y)) (hm : behindInMarks (copOf o) e2 = false) : PE X (.Compare e1 [copOf o] [e2] pos) (rdE L xa W (.cmp o x y)) := by
  refine PE.imp (L2.pe_cmpR (cop_run o hu) h1 h2 hm) fun s H Q q => ?_
  obtain ⟨Z, r, ow, S, env, fr, q⟩ := q
  simp only [evE] at q
  rw [hK]
  exact two_ok (cop_good o) fr q
theorem snd_idx (hK : X.K = L.G.K) (h1 : PE X e1 (rdR L xa W x)) (h2 : PE X e2 (rdE L xa W y)) (hs : L2.PlainIx e2) : PE X (.Subscript e1 e2 pos) (rdE L xa W (.idx x y)) := by
  refine PE.imp (L2.pe_ix L2.ix_seq h1 h2 hs) fun s H Q q => ?_
  obtain ⟨Z, r, ow, S, env, fr, q⟩ := q
  simp only [evE] at q
  rw [hK]
  refine rdR.bind (P := PostE L xa Z r ow H env s Q (fun c d H' => W c d s H')) fr q (fun d1 S1 h1 v1 H1 r1 st1 fr1 p1 => ?_) (fun c d S' h => h) id
  refine rdE.bind (P := PostE L xa Z r ow H env s Q (fun c d H' => W c d s H')) fr1 h1 (fun d2 S2 h2 v2 H2 r2 st2 fr2 p2 => ?_) (fun c d S' h cls dd H' r' st => h cls dd H' r' (st1.trans st)) id
  cases e : idxB d1 d2 with
  | none => rw [e] at h2; exact h2.elim
  | some d =>
    rw [e] at h2
    exact idx_good Z r2 ow H2 S2 env s d1 d2 v1 v2 d Q fr2 (.inl (Pk.step fr1 st2 p1)) (.r p2) e fun v H' r' st' fr' rp => h2 v H' r' ((st1.trans st2).trans st') fr' rp
theorem snd_neg (h1 : PE X e1 (rdE L xa W x)) : PE X (.UnaryOp .USub e1 pos) (rdE L xa W (.neg x)) := by
  refine PE.imp (L2.pe_un L2.un_neg h1) fun s H Q q => ?_
  obtain ⟨Z, r, ow, S, env, fr, q⟩ := q
  simp only [evE] at q
  refine rdE.bind (P := PostE L xa Z r ow H env s Q (fun c d H' => W c d s H')) fr q (fun d S1 h1 v H1 r1 st1 fr1 p1 => ?_) (fun c d S' h => h) id
  cases d with
  | int i =>
    rw [Rep] at p1
    exact ⟨i, p1, h1 _ _ _ st1 fr1 (by rw [Rep])⟩
  | _ => exact h1.elim
theorem snd_not (h1 : PE X e1 (rdE L xa W x)) : PE X (.UnaryOp .Not e1 pos) (rdE L xa W (.not x)) := by
  refine PE.imp (L2.pe_not h1) fun s H Q q => ?_
  obtain ⟨Z, r, ow, S, env, fr, q⟩ := q
  simp only [evE] at q
  refine rdE.bind (P := PostE L xa Z r ow H env s Q (fun c d H' => W c d s H')) fr q (fun d S1 h1 v H1 r1 st1 fr1 p1 => ?_) (fun c d S' h => h) id
  cases d with
  | bl i =>
    rw [Rep] at p1
    exact ⟨i, p1, h1 _ _ _ st1 fr1 (by rw [Rep])⟩
  | _ => exact h1.elim
theorem sndT_not (h1 : PT X e1 (rdT L xa W x)) : PT X (.UnaryOp .Not e1 pos) (rdT L xa W (.not x)) := by
  refine PT.imp (L2.pt_not h1) fun s H Q q => ?_
  obtain ⟨Z, r, ow, S, env, fr, q⟩ := q
  simp only [evE] at q
  refine ⟨Z, r, ow, S, env, fr, ?_⟩
  cases ee : evE L.F x env S with
  | ok d S1 =>
    rw [ee] at q
    intro v H1 r1 st1 fr1 p1
    cases d with
    | bl i =>
      rw [Rep] at p1
      obtain ⟨b, e1, q⟩ := q _ _ _ st1 fr1 (by rw [Rep])
      cases e1
      exact ⟨i, p1, q⟩
    | _ => exact q.elim
  | exc c d S1 => rw [ee] at q; exact q
  | stuck => rw [ee] at q; exact q
/-- a test by its value -/
theorem sndT_val (h : PE X e (rdE L xa W x)) (he : ∀ whole, isTrue e X.env whole = (do let v ← whole; standAt e.pos; holding [v] (truthy v))) : PT X e (rdT L xa W x) := by
  refine PT.imp (L2.pt_val h he) fun s H Q q => ?_
  obtain ⟨Z, r, ow, S, env, fr, q⟩ := q
  exact ⟨Z, r, ow, S, env, fr, q⟩
theorem sndT_cmp {o : Cop} (hK : X.K = L.G.K) (hu : X.A.units + 65 < cLine) (h1 : PE X e1 (rdR L xa W x)) (h2 : PE X e2 (rdR L xa W y)) (hm : behindInMarks (copOf o) e2 = false) : PT X (.Compare e1 [copOf o] [e2] pos) (rdT L xa W (.cmp o x y)) := by
  refine PT.imp (L2.pt_cmpR (cop_run o hu) h1 h2 hm) fun s H Q q => ?_
  obtain ⟨Z, r, ow, S, env, fr, q⟩ := q
  simp only [evE] at q
  show tOp _ _ _ s H _
  rw [hK]
  exact two_ok (cop_good o) fr q
theorem chain_ok {o p : Cop} (hK : X.K = L.G.K) {s : L2.St} {H : Hp} {Q : VK} {Z : Addr → Prop} {r : List Addr} {ow : Nat → Option Addr} {S : Sto} {env : Env} (fr : Fr L.G L.xc xa Z r ow H S env s)
    (q : PostE L xa Z r ow H env s Q (fun c d H' => W c d s H') (evE L.F (.chn o p x y z) env S)) : L2.tChain (copR X.K o) (copR X.K p) (rdE L xa W x) (rdE L xa W y) (rdE L xa W z) s H Q := by
  simp only [evE] at q
  rw [hK]
  refine rdE.bind (P := PostE L xa Z r ow H env s Q (fun c d H' => W c d s H')) fr q (fun d1 S1 h1 v1 H1 r1 st1 fr1 p1 => ?_) (fun c d S' h => h) id
  refine rdE.bind (P := PostE L xa Z r ow H env s Q (fun c d H' => W c d s H')) fr1 h1 (fun d2 S2 h2 v2 H2 r2 st2 fr2 p2 => ?_) (fun c d S' h cls dd H' r' st => h cls dd H' r' (st1.trans st)) id
  cases e : cmpB o d1 d2 with
  | none => rw [e] at h2; exact h2.elim
  | some b =>
    rw [e] at h2
    refine cop_good o Z r2 ow H2 S2 env s d1 d2 v1 v2 (.bl b) _ fr2 (.inl (Pk.step fr1 st2 (.inl p1))) (.r p2) (by simp only [e, Option.map_some]) fun v H3 r3 st3 fr3 rp => ?_
    rw [Rep] at rp
    refine ⟨b, rp, ?_⟩
    have st := (st1.trans st2).trans st3
    cases b with
    | false => rw [if_neg (by decide)]; exact h2 _ _ _ st fr3 (by rw [Rep])
    | true =>
      rw [if_pos rfl]
      refine rdE.bind (P := PostE L xa Z r ow H env s Q (fun c d H' => W c d s H')) fr3 h2 (fun d3 S3 h3 v3 H4 r4 st4 fr4 p4 => ?_) (fun c d S' h cls dd H' r' st' => h cls dd H' r' (st.trans st')) id
      cases e' : cmpB p d2 d3 with
      | none => rw [e'] at h3; exact h3.elim
      | some b =>
        rw [e'] at h3
        exact cop_good p Z r4 ow H4 S3 env s d2 d3 v2 v3 (.bl b) _ fr4 (.inl (Pk.step fr3 st4 (Pk.step fr2 st3 (.inl p2)))) (.r p4) (by simp only [e', Option.map_some]) fun v H5 r5 st5 fr5 rp => h3 v H5 r5 ((st.trans st4).trans st5) fr5 rp
theorem snd_chn {o p : Cop} (hK : X.K = L.G.K) (hu : X.A.units + 65 < cLine) (h1 : PE X e1 (rdE L xa W x)) (h2 : PE X e2 (rdE L xa W y)) (h3 : PE X e3 (rdE L xa W z)) (hm : lastMarks [copOf o, copOf p] [e2, e3] = false) :
    PE X (.Compare e1 [copOf o, copOf p] [e2, e3] pos) (rdE L xa W (.chn o p x y z)) := by
  refine PE.imp (L2.pe_chain (cop_run o hu) (cop_run p hu) h1 h2 h3 hm) fun s H Q q => ?_
  obtain ⟨Z, r, ow, S, env, fr, q⟩ := q
  exact chain_ok hK fr q
theorem sndT_chn {o p : Cop} (hK : X.K = L.G.K) (hu : X.A.units + 65 < cLine) (h1 : PE X e1 (rdE L xa W x)) (h2 : PE X e2 (rdE L xa W y)) (h3 : PE X e3 (rdE L xa W z)) (hm : lastMarks [copOf o, copOf p] [e2, e3] = false) :
    PT X (.Compare e1 [copOf o, copOf p] [e2, e3] pos) (rdT L xa W (.chn o p x y z)) := by
  refine PT.imp (L2.pt_chain (cop_run o hu) (cop_run p hu) h1 h2 h3 hm) fun s H Q q => ?_
  obtain ⟨Z, r, ow, S, env, fr, q⟩ := q
  exact chain_ok hK fr q

def rdAnd (L : Lt) (xa : XA) (W : WX) (f : List Ex → Env → Sto → Res D) (xs : List Ex) : TE := fun s H Q => ∃ Z r ow S env, Fr L.G L.xc xa Z r ow H S env s ∧ PostE L xa Z r ow H env s Q (fun c d H' => W c d s H') (f xs env S)
theorem snd_one {f : List Ex → Env → Sto → Res D} (hf : f [x] = evE L.F x) {op : BoolOp} (h : PE X e (rdE L xa W x)) : PE X (.BoolOp op [e] pos) (rdAnd L xa W f [x]) := by
  refine PE.imp (L2.pe_one h) fun s H Q q => ?_
  obtain ⟨Z, r, ow, S, env, fr, q⟩ := q
  rw [hf] at q
  exact ⟨Z, r, ow, S, env, fr, q⟩
theorem snd_and2 {es : List Expr} {xs : List Ex} (h : PE X e (rdE L xa W x)) (hs : PE X (.BoolOp .And (e1 :: es) pos) (rdAnd L xa W (evAnd L.F) (y :: xs))) : PE X (.BoolOp .And (e :: e1 :: es) pos) (rdAnd L xa W (evAnd L.F) (x :: y :: xs)) := by
  refine PE.imp (L2.pe_and h hs) fun s H Q q => ?_
  obtain ⟨Z, r, ow, S, env, fr, q⟩ := q
  simp only [evAnd] at q
  refine rdE.bind (P := PostE L xa Z r ow H env s Q (fun c d H' => W c d s H')) fr q (fun d S1 h1 v H1 r1 st1 fr1 p1 => ?_) (fun c d S' h => h) id
  cases d with
  | bl i =>
    rw [Rep] at p1
    refine ⟨i, p1, ?_⟩
    cases i with
    | false => rw [if_neg (by decide)]; exact h1 _ _ _ st1 fr1 (by rw [Rep])
    | true => rw [if_pos rfl]; exact ⟨Z, r1, ow, S1, env, fr1, PostE.from st1 h1⟩
  | _ => exact h1.elim
theorem snd_or2 {es : List Expr} {xs : List Ex} (h : PE X e (rdE L xa W x)) (hs : PE X (.BoolOp .Or (e1 :: es) pos) (rdAnd L xa W (evOr L.F) (y :: xs))) : PE X (.BoolOp .Or (e :: e1 :: es) pos) (rdAnd L xa W (evOr L.F) (x :: y :: xs)) := by
  refine PE.imp (L2.pe_or h hs) fun s H Q q => ?_
  obtain ⟨Z, r, ow, S, env, fr, q⟩ := q
  simp only [evOr] at q
  refine rdE.bind (P := PostE L xa Z r ow H env s Q (fun c d H' => W c d s H')) fr q (fun d S1 h1 v H1 r1 st1 fr1 p1 => ?_) (fun c d S' h => h) id
  cases d with
  | bl i =>
    rw [Rep] at p1
    refine ⟨i, p1, ?_⟩
    cases i with
    | false => rw [if_neg (by decide)]; exact ⟨Z, r1, ow, S1, env, fr1, PostE.from st1 h1⟩
    | true => rw [if_pos rfl]; exact h1 _ _ _ st1 fr1 (by rw [Rep])
  | _ => exact h1.elim
def rdAndT (L : Lt) (xa : XA) (W : WX) (f : List Ex → Env → Sto → Res D) (xs : List Ex) : TT := fun s H Q => ∃ Z r ow S env, Fr L.G L.xc xa Z r ow H S env s ∧ PostE L xa Z r ow H env s (fun v H' => ∃ b, v = .bl b ∧ Q b H') (fun c d H' => W c d s H') (f xs env S)
theorem PW.imp {X : L2.Cx} {e : Expr} {t t' : TT} (h : L2.PW X e t) (k : ∀ s H Q, t' s H Q → t s H Q) : L2.PW X e t' := ⟨fun wh pins s σ H Q I q => h.run wh pins s σ H Q I (k _ _ _ q)⟩
theorem sndT_andone {f : List Ex → Env → Sto → Res D} (hf : f [x] = evE L.F x) (h : PT X e (rdT L xa W x)) : L2.PW X (.BoolOp .And [e] pos) (rdAndT L xa W f [x]) := by
  refine PW.imp (L2.pw_and1 h) fun s H Q q => ?_
  obtain ⟨Z, r, ow, S, env, fr, q⟩ := q
  rw [hf] at q
  exact ⟨Z, r, ow, S, env, fr, q⟩
theorem sndT_orone {f : List Ex → Env → Sto → Res D} (hf : f [x] = evE L.F x) (h : PT X e (rdT L xa W x)) : L2.PW X (.BoolOp .Or [e] pos) (rdAndT L xa W f [x]) := by
  refine PW.imp (L2.pw_or1 h) fun s H Q q => ?_
  obtain ⟨Z, r, ow, S, env, fr, q⟩ := q
  rw [hf] at q
  exact ⟨Z, r, ow, S, env, fr, q⟩
/-- a test's own reading, then more -/
theorem rdT.bind {k : D → Sto → Res D} {Q : Bool → Hp → Prop} {P : Res D → Prop} {Z : Addr → Prop} {r : List Addr} {ow : Nat → Option Addr} {H : Hp} {S : Sto} {env : Env} {s : L2.St} (fr : Fr L.G L.xc xa Z r ow H S env s)
    (hp : P ((evE L.F x env S).bind k)) (hok : ∀ d S', P (k d S') → ∀ v H' r', Stp H r H' r' → Fr L.G L.xc xa Z r' ow H' S' env s → Rep L.G H' (BB Z r' ow) r' d v → ∃ b, v = .bl b ∧ Q b H')
    (hex : ∀ c d S', P (.exc c d S') → ∀ cls dd H' r', Stp H r H' r' → Fr L.G L.xc xa Z r' ow H' S' env s → ExR L.G L.xc H' (BB Z r' ow) r' c d cls dd → W cls dd s H') (hst : ¬ P .stuck) : rdT L xa W x s H Q := by
  refine ⟨Z, r, ow, S, env, fr, ?_⟩
  cases e : evE L.F x env S with
  | ok d S' => rw [e] at hp; exact hok d S' hp
  | exc c d S' => rw [e] at hp; exact hex c d S' hp
  | stuck => rw [e] at hp; exact hst hp
theorem sndT_and2 {es : List Expr} {xs : List Ex} (h : PT X e (rdT L xa W x)) (hs : L2.PW X (.BoolOp .And (e1 :: es) pos) (rdAndT L xa W (evAnd L.F) (y :: xs))) : L2.PW X (.BoolOp .And (e :: e1 :: es) pos) (rdAndT L xa W (evAnd L.F) (x :: y :: xs)) := by
  refine PW.imp (L2.pw_and h hs) fun s H Q q => ?_
  obtain ⟨Z, r, ow, S, env, fr, q⟩ := q
  simp only [evAnd] at q
  refine rdT.bind (P := PostE L xa Z r ow H env s _ (fun c d H' => W c d s H')) fr q (fun d S1 h1 v H1 r1 st1 fr1 p1 => ?_) (fun c d S' h => h) id
  cases d with
  | bl i =>
    rw [Rep] at p1
    refine ⟨i, p1, ?_⟩
    cases i with
    | false =>
      rw [if_neg (by decide)]
      obtain ⟨b, e1, q⟩ := h1 _ _ _ st1 fr1 (by rw [Rep])
      cases e1; exact q
    | true => rw [if_pos rfl]; exact ⟨Z, r1, ow, S1, env, fr1, PostE.from st1 h1⟩
  | _ => exact h1.elim
theorem sndT_or2 {es : List Expr} {xs : List Ex} (h : PT X e (rdT L xa W x)) (hs : L2.PW X (.BoolOp .Or (e1 :: es) pos) (rdAndT L xa W (evOr L.F) (y :: xs))) : L2.PW X (.BoolOp .Or (e :: e1 :: es) pos) (rdAndT L xa W (evOr L.F) (x :: y :: xs)) := by
  refine PW.imp (L2.pw_or h hs) fun s H Q q => ?_
  obtain ⟨Z, r, ow, S, env, fr, q⟩ := q
  simp only [evOr] at q
  refine rdT.bind (P := PostE L xa Z r ow H env s _ (fun c d H' => W c d s H')) fr q (fun d S1 h1 v H1 r1 st1 fr1 p1 => ?_) (fun c d S' h => h) id
  cases d with
  | bl i =>
    rw [Rep] at p1
    refine ⟨i, p1, ?_⟩
    cases i with
    | false => rw [if_neg (by decide)]; exact ⟨Z, r1, ow, S1, env, fr1, PostE.from st1 h1⟩
    | true =>
      rw [if_pos rfl]
      obtain ⟨b, e1, q⟩ := h1 _ _ _ st1 fr1 (by rw [Rep])
      cases e1; exact q
  | _ => exact h1.elim
theorem snd_ite (h1 : PT X e1 (rdT L xa W x)) (h2 : PE X e2 (rdE L xa W y)) (h3 : PE X e3 (rdE L xa W z)) : PE X (.IfExp e1 e2 e3 pos) (rdE L xa W (.ite x y z)) := by
  refine PE.imp (L2.pe_ifExp h1 h2 h3) fun s H Q q => ?_
  obtain ⟨Z, r, ow, S, env, fr, q⟩ := q
  simp only [evE] at q
  refine rdT.bind (P := PostE L xa Z r ow H env s _ (fun c d H' => W c d s H')) fr q (fun d S1 h1 v H1 r1 st1 fr1 p1 => ?_) (fun c d S' h => h) id
  cases d with
  | bl i =>
    rw [Rep] at p1
    refine ⟨i, p1, ?_⟩
    cases i with
    | false => rw [if_neg (by decide)]; exact ⟨Z, r1, ow, S1, env, fr1, PostE.from st1 h1⟩
    | true => rw [if_pos rfl]; exact ⟨Z, r1, ow, S1, env, fr1, PostE.from st1 h1⟩
  | _ => exact h1.elim
def partV (x : Ex) (v : V) : Option (Option Int) :=
  if isOut x = true then some none else match v with
    | .int i => some (some i)
    | _ => none
/-- a part of a slice and its reading -/
def rdO (L : Lt) (xa : XA) (W : WX) (x : Ex) : L2.TO := fun s H Q => ∃ Z r ow S env, Fr L.G L.xc xa Z r ow H S env s ∧ PostE L xa Z r ow H env s (fun v H' => ∃ o, partV x v = some o ∧ Q o H') (fun c d H' => W c d s H') (evE L.F x env S)
theorem PO.imp {X : L2.Cx} {e : Option Expr} {t t' : L2.TO} (h : L2.PO X e t) (k : ∀ s H Q, t' s H Q → t s H Q) : L2.PO X e t' := ⟨fun pins s σ H Q I q => h.run pins s σ H Q I (k _ _ _ q)⟩
theorem snd_po_none : L2.PO X none (rdO L xa W (.cst .non)) := by
  refine PO.imp L2.po_none fun s H Q q => ?_
  obtain ⟨Z, r, ow, S, env, fr, q⟩ := q
  simp only [evE] at q
  obtain ⟨o, e, q⟩ := q .non H r .refl fr (by rw [Rep])
  cases e
  exact q
theorem snd_po_some (hx : isOut x = false) (h : PE X e (rdE L xa W x)) : L2.PO X (some e) (rdO L xa W x) := by
  refine PO.imp (L2.po_some h) fun s H Q q => ?_
  obtain ⟨Z, r, ow, S, env, fr, q⟩ := q
  refine ⟨Z, r, ow, S, env, fr, ?_⟩
  cases ee : evE L.F x env S with
  | ok d S' =>
    rw [ee] at q
    intro v H' r' st fr' rp
    obtain ⟨o, e1, q⟩ := q v H' r' st fr' rp
    unfold partV at e1
    rw [hx, if_neg (by decide)] at e1
    cases v <;> simp at e1
    exact ⟨_, rfl, by rw [e1]; exact q⟩
  | exc c d S' => rw [ee] at q; exact q
  | stuck => rw [ee] at q; exact q
theorem rdO.bind {β : Type} {k : D → Sto → Res β} {P : Res β → Prop} {QO : Option Int → Hp → Prop} {Z : Addr → Prop} {r : List Addr} {ow : Nat → Option Addr} {H : Hp} {S : Sto} {env : Env} {s : L2.St} (fr : Fr L.G L.xc xa Z r ow H S env s)
    (hp : P ((evE L.F x env S).bind k)) (hok : ∀ d S', P (k d S') → ∀ v H' r', Stp H r H' r' → Fr L.G L.xc xa Z r' ow H' S' env s → Rep L.G H' (BB Z r' ow) r' d v → ∃ o, partV x v = some o ∧ QO o H')
    (hex : ∀ c d S', P (.exc c d S') → ∀ cls dd H' r', Stp H r H' r' → Fr L.G L.xc xa Z r' ow H' S' env s → ExR L.G L.xc H' (BB Z r' ow) r' c d cls dd → W cls dd s H') (hst : ¬ P .stuck) : rdO L xa W x s H QO := by
  refine ⟨Z, r, ow, S, env, fr, ?_⟩
  cases e : evE L.F x env S with
  | ok d S' => rw [e] at hp; exact hok d S' hp
  | exc c d S' => rw [e] at hp; exact hex c d S' hp
  | stuck => rw [e] at hp; exact hst hp
theorem part_val {H : Hp} {B : Addr → Prop} {r : List Addr} {d : D} {v : V} {o : Option Int} (h : part x d = some o) (rp : Rep L.G H B r d v) : partV x v = some o := by
  unfold part at h
  unfold partV
  split at h
  · rename_i hx
    rw [if_pos hx]; exact h
  · rename_i hx
    rw [if_neg hx]
    cases d <;> simp at h
    rw [Rep] at rp
    subst rp
    simp [h]
theorem snd_slc {lo hi : Option Expr} {p2 : Pos} (hK : X.K = L.G.K) (h1 : PE X e1 (rdR L xa W x)) (h2 : L2.PO X lo (rdO L xa W y)) (h3 : L2.PO X hi (rdO L xa W z)) : PE X (.Subscript e1 (.Slice lo hi none p2) pos) (rdE L xa W (.slc x y z)) := by
  refine PE.imp (L2.pe_slice sl_run h1 h2 h3) fun s H Q q => ?_
  obtain ⟨Z, r, ow, S, env, fr, q⟩ := q
  simp only [evE] at q
  rw [hK]
  refine rdR.bind (P := PostE L xa Z r ow H env s Q (fun c d H' => W c d s H')) fr q (fun d1 S1 h1 v1 H1 r1 st1 fr1 p1 => ?_) (fun c d S' h => h) id
  refine rdO.bind (P := PostE L xa Z r ow H env s Q (fun c d H' => W c d s H')) fr1 h1 (fun d2 S2 h2 v2 H2 r2 st2 fr2 p2 => ?_) (fun c d S' h cls dd H' r' st => h cls dd H' r' (st1.trans st)) id
  cases e2 : part y d2 with
  | none => rw [e2] at h2; exact h2.elim
  | some l =>
    rw [e2] at h2
    refine ⟨l, part_val e2 p2, ?_⟩
    refine rdO.bind (P := PostE L xa Z r ow H env s Q (fun c d H' => W c d s H')) fr2 h2 (fun d3 S3 h3 v3 H3 r3 st3 fr3 p3 => ?_) (fun c d S' h cls dd H' r' st => h cls dd H' r' ((st1.trans st2).trans st)) id
    cases e3 : part z d3 with
    | none => rw [e3] at h3; exact h3.elim
    | some h =>
      rw [e3] at h3
      refine ⟨h, part_val e3 p3, ?_⟩
      cases e4 : slcB d1 l h with
      | none => simp only [e4] at h3; exact h3.elim
      | some d =>
        simp only [e4] at h3
        exact slc_good fr3 (.inl (Pk.step fr2 st3 (Pk.step fr1 st2 p1))) e4 fun v H' r' st' fr' rp => h3 v H' r' (((st1.trans st2).trans st3).trans st') fr' rp
end
end Mi

set_option maxRecDepth 100000
set_option maxHeartbeats 4000000
namespace Mi
open PySem PySem.Spec PyProof.Rows
open L2 (V Hp HO upd upd_same upd_ne Same SqL SqT Rd VK XK WX PE PT PA OpR CallR IxR SlR TE TT TA tOp Dp DpAll)

section
variable {L : Lt} {xa : XA} {X : L2.Cx} {W : WX} {e e0 e1 e2 e3 : Expr} {x y z : Ex} {pos p p1 p2 : Pos}
theorem kd_boot (k : Kd) : bootBuiltins (Str.ofString (kdName k)) = some (.type (kdName k)) := by
  cases k <;> decide +kernel
theorem snd_isi {k : Kd} (hK : X.K = L.G.K) (hg : L2.Gl X "isinstance") (hm : X.mg "isinstance" = none) (hg2 : L2.Gl X (Str.ofString (kdName k))) (hm2 : X.mg (Str.ofString (kdName k)) = none) (h : PE X e (rdR L xa W x))
    (st : ∀ es, starEach (e :: es) X.env = (false, eval e X.env) :: starEach es X.env) : PE X (.Call (.Name "isinstance" p) [e, .Name (Str.ofString (kdName k)) p1] [] pos) (rdE L xa W (.isi x k)) := by
  have hT : PE X (.Name (Str.ofString (kdName k)) p1) (L2.tC (.ty (kdName k))) := L2.pe_bltn hg2 hm2 (kd_boot k) rfl (by cases k <;> decide +kernel) (by cases k <;> decide +kernel)
  refine PE.imp (L2.pe_callB L2.call_isi hg hm (by decide +kernel) (L2.pa_cons h (L2.pa_cons hT L2.pa_nil rfl) (st _)) (by decide) (by decide) (st _) rfl) fun s H Q q => ?_
  obtain ⟨Z, r, ow, S, env, fr, q⟩ := q
  simp only [evE] at q
  rw [hK]
  refine rdR.bind (P := PostE L xa Z r ow H env s Q (fun c d H' => W c d s H')) fr q (fun d1 S1 h1 v1 H1 r1 st1 fr1 p1 => ?_) (fun c d S' h => h) id
  cases e : isK k d1 with
  | none => rw [e] at h1; exact h1.elim
  | some b =>
    rw [e] at h1
    exact isi_good fr1 (.inl p1) e fun v H' r' st' fr' rp => h1 v H' r' (st1.trans st') fr' rp
theorem snd_blt {b : Blt} {es : List Expr} {xs : List Ex} (hK : X.K = L.G.K) (hc : X.calm = true) (hu : X.A.units + 64 < cLine) (hg : L2.Gl X (bltName b)) (hm : X.mg (bltName b) = none) (h : PA X (e :: es) (rdRs L xa W xs))
    (st : ∀ es, starEach (e :: es) X.env = (false, eval e X.env) :: starEach es X.env) (hpl : (backTo pos (starEach es X.env)).any (·.1) = false) : PE X (.Call (.Name (bltName b) p) (e :: es) [] pos) (rdE L xa W (.blt b xs)) := by
  have key : PE X (.Call (.Name (bltName b) p) (e :: es) [] pos) (L2.tCB (bltR L.G b) (rdRs L xa W xs)) := by
    have run := blt_run hK hc hu b
    have bt := blt_boot b
    have hn : bltName b ≠ "__name__" := by cases b <;> decide +kernel
    have hd : (bltName b == ("__debug__" : Str)) = false := by cases b <;> decide +kernel
    cases eb : bltV b with
    | builtin id =>
      rw [eb] at run bt
      exact L2.pe_callB run hg hm bt h hn hd (st _) hpl
    | type T =>
      rw [eb] at run bt
      exact L2.pe_callTy run hg hm bt h hn hd (st _) hpl
    | _ => exact absurd eb (by cases b <;> intro z <;> cases z)
  refine PE.imp key fun s H Q q => ?_
  obtain ⟨Z, r, ow, S, env, fr, q⟩ := q
  simp only [evE] at q
  refine rdRs.bind (P := PostE L xa Z r ow H env s Q (fun c d H' => W c d s H')) fr q (fun ds S1 h1 vs H1 r1 st1 fr1 p1 => ?_) (fun c d S' h => h) id
  cases e : bltB b ds with
  | none => rw [e] at h1; exact h1.elim
  | some d =>
    rw [e] at h1
    exact blt_good fr1 (paired_imp (fun _ _ z => .inl z) p1) e fun v H' r' st' fr' rp => h1 v H' r' (st1.trans st') fr' rp

def constV : D → V
  | .bl b => .bl b
  | .int i => .int i
  | .str s => .str (toStr s)
  | _ => .non
def pickV (vs : List V) : List (Nat ⊕ D) → List V
  | [] => []
  | .inl i :: bs => (vs[i]?).getD .non :: pickV vs bs
  | .inr d :: bs => constV d :: pickV vs bs
def okC : D → Bool
  | .non | .bl _ | .int _ => true
  | .str s => s.all (· < 0x110000)
  | _ => false
theorem rep_const {G : Gd} {H : Hp} {B : Addr → Prop} {r : List Addr} {d : D} (h : okC d = true) : Rep G H B r d (constV d) := by
  cases d <;> simp [okC] at h <;> rw [Rep] <;> simp [constV]
  exact fun c hc => h c hc
theorem reps_pick {G : Gd} {H : Hp} {B : Addr → Prop} {r : List Addr} {ds : List D} {vs : List V} (h : Reps G H B r ds vs) : ∀ {bs : List (Nat ⊕ D)} {ws : List D}, (∀ d, .inr d ∈ bs → okC d = true) → binds ds bs = some ws → Reps G H B r ws (pickV vs bs)
  | [], ws, _, e => by cases e; exact Reps.nil
  | .inl i :: bs, ws, hc, e => by
    simp only [binds] at e
    cases e1 : ds[i]? with
    | none => rw [e1] at e; cases e
    | some d =>
      cases e2 : binds ds bs with
      | none => rw [e1, e2] at e; cases e
      | some rs =>
        rw [e1, e2] at e
        cases e
        obtain ⟨v, e3, p⟩ := h.at e1
        unfold pickV
        rw [e3]
        exact .cons p (reps_pick h (fun d hd => hc d (List.mem_cons_of_mem _ hd)) e2)
  | .inr c :: bs, ws, hc, e => by
    simp only [binds] at e
    obtain ⟨rs, e2, rfl⟩ := Option.map_eq_some_iff.mp e
    unfold pickV
    exact .cons (rep_const (hc c List.mem_cons_self)) (reps_pick h (fun d hd => hc d (List.mem_cons_of_mem _ hd)) e2)

abbrev no : Nat → Option Addr := fun _ => none
/-- what a def promises, by trees -/
def spF (L : Lt) (f : Nat) (n : Nat) : L2.Sp := fun vs H Q E => vs.length = n ∧ ∃ Z r S ds, Fr L.G L.xc none Z r no H S [] [] ∧ Reps L.G H (BB Z r no) r ds vs ∧ PostE L none Z r no H [] [] Q E (L.F.call f ds S)

/-- what the callee sees banned: our own lists too -/
def Zc (Z : Addr → Prop) (ow : Nat → Option Addr) : Addr → Prop := fun a => Z a ∨ ∃ i, ow i = some a
theorem BB_to {Z : Addr → Prop} {r : List Addr} {ow : Nat → Option Addr} {a : Addr} (h : BB (Zc Z ow) r no a) : BB Z r ow a := by
  rcases h with (h | h) | h | ⟨_, h⟩
  · exact .inl h
  · exact .inr (.inr h)
  · exact .inr (.inl h)
  · cases h
theorem BB_of {Z : Addr → Prop} {r : List Addr} {ow : Nat → Option Addr} {a : Addr} (h : BB Z r ow a) : BB (Zc Z ow) r no a := by
  rcases h with h | h | h
  · exact .inl (.inl h)
  · exact .inr (.inl h)
  · exact .inl (.inr h)
theorem Reps.ban {G : Gd} {H : Hp} {B B' : Addr → Prop} {r : List Addr} {ds : List D} {vs : List V} (h : ∀ a, B' a → B a) (k : Reps G H B r ds vs) : Reps G H B' r ds vs :=
  Reps.mono (fun _ _ e _ => e) (fun _ _ e => e) (fun _ _ _ e => e) (fun a z => .inl (h a z)) (fun _ _ e => e) k
theorem Rep.ban {G : Gd} {H : Hp} {B B' : Addr → Prop} {r : List Addr} {d : D} {v : V} (h : ∀ a, B' a → B a) (k : Rep G H B r d v) : Rep G H B' r d v :=
  Rep.mono (fun _ _ e _ => e) (fun _ _ e => e) (fun _ _ _ e => e) (fun a z => .inl (h a z)) (fun _ _ e => e) k
theorem ExR.ban {G : Gd} {xc : Xc} {H : Hp} {B B' : Addr → Prop} {r : List Addr} {c : Nat} {d : D} {cls : Value} {dd : Option Addr} (h : ∀ a, B' a → B a) (k : ExR G xc H B r c d cls dd) : ExR G xc H B' r c d cls dd := by
  obtain ⟨C, e1, e2, k⟩ := k
  refine ⟨C, e1, e2, ?_⟩
  cases e : xc.fld c with
  | none => rw [e] at k; exact k
  | some f =>
    rw [e] at k
    obtain ⟨da, v, h1, h2, h3, h4⟩ := k
    exact ⟨da, v, h1, fun z => h2 (h _ z), h3, Rep.ban h h4⟩
theorem StoR.ban {G : Gd} {H : Hp} {B B' : Addr → Prop} {r : List Addr} {S : Sto} (h : ∀ a, B' a → B a) (k : StoR G H B r S) : StoR G H B' r S :=
  StoR.mono (fun _ _ e _ => e) (fun _ _ e => e) (fun _ _ _ e => e) (fun a z => .inl (h a z)) (fun _ _ _ e => e) k
theorem Fr.base {G : Gd} {xc : Xc} {Z : Addr → Prop} {r : List Addr} {ow : Nat → Option Addr} {H : Hp} {S : Sto} {env : Env} {s : L2.St} (fr : Fr G xc xa Z r ow H S env s) : Fr G xc none (Zc Z ow) r no H S [] [] where
  slot := fun i p e => by simp at e
  out := fun i a e => by cases e
  inj := fun i j a e => by cases e
  dis := fun i a e => by cases e
  zr := fun a ha z => by
    rcases z with z | ⟨i, z⟩
    · exact fr.zr a ha z
    · exact (fr.dis i a z).2 ha
  al := fun a h => fr.al a (BB_to h)
  sto := fr.sto.ban fun a h => BB_to h
  len := rfl
  scr := fr.scr
  scf := fr.scf
theorem pe_callG {CX : L2.CXT} {k n : Nat} {f : Addr} {fd : FuncData} {ps ks : List Str} {sp : L2.Sp} {E : L2.St → XK} {fx : Str} {es : List Expr} {kws : List Keyword} {t tk : TA} {g : List Value → List Value → List Value} {gV : List V → List V → List V}
    (F : L2.FnOk X.prog X.w X.K X.mg X.base CX k f fd ps sp) (hr : L2.Room k X.A) (hg : L2.Gl X fx) (hm : X.mg fx = some (.ref f)) (hk : PySem.W.keepIn X.K (.ref f) = true) (hb : L2.KBn X.K fd ps n ks g gV) (hx : ∀ σ, L2.PassesAt CX X σ (E σ))
    (ha : PA X (e :: es) t) (hkw : L2.PK X kws tk) (hall : (backToKw pos (keywordEach kws X.env)).all (·.1.isSome) = true) (hks : (backToKw pos (keywordEach kws X.env)).filterMap (·.1) = ks)
    (hdb : (fx == ("__debug__" : Str)) = false) (he : starEach (e :: es) X.env = (false, eval e X.env) :: starEach es X.env)
    (hpl : ((backTo pos (starEach (e :: es) X.env)).any (·.1) || (backToKw pos (keywordEach kws X.env)).any (·.1.isNone)) = false) :
    PE X (.Call (.Name fx p) (e :: es) kws pos) (fun σ H Q => t σ H fun vs H1 => tk σ H1 fun zs H2 => vs.length = n ∧ zs.length = ks.length ∧ sp (gV vs zs) H2 Q (E σ)) := by
  refine ⟨fun pins s σ H Q I h => ?_⟩
  refine wpAny_Call_Name_kw (L2.ld_glob I hg hm ?_ hdb)
  refine PySem.W.callWith_KW (h₀ := X.base) I.ok.mod.kin hk hall (L2.thn (ha.run pos pins s σ H _ I h) fun us s1 ⟨vs, H1, I1, r, q⟩ => ?_) hpl he
  refine L2.thn (hkw.run pos pins s1 σ H1 _ I1 q) fun ws s2 ⟨zs, H2, I2, rz, l1, l2, q2⟩ => ⟨I2.kIn, ?_⟩
  rw [hks]
  have r2 := hb.rel r rz
  refine wpAny_call (codeAny_mono (F.run X.A X.stack s2 H2 ⟨us, ks.zip ws⟩ (g us ws) (gV vs zs) Q (E σ) hr I2.env0 (hb.to s2 us ws I2.kIn (r.length.symm.trans l1) (rz.length.symm.trans l2)) r2 q2) fun r s' hq => ?_)
  cases r with
  | error e => exact hx σ pins H2 s2 e s' I2 hq
  | ok fl =>
    cases fl with
    | ret u => exact I2.after hq
    | next => exact False.elim hq
    | brk => exact False.elim hq
    | cont => exact False.elim hq
theorem PK.imp {X : L2.Cx} {e : List Keyword} {t t' : TA} (h : L2.PK X e t) (k : ∀ s H Q, t' s H Q → t s H Q) : L2.PK X e t' := ⟨fun pos pins s σ H Q I q => h.run pos pins s σ H Q I (k _ _ _ q)⟩
theorem snd_ks_nil : L2.PK X [] (rdEs L xa W []) := by
  refine PK.imp L2.pk_nil fun s H Q q => ?_
  obtain ⟨Z, r, ow, S, env, fr, q⟩ := q
  simp only [evEs] at q
  exact q [] H r .refl fr Reps.nil
theorem snd_ks_cons {nm : Option Str} {kpos : Pos} {kws : List Keyword} {xs : List Ex} (h : PE X e (rdE L xa W x)) (hs : L2.PK X kws (rdEs L xa W xs)) : L2.PK X (⟨nm, e, kpos⟩ :: kws) (rdEs L xa W (x :: xs)) := by
  refine PK.imp (L2.pk_cons h hs) fun s H Q q => ?_
  obtain ⟨Z, r, ow, S, env, fr, q⟩ := q
  simp only [evEs] at q
  refine rdE.bind (P := PostEs L xa Z r ow H env s Q (fun c d H' => W c d s H')) fr q (fun d S1 h1 v H1 r1 st1 fr1 p1 => ?_) (fun c d S' h => h) id
  refine rdEs.bind (P := PostEs L xa Z r ow H env s Q (fun c d H' => W c d s H')) fr1 h1 (fun ds S2 h2 vs H2 r2 st2 fr2 p2 => ?_) (fun c d S' h cls dd H' r' st => h cls dd H' r' (st1.trans st)) id
  exact h2 (v :: vs) H2 r2 (st1.trans st2) fr2 (.cons (st2.rep p1) p2)
theorem evEs_len {F : Fns} : ∀ {xs : List Ex} {env : Env} {S S' : Sto} {ds : List D}, evEs F xs env S = .ok ds S' → ds.length = xs.length
  | [], _, _, _, _, h => by simp only [evEs] at h; cases h; rfl
  | x :: xs, env, S, S', ds, h => by
    simp only [evEs] at h
    cases e : evE F x env S with
    | ok d S1 =>
      rw [e] at h
      simp only [Res.bind] at h
      cases e2 : evEs F xs env S1 with
      | ok ds' S2 =>
        rw [e2] at h
        simp only [Res.bind] at h
        cases h
        simp [evEs_len e2]
      | exc c d S1 => rw [e2] at h; cases h
      | stuck => rw [e2] at h; cases h
    | exc c d S1 => rw [e] at h; cases h
    | stuck => rw [e] at h; cases h
/-- a call's shape: the name, which def, how many by place, the keywords, how they come to the parameters -/
structure Shp where
  nm : Str
  f : Nat
  n : Nat
  ks : List Str
  bs : List (Nat ⊕ D)
def CallOk (L : Lt) (X : L2.Cx) (sh : Shp) : Prop := ∃ (ad : Addr) (fd : FuncData) (ps : List Str) (k : Nat) (g : List Value → List Value → List Value),
  L2.FnOk X.prog X.w X.K X.mg X.base (L2.CX X.prog X.w) k ad fd ps (spF L sh.f ps.length) ∧ L2.Room k X.A ∧ X.mg sh.nm = some (.ref ad) ∧ PySem.W.keepIn X.K (.ref ad) = true ∧
    L2.KBn X.K fd ps sh.n sh.ks g (fun vs zs => pickV (vs ++ zs) sh.bs) ∧ (∀ d, .inr d ∈ sh.bs → okC d = true) ∧ sh.bs.length = ps.length
theorem pickV_len (vs : List V) : ∀ bs : List (Nat ⊕ D), (pickV vs bs).length = bs.length
  | [] => rfl
  | .inl _ :: bs => by simp [pickV, pickV_len vs bs]
  | .inr _ :: bs => by simp [pickV, pickV_len vs bs]
theorem PostE.call {Z : Addr → Prop} {r r2 : List Addr} {ow : Nat → Option Addr} {H H2 : Hp} {S2 : Sto} {env : Env} {s : L2.St} {Q : VK} {E : XK} (fr2 : Fr L.G L.xc xa Z r2 ow H2 S2 env s) (st : Stp H r H2 r2) :
    ∀ {R : Res D}, PostE L xa Z r ow H env s Q E R → PostE L none (Zc Z ow) r2 no H2 [] [] Q E R
  | .ok d S', h => fun v H' r' st' fr' rp => h v H' r' (st.trans st') (fr2.step st' (fr'.sto.ban fun a z => BB_of z)) (Rep.ban (fun a z => BB_of z) rp)
  | .exc c d S', h => fun cls dd H' r' st' fr' ex => h cls dd H' r' (st.trans st') (fr2.step st' (fr'.sto.ban fun a z => BB_of z)) (ExR.ban (fun a z => BB_of z) ex)
  | .stuck, h => h
theorem snd_call {sh : Shp} {es : List Expr} {kws : List Keyword} {xs zs : List Ex} (tk : L2.Takes X W) (ok : CallOk L X sh) (hg : L2.Gl X sh.nm) (hdb : (sh.nm == ("__debug__" : Str)) = false) (ha : PA X (e :: es) (rdEs L xa W xs)) (hk : L2.PK X kws (rdEs L xa W zs))
    (hn : xs.length = sh.n) (hz : zs.length = sh.ks.length)
    (hall : (backToKw pos (keywordEach kws X.env)).all (·.1.isSome) = true) (hks : (backToKw pos (keywordEach kws X.env)).filterMap (·.1) = sh.ks) (he : starEach (e :: es) X.env = (false, eval e X.env) :: starEach es X.env)
    (hpl : ((backTo pos (starEach (e :: es) X.env)).any (·.1) || (backToKw pos (keywordEach kws X.env)).any (·.1.isNone)) = false) :
    PE X (.Call (.Name sh.nm p) (e :: es) kws pos) (rdE L xa W (.call sh.f xs zs sh.bs)) := by
  obtain ⟨ad, fd, ps, k, g, F, hr, hm, hkp, hb, hc, hl⟩ := ok
  refine PE.imp (pe_callG F hr hg hm hkp hb (fun σ => L2.passAt tk σ) ha hk hall hks hdb he hpl) fun s H Q q => ?_
  obtain ⟨Z, r, ow, S, env, fr, q⟩ := q
  simp only [evE] at q
  cases ee : evEs L.F xs env S with
  | stuck => rw [ee] at q; exact q.elim
  | exc c d S1 =>
    rw [ee] at q
    refine ⟨Z, r, ow, S, env, fr, ?_⟩
    rw [ee]; exact q
  | ok ds S1 =>
    rw [ee] at q
    refine ⟨Z, r, ow, S, env, fr, ?_⟩
    rw [ee]
    intro vs H1 r1 st1 fr1 p1
    simp only [Res.bind] at q
    cases e2 : evEs L.F zs env S1 with
    | stuck => rw [e2] at q; exact q.elim
    | exc c d S2 =>
      rw [e2] at q
      refine ⟨Z, r1, ow, S1, env, fr1, ?_⟩
      rw [e2]
      exact fun cls dd H' r' st => q cls dd H' r' (st1.trans st)
    | ok us S2 =>
      rw [e2] at q
      refine ⟨Z, r1, ow, S1, env, fr1, ?_⟩
      rw [e2]
      intro ws H2 r2 st2 fr2 p2
      simp only at q
      have hr2 : Reps L.G H2 (BB Z r2 ow) r2 (ds ++ us) (vs ++ ws) := (st2.reps p1).append p2
      refine ⟨by rw [p1.len, evEs_len ee, hn], by rw [p2.len, evEs_len e2, hz], by rw [pickV_len, hl], ?_⟩
      cases e3 : binds (ds ++ us) sh.bs with
      | none => rw [e3] at q; exact q.elim
      | some rs =>
        rw [e3] at q
        exact ⟨Zc Z ow, r2, S2, rs, fr2.base, (reps_pick hr2 hc e3).ban fun a z => BB_to z, PostE.call fr2 (st1.trans st2) q⟩

def spDr (L : Lt) : L2.Sp := fun vs H Q _ => ∃ k m : Int, vs = [.ref L.G.sc, .int k, .int m] ∧ SqL L.G.K H L.G.sc (L.G.ns.map V.int) ∧ 0 ≤ k ∧ k < 1000000 ∧ 0 < m ∧ m ≤ 1073741824 ∧ ∀ p, H p = none → Q (.int (L.F.dr k m)) (upd H p (.lst []))
def DrawOk (L : Lt) (X : L2.Cx) : Prop := ∃ (ad : Addr) (fd : FuncData) (ps : List Str) (k : Nat),
  L2.FnOk X.prog X.w X.K X.mg X.base (L2.CX X.prog X.w) k ad fd ps (spDr L) ∧ L2.Room k X.A ∧ X.mg "_law_drawn" = some (.ref ad) ∧ PySem.W.keepIn X.K (.ref ad) = true ∧ L2.Binds X.K fd ps []
theorem snd_drawn {i : Nat} {n : Str} (hN : X.N[i]? = some n) (hv : L2.Vis X.env.scope n) (hd : (n == ("__debug__" : Str)) = false) (hcd : (n == ("__classdict__" : Str)) = false) (tk : L2.Takes X W) (ok : DrawOk L X) (hg : L2.Gl X "_law_drawn") (h1 : PE X e1 (rdE L xa W x)) (h2 : PE X e2 (rdE L xa W y))
    (s1 : ∀ es, starEach (e1 :: es) X.env = (false, eval e1 X.env) :: starEach es X.env) (s2 : ∀ es, starEach (e2 :: es) X.env = (false, eval e2 X.env) :: starEach es X.env) :
    PE X (.Call (.Name "_law_drawn" p) [.Name n p1, e1, e2] [] pos) (rdE L xa W (.drawn i x y)) := by
  obtain ⟨ad, fd, ps, k, F, hr, hm, hkp, hb⟩ := ok
  have h0 : PE X (.Name n p1) (L2.tVar i) := L2.pe_var hN hv hd hcd
  refine PE.imp (L2.pe_callS F hr hg hm hkp hb (fun σ => L2.passAt tk σ) (L2.pa_cons h0 (L2.pa_cons h1 (L2.pa_cons h2 L2.pa_nil (s2 _)) (s1 _)) rfl) (by decide) rfl (by rw [s1, s2]; rfl)) fun s H Q q => ?_
  obtain ⟨Z, r, ow, S, env, fr, q⟩ := q
  simp only [evE] at q
  cases ee : env[i]? with
  | none => rw [ee] at q; exact q.elim
  | some pl =>
    rw [ee] at q
    have hs := fr.slot i pl ee
    cases pl with
    | un => exact q.elim
    | own xs => exact q.elim
    | exn c d => exact q.elim
    | fz d =>
      cases d <;> try exact q.elim
      obtain ⟨_, v, ev, rp⟩ := hs
      rw [Rep] at rp
      subst rp
      refine ⟨_, ev, ?_⟩
      refine rdE.bind (P := PostE L xa Z r ow H env s Q (fun c d H' => W c d s H')) fr q (fun d1 S1 h1 v1 H1 r1 st1 fr1 p1 => ?_) (fun c d S' h => h) id
      refine rdE.bind (P := PostE L xa Z r ow H env s Q (fun c d H' => W c d s H')) fr1 h1 (fun d2 S2 h2 v2 H2 r2 st2 fr2 p2 => ?_) (fun c d S' h cls dd H' r' st => h cls dd H' r' (st1.trans st)) id
      cases d1 <;> try exact h2.elim
      cases d2 <;> try exact h2.elim
      rename_i a b
      simp only at h2
      split at h2
      · rename_i hc
        rw [Rep] at p1 p2
        subst p1
        subst p2
        exact ⟨a, b, rfl, fr2.scr, hc.1, hc.2.1, hc.2.2.1, hc.2.2.2, fun p hp => h2 _ _ _ ((st1.trans st2).trans (.laid hp)) (fr2.step (.laid hp) (fr2.sto.laid hp)) (by rw [Rep])⟩
      · exact h2.elim
end
end Mi

set_option maxRecDepth 100000
set_option maxHeartbeats 4000000
namespace Mi
open PySem PySem.Spec PyProof.Rows
open L2 (V Hp HO upd upd_same upd_ne Same SqL SqT Rd VK XK WX PE PT PA OpR CallR IxR SlR TE TT TA tOp Dp DpAll PI TI)

/-- the iterator J gives xs one by one, while P stands: lists at As; the trees ds stand behind the values ws -/
structure Src (G : Gd) (J : L2.It) (xs : List D) (P : Hp → Prop) (As : List Addr) (ds : List D) (ws : List V) : Prop where
  go : ∀ i H, P H → i < xs.length → J.go i H
  stop : ∀ i H, P H → xs.length ≤ i → J.stop i H
  yld : ∀ (i : Nat) H x H' d, P H → xs[i]? = some d → J.yld i H x H' → (H' = H ∨ ∃ T o, H T = none ∧ H' = upd H T (.tup o)) ∧ ∀ B r, Reps G H B r ds ws → Rep G H' B r d x
  stab : ∀ H H', P H → (∀ a ∈ As, H' a = H a) → (∀ a xs, H a = some (.tup xs) → H' a = some (.tup xs)) → (∀ a o u, H a = some (.frz o u) → H' a = some (.frz o u)) → P H'

def PostI (L : Lt) (xa : XA) (pk : Bool) (Z : Addr → Prop) (r : List Addr) (ow : Nat → Option Addr) (H : Hp) (env : Env) (s : L2.St) (R : L2.It → Hp → Prop) (E : XK) : Res D → Prop
  | .ok d S' => ∃ xs, itB d = some xs ∧ ∀ J H' r' P As ds ws, Stp H r H' r' → Fr L.G L.xc xa Z r' ow H' S' env s → Src L.G J xs P As ds ws → P H' → Reps L.G H' (BB Z r' ow) r' ds ws →
      (∀ a ∈ As, (∃ o, H' a = some o) ∧ a ∉ r' ∧ (pk = false → ¬ BB Z r' ow a)) → R J H'
  | .exc c d S' => ∀ cls dd H' r', Stp H r H' r' → Fr L.G L.xc xa Z r' ow H' S' env s → ExR L.G L.xc H' (BB Z r' ow) r' c d cls dd → E cls dd H'
  | .stuck => False
def evP (L : Lt) (pk : Bool) (x : Ex) (env : Env) (S : Sto) : Res D := if pk = true then rd x env S (evE L.F x env S) else if noOwnIt x env = true then evE L.F x env S else .stuck
def rdI (L : Lt) (xa : XA) (W : WX) (pk : Bool) (x : Ex) : TI := fun s H R => ∃ Z r ow S env, Fr L.G L.xc xa Z r ow H S env s ∧ PostI L xa pk Z r ow H env s R (fun c d H' => W c d s H') (evP L pk x env S)
theorem PI.imp {X : L2.Cx} {tg e : Expr} {t t' : TI} (h : PI X tg e t) (k : ∀ s H R, t' s H R → t s H R) : PI X tg e t' := ⟨fun pins s σ H R I q => h.run pins s σ H R I (k _ _ _ q)⟩

section
variable {G : Gd} {H : Hp} {B : Addr → Prop} {r : List Addr}
theorem frz_lst {K : PySem.W.Frag} {a : Addr} {vs ws : List V} (h : H a = some (.lst vs)) (k : Rd H a (.lst ws)) : ws = vs := by
  rcases k with k | ⟨o, k⟩
  · rw [h] at k; cases k; rfl
  · rw [h] at k; cases k
/-- a list at a -/
theorem src_list {a : Addr} {vs : List V} {ds : List D} (hl : vs.length = ds.length) : Src G (L2.Itl G.K a) ds (fun H => H a = some (.lst vs)) [a] ds vs where
  go := fun i H h hi => ⟨vs, vs[i]'(by omega), .of h, List.getElem?_eq_getElem (by omega)⟩
  stop := fun i H h hi => ⟨vs, .of h, by omega⟩
  yld := fun i H x H' d h e y => by
    obtain ⟨rfl, y⟩ := y
    refine ⟨.inl rfl, fun B r q => ?_⟩
    obtain ⟨v, e1, p⟩ := q.at e
    have := y vs (.of h)
    rw [e1] at this
    cases this
    exact p
  stab := fun H H' h k _ _ => by rw [k a (by simp)]; exact h
theorem src_tup {a : Addr} {vs : List V} {ds : List D} (hl : vs.length = ds.length) : Src G (L2.Itt G.K a) ds (fun H => SqT G.K H a vs) [] ds vs where
  go := fun i H h hi => ⟨vs, vs[i]'(by omega), h, List.getElem?_eq_getElem (by omega)⟩
  stop := fun i H h hi => ⟨vs, h, by omega⟩
  yld := fun i H x H' d h e y => by
    obtain ⟨rfl, y⟩ := y
    refine ⟨.inl rfl, fun B r q => ?_⟩
    obtain ⟨v, e1, p⟩ := q.at e
    have := y vs h
    rw [e1] at this
    cases this
    exact p
  stab := fun H H' h _ t f => SqT.kp t f h
theorem src_str {z : List Nat} (ho : okStr z) : Src G (L2.Its (toStr z)) (z.map fun c => D.str [c]) (fun _ => True) [] [] [] where
  go := fun i H _ hi => by
    show i < z.toArray.size
    simpa using hi
  stop := fun i H _ hi => by
    show z.toArray.size ≤ i
    simpa using hi
  yld := fun i H x H' d _ e y => by
    obtain ⟨rfl, c, hc, rfl⟩ := y
    refine ⟨.inl rfl, fun B r q => ?_⟩
    have hc' : z[i]? = some c := by simpa [toStr] using hc
    rw [List.getElem?_map, hc'] at e
    cases e
    rw [Rep]
    exact ⟨rfl, fun k hk => by rw [List.mem_singleton.mp hk]; exact ho c (List.mem_of_getElem? hc')⟩
  stab := fun _ _ _ _ _ _ => trivial
theorem src_rng {lo : Int} {n : Nat} : Src G (L2.Itr lo n) (rangeL lo n) (fun _ => True) [] [] [] where
  go := fun i H _ hi => by
    show i < n
    simpa [rangeL] using hi
  stop := fun i H _ hi => by
    show n ≤ i
    simpa [rangeL] using hi
  yld := fun i H x H' d _ e y => by
    obtain ⟨rfl, rfl⟩ := y
    refine ⟨.inl rfl, fun B r q => ?_⟩
    have hi : i < n := by
      have := (List.getElem?_eq_some_iff.mp e).1
      simpa [rangeL] using this
    have : (rangeL lo n)[i]? = some (.int (lo + (i : Int))) := by
      unfold rangeL
      rw [List.getElem?_map, List.getElem?_range hi]
      rfl
    rw [this] at e
    cases e
    rw [Rep]
  stab := fun _ _ _ _ _ _ => trivial
theorem src_rngD {lo : Int} {n : Nat} : Src G (L2.Itc lo (-1) n) (rangeD lo n) (fun _ => True) [] [] [] where
  go := fun i H _ hi => by
    show i < n
    simpa [rangeD] using hi
  stop := fun i H _ hi => by
    show n ≤ i
    simpa [rangeD] using hi
  yld := fun i H x H' d _ e y => by
    obtain ⟨rfl, rfl⟩ := y
    refine ⟨.inl rfl, fun B r q => ?_⟩
    have hi : i < n := by
      have := (List.getElem?_eq_some_iff.mp e).1
      simpa [rangeD] using this
    have : (rangeD lo n)[i]? = some (.int (lo - (i : Int))) := by
      unfold rangeD
      rw [List.getElem?_map, List.getElem?_range hi]
      rfl
    rw [this] at e
    cases e
    rw [Rep]
    congr 1
    omega
  stab := fun _ _ _ _ _ _ => trivial
theorem Reps.split : ∀ {ds es : List D} {vs ws : List V}, vs.length = ds.length → Reps G H B r (ds ++ es) (vs ++ ws) → Reps G H B r ds vs ∧ Reps G H B r es ws
  | [], es, [], ws, _, h => ⟨Reps.nil, h⟩
  | [], _, _ :: _, _, hl, _ => by simp at hl
  | _ :: _, _, [], _, hl, _ => by simp at hl
  | d :: ds, es, v :: vs, ws, hl, h => by
    rw [List.cons_append, List.cons_append, Reps] at h
    obtain ⟨v', ws', e, p, q⟩ := h
    cases e
    obtain ⟨a, b⟩ := Reps.split (by simpa using hl) q
    exact ⟨.cons p a, b⟩
theorem rep_pair {H0 : Hp} {T : Addr} {x y : V} {d e : D} (hT : H0 T = none) (h1 : Rep G H0 B r d x) (h2 : Rep G H0 B r e y) : Rep G (upd H0 T (.tup [x, y])) B r (.tup [d, e]) (.ref T) := by
  have m : ∀ {d : D} {v : V}, Rep G H0 B r d v → Rep G (upd H0 T (.tup [x, y])) B r d v := fun h => by
    refine Rep.mono (fun a o q _ => ?_) (fun a xs q => ?_) (fun a o u q => ?_) (fun a z => .inl z) (fun _ _ q => q) h
    · rw [upd_ne (L2.ne_of_none q hT)]; exact q
    · rw [upd_ne (L2.ne_of_none q hT)]; exact q
    · rw [upd_ne (L2.ne_of_none q hT)]; exact q
  rw [Rep]
  exact ⟨T, [x, y], rfl, .of upd_same, .cons (m h1) (.cons (m h2) Reps.nil)⟩
theorem zip_len {ds es : List D} : (List.zipWith (fun x y => D.tup [x, y]) ds es).length = min ds.length es.length := by simp
theorem src_zipL {a b : Addr} {vs ws : List V} {ds es : List D} (h1 : vs.length = ds.length) (h2 : ws.length = es.length) :
    Src G (L2.Itz G.K a b) (List.zipWith (fun x y => D.tup [x, y]) ds es) (fun H => H a = some (.lst vs) ∧ H b = some (.lst ws)) [a, b] (ds ++ es) (vs ++ ws) where
  go := fun i H h hi => by
    rw [zip_len] at hi
    exact ⟨vs, ws, vs[i]'(by omega), ws[i]'(by omega), .of h.1, .of h.2, List.getElem?_eq_getElem (by omega), List.getElem?_eq_getElem (by omega)⟩
  stop := fun i H h hi => by
    rw [zip_len] at hi
    exact ⟨vs, ws, .of h.1, .of h.2, by omega⟩
  yld := fun i H x H' d h e y => by
    obtain ⟨T, x1, x2, rfl, hT, rfl, y1, y2⟩ := y
    refine ⟨.inr ⟨T, _, hT, rfl⟩, fun B r q => ?_⟩
    obtain ⟨q1, q2⟩ := Reps.split h1 q
    rw [List.getElem?_zipWith] at e
    cases e1 : ds[i]? with
    | none => rw [e1] at e; cases e
    | some d1 =>
      cases e2 : es[i]? with
      | none => rw [e1, e2] at e; cases e
      | some d2 =>
        rw [e1, e2] at e
        cases e
        obtain ⟨v1, f1, p1⟩ := q1.at e1
        obtain ⟨v2, f2, p2⟩ := q2.at e2
        have z1 := y1 vs (.of h.1)
        have z2 := y2 ws (.of h.2)
        rw [f1] at z1
        rw [f2] at z2
        cases z1
        cases z2
        exact rep_pair hT p1 p2
  stab := fun H H' h k _ _ => by rw [k a (by simp), k b (by simp)]; exact h
theorem src_zipT {a b : Addr} {vs ws : List V} {ds es : List D} (h1 : vs.length = ds.length) (h2 : ws.length = es.length) :
    Src G (RZ.ItzT G.K a b) (List.zipWith (fun x y => D.tup [x, y]) ds es) (fun H => SqT G.K H a vs ∧ SqT G.K H b ws) [] (ds ++ es) (vs ++ ws) where
  go := fun i H h hi => by
    rw [zip_len] at hi
    exact ⟨vs, ws, vs[i]'(by omega), ws[i]'(by omega), h.1, h.2, List.getElem?_eq_getElem (by omega), List.getElem?_eq_getElem (by omega)⟩
  stop := fun i H h hi => by
    rw [zip_len] at hi
    exact ⟨vs, ws, h.1, h.2, by omega⟩
  yld := fun i H x H' d h e y => by
    obtain ⟨T, x1, x2, rfl, hT, rfl, y1, y2⟩ := y
    refine ⟨.inr ⟨T, _, hT, rfl⟩, fun B r q => ?_⟩
    obtain ⟨q1, q2⟩ := Reps.split h1 q
    rw [List.getElem?_zipWith] at e
    cases e1 : ds[i]? with
    | none => rw [e1] at e; cases e
    | some d1 =>
      cases e2 : es[i]? with
      | none => rw [e1, e2] at e; cases e
      | some d2 =>
        rw [e1, e2] at e
        cases e
        obtain ⟨v1, f1, p1⟩ := q1.at e1
        obtain ⟨v2, f2, p2⟩ := q2.at e2
        have z1 := y1 vs h.1
        have z2 := y2 ws h.2
        rw [f1] at z1
        rw [f2] at z2
        cases z1
        cases z2
        exact rep_pair hT p1 p2
  stab := fun H H' h _ t f => ⟨SqT.kp t f h.1, SqT.kp t f h.2⟩
theorem enumL_at : ∀ (ds : List D) (k i : Nat), (enumL k ds)[i]? = (ds[i]?).map fun d => D.tup [.int ((k + i : Nat) : Int), d]
  | [], _, _ => by simp [enumL]
  | d :: ds, k, 0 => by simp [enumL]
  | d :: ds, k, i + 1 => by
    simp only [enumL, List.getElem?_cons_succ]
    rw [enumL_at ds (k + 1) i]
    congr 1
    funext d
    congr 4
    omega
theorem enumL_len : ∀ (ds : List D) (k : Nat), (enumL k ds).length = ds.length
  | [], _ => rfl
  | d :: ds, k => by simp [enumL, enumL_len ds]
theorem src_enm {a : Addr} {vs : List V} {ds : List D} (h1 : vs.length = ds.length) : Src G (L2.Ite G.K a) (enumL 0 ds) (fun H => H a = some (.lst vs)) [a] ds vs where
  go := fun i H h hi => by
    rw [enumL_len] at hi
    exact ⟨vs, vs[i]'(by omega), .of h, List.getElem?_eq_getElem (by omega)⟩
  stop := fun i H h hi => by
    rw [enumL_len] at hi
    exact ⟨vs, .of h, by omega⟩
  yld := fun i H x H' d h e y => by
    obtain ⟨T, x1, rfl, hT, rfl, y1⟩ := y
    refine ⟨.inr ⟨T, _, hT, rfl⟩, fun B r q => ?_⟩
    rw [enumL_at] at e
    obtain ⟨d1, e1, rfl⟩ := Option.map_eq_some_iff.mp e
    obtain ⟨v1, f1, p1⟩ := q.at e1
    have z1 := y1 vs (.of h)
    rw [f1] at z1
    cases z1
    exact rep_pair hT (by rw [Rep, Nat.zero_add]) p1
  stab := fun H H' h k _ _ => by rw [k a (by simp)]; exact h
theorem src_enmT {a : Addr} {vs : List V} {ds : List D} (h1 : vs.length = ds.length) : Src G (K1.IteT G.K a) (enumL 0 ds) (fun H => SqT G.K H a vs) [] ds vs where
  go := fun i H h hi => by
    rw [enumL_len] at hi
    exact ⟨vs, vs[i]'(by omega), h, List.getElem?_eq_getElem (by omega)⟩
  stop := fun i H h hi => by
    rw [enumL_len] at hi
    exact ⟨vs, h, by omega⟩
  yld := fun i H x H' d h e y => by
    obtain ⟨T, x1, rfl, hT, rfl, y1⟩ := y
    refine ⟨.inr ⟨T, _, hT, rfl⟩, fun B r q => ?_⟩
    rw [enumL_at] at e
    obtain ⟨d1, e1, rfl⟩ := Option.map_eq_some_iff.mp e
    obtain ⟨v1, f1, p1⟩ := q.at e1
    have z1 := y1 vs h
    rw [f1] at z1
    cases z1
    exact rep_pair hT (by rw [Rep, Nat.zero_add]) p1
  stab := fun H H' h _ t f => SqT.kp t f h
end

section
variable {L : Lt} {xa : XA} {X : L2.Cx} {W : WX} {tg e e1 e2 e3 : Expr} {x y z : Ex} {pos p p1 p2 : Pos} {pk : Bool}
/-- a list, a tuple or a text, as it comes -/
def iAny (K : PySem.W.Frag) (tl : TE) : TI := fun σ H R => tl σ H fun x H1 => (∃ a, x = .ref a ∧ (∃ xs, SqL K H1 a xs) ∧ R (L2.Itl K a) H1) ∨ (∃ a, x = .ref a ∧ (∃ xs, SqT K H1 a xs) ∧ R (L2.Itt K a) H1) ∨ ∃ z, x = .str z ∧ R (L2.Its z) H1
theorem pi_any {l : Expr} {tl : TE} (hl : PE X l tl) : PI X tg l (iAny X.K tl) := by
  refine ⟨fun pins s σ H R I h => ?_⟩
  refine L2.thn (hl.run pins s σ H _ I h) fun v s1 ⟨x, H1, I1, r1, q1⟩ => ?_
  rcases q1 with ⟨a, rfl, ⟨xs, hq⟩, q⟩ | ⟨a, rfl, ⟨xs, hq⟩, q⟩ | ⟨z, rfl, q⟩
  · cases r1
    obtain ⟨its, rv, p, hz⟩ := I1.list hq
    refine wpAny_pyIter_list p.isList ?_
    exact L2.pi_one (tk := s1.toks) I1 _ (L2.turn_list a _) ⟨_, Heap.get?_push_size _ rfl, rfl, rfl⟩ q
  · cases r1
    obtain ⟨its, rv, p, hz⟩ := I1.tuple hq
    refine wpAny_pyIter_tuple (show s1.heap.IsTuple a its.toArray from p) ?_
    exact L2.pi_one (tk := s1.toks) I1 _ (L2.turn_tuple a _) ⟨_, Heap.get?_push_size _ rfl, rfl, rfl⟩ q
  · obtain ⟨t, rfl⟩ := r1
    cases ha : z.cps.all (· < 128)
    · exact wpAny_pyIter_wide ha (L2.pi_one (tk := s1.toks) I1 _ (L2.turn_str _ z t "str_iterator" (.inr rfl)) ⟨_, Heap.get?_push_size _ rfl, rfl, rfl⟩ q)
    · exact wpAny_pyIter_ascii ha (L2.pi_one (tk := s1.toks) I1 _ (L2.turn_str _ z t "str_ascii_iterator" (.inl rfl)) ⟨_, Heap.get?_push_size _ rfl, rfl, rfl⟩ q)
theorem any_ok (hK : X.K = L.G.K) {Z : Addr → Prop} {r r' : List Addr} {ow : Nat → Option Addr} {H H' : Hp} {S' : Sto} {env : Env} {s : L2.St} {R : L2.It → Hp → Prop} {E : XK} {d : D} {v : V} (st : Stp H r H' r') (fr : Fr L.G L.xc xa Z r' ow H' S' env s)
    (p : Pk L.G Z r' ow H' d v) (hp : pk = false → Rep L.G H' (BB Z r' ow) r' d v) (q : PostI L xa pk Z r ow H env s R E (.ok d S')) :
    (∃ a, v = .ref a ∧ (∃ xs, SqL X.K H' a xs) ∧ R (L2.Itl X.K a) H') ∨ (∃ a, v = .ref a ∧ (∃ xs, SqT X.K H' a xs) ∧ R (L2.Itt X.K a) H') ∨ ∃ z, v = .str z ∧ R (L2.Its z) H' := by
  rw [hK]
  obtain ⟨xs, e, q⟩ := q
  cases d <;> simp only [itB] at e <;> (try (cases e; done))
  case str z =>
    cases e
    exact .inr (.inr ⟨_, p.str.1, q _ _ _ _ [] [] [] st fr (src_str p.str.2) trivial Reps.nil (by simp)⟩)
  case tup ds =>
    cases e
    obtain ⟨a, vs, e1, h1, q1⟩ := p.tup
    exact .inr (.inl ⟨a, e1, ⟨vs, h1⟩, q _ _ _ _ [] _ _ st fr (src_tup q1.len) h1 q1 (by simp)⟩)
  case lst ds =>
    cases e
    obtain ⟨a, vs, e1, h1, q1⟩ := p.lst
    refine .inl ⟨a, e1, ⟨vs, .of h1⟩, q _ _ _ _ [a] _ _ st fr (src_list q1.len) h1 q1 fun b hb => ?_⟩
    rw [List.mem_singleton.mp hb]
    refine ⟨⟨_, h1⟩, ?_, fun hpk => ?_⟩
    · rcases p with p | ⟨i, a', _, _, ho, _, ev, _⟩
      · rw [Rep] at p
        obtain ⟨a2, vs2, ev, nb, _⟩ := p
        rw [e1] at ev; cases ev
        exact fun z => nb (.inr (.inl z))
      · rw [e1] at ev; cases ev
        exact (fr.dis i a ho).2
    · have := hp hpk
      rw [Rep] at this
      obtain ⟨a2, vs2, ev, nb, _⟩ := this
      rw [e1] at ev; cases ev
      exact nb
theorem snd_pi_pk (hK : X.K = L.G.K) (h : PE X e (rdR L xa W x)) : PI X tg e (rdI L xa W true x) := by
  refine PI.imp (pi_any h) fun s H R q => ?_
  obtain ⟨Z, r, ow, S, env, fr, q⟩ := q
  refine ⟨Z, r, ow, S, env, fr, ?_⟩
  unfold evP at q
  rw [if_pos rfl] at q
  cases ee : rd x env S (evE L.F x env S) with
  | ok d S' => rw [ee] at q; exact fun v H' r' st fr' pk => any_ok hK st fr' pk (fun z => by cases z) q
  | exc c d S' => rw [ee] at q; exact q
  | stuck => rw [ee] at q; exact q
theorem snd_pi_ev (hK : X.K = L.G.K) (h : PE X e (rdE L xa W x)) : PI X tg e (rdI L xa W false x) := by
  refine PI.imp (pi_any h) fun s H R q => ?_
  obtain ⟨Z, r, ow, S, env, fr, q⟩ := q
  refine ⟨Z, r, ow, S, env, fr, ?_⟩
  unfold evP at q
  rw [if_neg (by decide)] at q
  split at q
  case isFalse => exact q.elim
  cases ee : evE L.F x env S with
  | ok d S' => rw [ee] at q; exact fun v H' r' st fr' rp => any_ok hK st fr' (.inl rp) (fun _ => rp) q
  | exc c d S' => rw [ee] at q; exact q
  | stuck => rw [ee] at q; exact q
end
end Mi

set_option maxRecDepth 100000
set_option maxHeartbeats 4000000
namespace Mi
open PySem PySem.Spec PyProof.Rows
open L2 (V Hp HO upd upd_same upd_ne Same SqL SqT Rd VK XK WX PE PT PA OpR CallR IxR SlR TE TT TA tOp Dp DpAll PI TI PG PGs TG TGs)

section
variable {L : Lt} {xa : XA} {X : L2.Cx} {W : WX} {tg e e1 e2 e3 : Expr} {x y z : Ex} {pos p p1 p2 : Pos} {pk : Bool}
theorem evP_rng {xs : List Ex} {env : Env} {S : Sto} : evP L pk (.rng xs) env S = (evEs L.F xs env S).bind fun ds S => .of ((rngB ds).map .lst) S := by
  unfold evP
  split <;> simp only [rd, evE, noOwnIt, if_true]
/-- several values, then the walk -/
theorem rdEs.walk {xs : List Ex} {k : List D → Sto → Res D} {R : L2.It → Hp → Prop} {QA : List V → Hp → Prop} {Z : Addr → Prop} {r : List Addr} {ow : Nat → Option Addr} {H : Hp} {S : Sto} {env : Env} {s : L2.St} (fr : Fr L.G L.xc xa Z r ow H S env s)
    (q : PostI L xa pk Z r ow H env s R (fun c d H' => W c d s H') ((evEs L.F xs env S).bind k))
    (hok : ∀ ds S', ds.length = xs.length → PostI L xa pk Z r ow H env s R (fun c d H' => W c d s H') (k ds S') → ∀ vs H' r', Stp H r H' r' → Fr L.G L.xc xa Z r' ow H' S' env s → Reps L.G H' (BB Z r' ow) r' ds vs → QA vs H') : rdEs L xa W xs s H QA := by
  refine ⟨Z, r, ow, S, env, fr, ?_⟩
  cases e : evEs L.F xs env S with
  | ok d S' => rw [e] at q; exact hok d S' (evEs_len e) q
  | exc c d S' => rw [e] at q; exact q
  | stuck => rw [e] at q; exact q
theorem rdRs.walk {xs : List Ex} {k : List D → Sto → Res D} {R : L2.It → Hp → Prop} {QA : List V → Hp → Prop} {Z : Addr → Prop} {r : List Addr} {ow : Nat → Option Addr} {H : Hp} {S : Sto} {env : Env} {s : L2.St} (fr : Fr L.G L.xc xa Z r ow H S env s)
    (q : PostI L xa pk Z r ow H env s R (fun c d H' => W c d s H') ((evRs L.F xs env S).bind k))
    (hok : ∀ ds S', PostI L xa pk Z r ow H env s R (fun c d H' => W c d s H') (k ds S') → ∀ vs H' r', Stp H r H' r' → Fr L.G L.xc xa Z r' ow H' S' env s → Paired (Pk L.G Z r' ow H') ds vs → QA vs H') : rdRs L xa W xs s H QA := by
  refine ⟨Z, r, ow, S, env, fr, ?_⟩
  cases e : evRs L.F xs env S with
  | ok d S' => rw [e] at q; exact hok d S' q
  | exc c d S' => rw [e] at q; exact q
  | stuck => rw [e] at q; exact q
theorem rng1 {ds ys : List D} (hl : ds.length = 1) (h : rngB ds = some ys) : ∃ hi, ds = [.int hi] ∧ (-big ≤ hi ∧ hi < big) ∧ ys = rangeL 0 hi.toNat := by
  match ds, hl with
  | [d], _ =>
    cases d <;> simp only [rngB] at h <;> (try (cases h; done))
    split at h
    · rename_i hb
      cases h
      exact ⟨_, rfl, hb, rfl⟩
    · cases h
theorem rng2 {ds ys : List D} (hl : ds.length = 2) (h : rngB ds = some ys) : ∃ lo hi, ds = [.int lo, .int hi] ∧ (-big ≤ lo ∧ lo < big ∧ -big ≤ hi ∧ hi < big) ∧ ys = rangeL lo (hi - lo).toNat := by
  match ds, hl with
  | [d, e], _ =>
    cases d <;> cases e <;> simp only [rngB] at h <;> (try (cases h; done))
    split at h
    · rename_i hb
      cases h
      exact ⟨_, _, rfl, hb, rfl⟩
    · cases h
theorem rng3 {ds ys : List D} (hl : ds.length = 3) (h : rngB ds = some ys) : ∃ lo hi, ds = [.int lo, .int hi, .int (-1)] ∧ (-big ≤ lo ∧ lo < big ∧ -big ≤ hi ∧ hi < big) ∧ ys = rangeD lo (lo - hi).toNat := by
  match ds, hl with
  | [d, e, f], _ =>
    cases d <;> cases e <;> cases f <;> simp only [rngB] at h <;> (try (cases h; done))
    split at h
    · rename_i hb
      cases h
      obtain ⟨rfl, hb⟩ := hb
      exact ⟨_, _, rfl, hb, rfl⟩
    · cases h
theorem big_eq : big = 2 ^ 62 := by decide
theorem post_lst {Z : Addr → Prop} {r : List Addr} {ow : Nat → Option Addr} {H : Hp} {S : Sto} {env : Env} {s : L2.St} {R : L2.It → Hp → Prop} {E : XK} {o : Option (List D)} (h : PostI L xa pk Z r ow H env s R E (.of (o.map .lst) S)) : ∃ ys, o = some ys ∧ PostI L xa pk Z r ow H env s R E (.ok (.lst ys) S) := by
  cases o with
  | none => exact h.elim
  | some ys => exact ⟨ys, rfl, h⟩
theorem snd_pi_rng1 (hg : L2.Gl X "range") (hm : X.mg "range" = none) (h : PA X [e] (rdEs L xa W [x])) (st : starEach [e] X.env = [(false, eval e X.env)]) : PI X tg (.Call (.Name "range" p) [e] [] pos) (rdI L xa W pk (.rng [x])) := by
  refine PI.imp (L2.pi_range1 hg hm h st) fun s H R q => ?_
  obtain ⟨Z, r, ow, S, env, fr, q⟩ := q
  rw [evP_rng] at q
  refine rdEs.walk fr q fun ds S1 hl h1 vs H1 r1 st1 fr1 p1 => ?_
  obtain ⟨ys, ey, h1⟩ := post_lst h1
  obtain ⟨hi, rfl, hb, rfl⟩ := rng1 hl ey
  obtain ⟨xs, ex, q⟩ := h1
  simp only [itB] at ex
  cases ex
  rw [big_eq] at hb
  exact ⟨hi, p1.intsR (ns := [hi]) rfl, hb.1, hb.2, q _ _ _ _ [] [] [] st1 fr1 src_rng trivial Reps.nil (by simp)⟩
theorem snd_pi_rng2 (hg : L2.Gl X "range") (hm : X.mg "range" = none) (h : PA X [e, e1] (rdEs L xa W [x, y])) (st : starEach [e, e1] X.env = [(false, eval e X.env), (false, eval e1 X.env)]) (st2 : starEach [e1] X.env = [(false, eval e1 X.env)]) : PI X tg (.Call (.Name "range" p) [e, e1] [] pos) (rdI L xa W pk (.rng [x, y])) := by
  refine PI.imp (L2.pi_range2 hg hm h st st2) fun s H R q => ?_
  obtain ⟨Z, r, ow, S, env, fr, q⟩ := q
  rw [evP_rng] at q
  refine rdEs.walk fr q fun ds S1 hl h1 vs H1 r1 st1 fr1 p1 => ?_
  obtain ⟨ys, ey, h1⟩ := post_lst h1
  obtain ⟨lo, hi, rfl, hb, rfl⟩ := rng2 hl ey
  obtain ⟨xs, ex, q⟩ := h1
  simp only [itB] at ex
  cases ex
  rw [big_eq] at hb
  exact ⟨lo, hi, p1.intsR (ns := [lo, hi]) rfl, hb, q _ _ _ _ [] [] [] st1 fr1 src_rng trivial Reps.nil (by simp)⟩
theorem snd_pi_rng3 (hg : L2.Gl X "range") (hm : X.mg "range" = none) (h : PA X [e, e1, e2] (rdEs L xa W [x, y, z])) (st : starEach [e, e1, e2] X.env = (false, eval e X.env) :: starEach [e1, e2] X.env) (hpl : (backTo pos (starEach [e1, e2] X.env)).any (·.1) = false) : PI X tg (.Call (.Name "range" p) [e, e1, e2] [] pos) (rdI L xa W pk (.rng [x, y, z])) := by
  refine PI.imp (L2.pi_range3 hg hm h st hpl) fun s H R q => ?_
  obtain ⟨Z, r, ow, S, env, fr, q⟩ := q
  rw [evP_rng] at q
  refine rdEs.walk fr q fun ds S1 hl h1 vs H1 r1 st1 fr1 p1 => ?_
  obtain ⟨ys, ey, h1⟩ := post_lst h1
  obtain ⟨lo, hi, rfl, hb, rfl⟩ := rng3 hl ey
  obtain ⟨xs, ex, q⟩ := h1
  simp only [itB] at ex
  cases ex
  rw [big_eq] at hb
  exact ⟨lo, hi, -1, _, p1.intsR (ns := [lo, hi, -1]) rfl, L2.RgC.neg hb.1 hb.2.1 hb.2.2.1 hb.2.2.2, q _ _ _ _ [] [] [] st1 fr1 src_rngD trivial Reps.nil (by simp)⟩
/-- where a looked-at list may stand -/
theorem Pk.place {Z : Addr → Prop} {r : List Addr} {ow : Nat → Option Addr} {H : Hp} {S : Sto} {env : Env} {s : L2.St} {xs : List D} {a : Addr} (fr : Fr L.G L.xc xa Z r ow H S env s) (p : Pk L.G Z r ow H (.lst xs) (.ref a)) : a ∉ r := by
  rcases p with p | ⟨i, a', _, _, ho, _, ev, _⟩
  · rw [Rep] at p
    obtain ⟨a2, vs2, ev, nb, _⟩ := p
    cases ev
    exact fun z => nb (.inr (.inl z))
  · cases ev
    exact (fr.dis i a ho).2
theorem snd_pi_enm {elts : List Expr} {kk : Nat} {tpos : Pos} (hK : X.K = L.G.K) (hg : L2.Gl X "enumerate") (hm : X.mg "enumerate" = none) (h : PE X e (rdR L xa W x)) (st : starEach [e] X.env = [(false, eval e X.env)]) : PI X (.Tuple elts kk tpos) (.Call (.Name "enumerate" p) [e] [] pos) (rdI L xa W true (.enm x)) := by
  refine PI.imp (K1.pi_enum2 hg hm (L2.pa_cons h L2.pa_nil st) st) fun s H R q => ?_
  obtain ⟨Z, r, ow, S, env, fr, q⟩ := q
  unfold evP at q
  rw [if_pos rfl] at q
  simp only [rd, evE] at q
  refine rdR.bind (P := PostI L xa true Z r ow H env s R (fun c d H' => W c d s H')) fr q (fun d S1 h1 v H1 r1 st1 fr1 p1 => ?_) (fun c d S' h => h) id
  cases d <;> simp only [enmB] at h1 <;> (try exact h1.elim)
  case tup ds =>
    obtain ⟨xs, ex, q⟩ := h1
    simp only [itB] at ex
    cases ex
    obtain ⟨a, vs, rfl, h2, q2⟩ := p1.tup
    rw [hK]
    exact ⟨a, rfl, .inr ⟨vs, h2, q _ _ _ _ [] _ _ st1 fr1 (src_enmT q2.len) h2 q2 (by simp)⟩⟩
  case lst ds =>
    obtain ⟨xs, ex, q⟩ := h1
    simp only [itB] at ex
    cases ex
    obtain ⟨a, vs, rfl, h2, q2⟩ := p1.lst
    rw [hK]
    refine ⟨a, rfl, .inl ⟨vs, .of h2, q _ _ _ _ [a] _ _ st1 fr1 (src_enm q2.len) h2 q2 fun b hb => ?_⟩⟩
    rw [List.mem_singleton.mp hb]
    exact ⟨⟨_, h2⟩, Pk.place fr1 p1, fun z => by cases z⟩
theorem snd_pi_zip {elts : List Expr} {kk : Nat} {tpos : Pos} (hK : X.K = L.G.K) (hg : L2.Gl X "zip") (hm : X.mg "zip" = none) (h : PE X e (rdR L xa W x)) (h2 : PE X e1 (rdR L xa W y)) (st : starEach [e, e1] X.env = (false, eval e X.env) :: starEach [e1] X.env) (st2 : starEach [e1] X.env = [(false, eval e1 X.env)]) :
    PI X (.Tuple elts kk tpos) (.Call (.Name "zip" p) [e, e1] [] pos) (rdI L xa W true (.zip x y)) := by
  refine PI.imp (RZ.pi_zipA hg hm (L2.pa_cons h (L2.pa_cons h2 L2.pa_nil st2) st) st (by rw [st2]; rfl)) fun s H R q => ?_
  obtain ⟨Z, r, ow, S, env, fr, q⟩ := q
  unfold evP at q
  rw [if_pos rfl] at q
  simp only [rd, evE] at q
  refine rdR.bind (P := PostI L xa true Z r ow H env s R (fun c d H' => W c d s H')) fr q (fun d1 S1 h1 v1 H1 r1 st1 fr1 p1 => ?_) (fun c d S' h => h) id
  refine rdR.bind (P := PostI L xa true Z r ow H env s R (fun c d H' => W c d s H')) fr1 h1 (fun d2 S2 h2 v2 H2 r2 st2 fr2 p2 => ?_) (fun c d S' h cls dd H' r' st => h cls dd H' r' (st1.trans st)) id
  have p1 := Pk.step fr1 st2 p1
  rw [hK]
  cases d1 <;> cases d2 <;> simp only [zipB] at h2 <;> (try exact h2.elim)
  case lst.lst ds es =>
    obtain ⟨xs, ex, q⟩ := h2
    simp only [itB] at ex
    cases ex
    obtain ⟨a, vs, rfl, g1, q1⟩ := p1.lst
    obtain ⟨b, ws, rfl, g2, q2⟩ := p2.lst
    refine ⟨a, b, vs, ws, rfl, .inl ⟨.of g1, .of g2, q _ _ _ _ [a, b] _ _ (st1.trans st2) fr2 (src_zipL q1.len q2.len) ⟨g1, g2⟩ (q1.append q2) fun c hc => ?_⟩⟩
    rcases List.mem_cons.mp hc with rfl | hc
    · exact ⟨⟨_, g1⟩, Pk.place fr2 p1, fun z => by cases z⟩
    · rw [List.mem_singleton.mp hc]
      exact ⟨⟨_, g2⟩, Pk.place fr2 p2, fun z => by cases z⟩
  case tup.tup ds es =>
    obtain ⟨xs, ex, q⟩ := h2
    simp only [itB] at ex
    cases ex
    obtain ⟨a, vs, rfl, g1, q1⟩ := p1.tup
    obtain ⟨b, ws, rfl, g2, q2⟩ := p2.tup
    exact ⟨a, b, vs, ws, rfl, .inr ⟨g1, g2, q _ _ _ _ [] _ _ (st1.trans st2) fr2 (src_zipT q1.len q2.len) ⟨g1, g2⟩ (q1.append q2) (by simp)⟩⟩
theorem rd_not {env : Env} {S : Sto} (h : notOwn x env = true) : rd x env S (evE L.F x env S) = evE L.F x env S := by
  cases x <;> first | rfl | skip
  rename_i i
  simp only [notOwn] at h
  simp only [rd, evE]
  cases e : env[i]? with
  | none => rfl
  | some p => cases p <;> first | rfl | (rw [e] at h; exact absurd h (by simp))
theorem snd_pi_enmF {elts : List Expr} {kk : Nat} {tpos : Pos} (hK : X.K = L.G.K) (hg : L2.Gl X "enumerate") (hm : X.mg "enumerate" = none) (h : PE X e (rdE L xa W x)) (st : starEach [e] X.env = [(false, eval e X.env)]) : PI X (.Tuple elts kk tpos) (.Call (.Name "enumerate" p) [e] [] pos) (rdI L xa W false (.enm x)) := by
  refine PI.imp (K1.pi_enum2 hg hm (L2.pa_cons h L2.pa_nil st) st) fun s H R q => ?_
  obtain ⟨Z, r, ow, S, env, fr, q⟩ := q
  unfold evP at q
  rw [if_neg (by decide)] at q
  split at q
  case isFalse => exact q.elim
  rename_i hn
  simp only [evE] at q
  rw [rd_not (by simpa [noOwnIt] using hn)] at q
  refine rdE.bind (P := PostI L xa false Z r ow H env s R (fun c d H' => W c d s H')) fr q (fun d S1 h1 v H1 r1 st1 fr1 p1 => ?_) (fun c d S' h => h) id
  cases d <;> simp only [enmB] at h1 <;> (try exact h1.elim)
  case tup ds =>
    obtain ⟨xs, ex, q⟩ := h1
    simp only [itB] at ex
    cases ex
    rw [Rep] at p1
    obtain ⟨a, vs, rfl, h2, q2⟩ := p1
    rw [hK]
    exact ⟨a, rfl, .inr ⟨vs, h2, q _ _ _ _ [] _ _ st1 fr1 (src_enmT q2.len) h2 q2 (by simp)⟩⟩
  case lst ds =>
    obtain ⟨xs, ex, q⟩ := h1
    simp only [itB] at ex
    cases ex
    rw [Rep] at p1
    obtain ⟨a, vs, rfl, nb, h2, q2⟩ := p1
    rw [hK]
    refine ⟨a, rfl, .inl ⟨vs, .of h2, q _ _ _ _ [a] _ _ st1 fr1 (src_enm q2.len) h2 q2 fun b hb => ?_⟩⟩
    rw [List.mem_singleton.mp hb]
    exact ⟨⟨_, h2⟩, fun z => nb (.inr (.inl z)), fun _ => nb⟩
theorem snd_pi_zipF {elts : List Expr} {kk : Nat} {tpos : Pos} (hK : X.K = L.G.K) (hg : L2.Gl X "zip") (hm : X.mg "zip" = none) (h : PE X e (rdE L xa W x)) (h2 : PE X e1 (rdE L xa W y)) (st : starEach [e, e1] X.env = (false, eval e X.env) :: starEach [e1] X.env) (st2 : starEach [e1] X.env = [(false, eval e1 X.env)]) :
    PI X (.Tuple elts kk tpos) (.Call (.Name "zip" p) [e, e1] [] pos) (rdI L xa W false (.zip x y)) := by
  refine PI.imp (RZ.pi_zipA hg hm (L2.pa_cons h (L2.pa_cons h2 L2.pa_nil st2) st) st (by rw [st2]; rfl)) fun s H R q => ?_
  obtain ⟨Z, r, ow, S, env, fr, q⟩ := q
  unfold evP at q
  rw [if_neg (by decide)] at q
  split at q
  case isFalse => exact q.elim
  rename_i hn
  simp only [noOwnIt, Bool.and_eq_true] at hn
  simp only [evE] at q
  rw [rd_not hn.1] at q
  refine rdE.bind (P := PostI L xa false Z r ow H env s R (fun c d H' => W c d s H')) fr q (fun d1 S1 h1 v1 H1 r1 st1 fr1 p1 => ?_) (fun c d S' h => h) id
  rw [rd_not hn.2] at h1
  refine rdE.bind (P := PostI L xa false Z r ow H env s R (fun c d H' => W c d s H')) fr1 h1 (fun d2 S2 h2 v2 H2 r2 st2 fr2 p2 => ?_) (fun c d S' h cls dd H' r' st => h cls dd H' r' (st1.trans st)) id
  have p1 := st2.rep p1
  rw [hK]
  cases d1 <;> cases d2 <;> simp only [zipB] at h2 <;> (try exact h2.elim)
  case lst.lst ds es =>
    obtain ⟨xs, ex, q⟩ := h2
    simp only [itB] at ex
    cases ex
    rw [Rep] at p1 p2
    obtain ⟨a, vs, rfl, n1, g1, q1⟩ := p1
    obtain ⟨b, ws, rfl, n2, g2, q2⟩ := p2
    refine ⟨a, b, vs, ws, rfl, .inl ⟨.of g1, .of g2, q _ _ _ _ [a, b] _ _ (st1.trans st2) fr2 (src_zipL q1.len q2.len) ⟨g1, g2⟩ (q1.append q2) fun c hc => ?_⟩⟩
    rcases List.mem_cons.mp hc with rfl | hc
    · exact ⟨⟨_, g1⟩, fun z => n1 (.inr (.inl z)), fun _ => n1⟩
    · rw [List.mem_singleton.mp hc]
      exact ⟨⟨_, g2⟩, fun z => n2 (.inr (.inl z)), fun _ => n2⟩
  case tup.tup ds es =>
    obtain ⟨xs, ex, q⟩ := h2
    simp only [itB] at ex
    cases ex
    rw [Rep] at p1 p2
    obtain ⟨a, vs, rfl, g1, q1⟩ := p1
    obtain ⟨b, ws, rfl, g2, q2⟩ := p2
    exact ⟨a, b, vs, ws, rfl, .inr ⟨g1, g2, q _ _ _ _ [] _ _ (st1.trans st2) fr2 (src_zipT q1.len q2.len) ⟨g1, g2⟩ (q1.append q2) (by simp)⟩⟩

end
section
variable {G : Gd} {xc : Xc} {xa : XA} {Z : Addr → Prop} {r : List Addr} {ow : Nat → Option Addr} {H : Hp} {S : Sto} {env : Env} {s : L2.St}
/-- a frame's own lists may be let go -/
def Less (ow' ow : Nat → Option Addr) : Prop := ∀ i, ow' i = ow i ∨ ow' i = none
theorem Less.bb {ow' : Nat → Option Addr} (h : Less ow' ow) {a : Addr} (k : BB Z r ow' a) : BB Z r ow a := by
  rcases k with k | k | ⟨i, k⟩
  · exact .inl k
  · exact .inr (.inl k)
  · rcases h i with e | e
    · exact .inr (.inr ⟨i, e ▸ k⟩)
    · rw [e] at k; cases k
def drop1 (ow : Nat → Option Addr) (i : Nat) : Nat → Option Addr := fun j => if j = i then none else ow j
theorem drop1_less (i : Nat) : Less (drop1 ow i) ow := fun j => by
  unfold drop1
  split
  · exact .inr rfl
  · exact .inl rfl
theorem Less.trans {o1 o2 o3 : Nat → Option Addr} (a : Less o1 o2) (b : Less o2 o3) : Less o1 o3 := fun i => by
  rcases a i with e | e
  · rw [e]; exact b i
  · exact .inr e
theorem SlotR.less {ow' : Nat → Option Addr} {i : Nat} {p : Pl} (hl : Less ow' ow) (he : ow' i = ow i) (h : SlotR G xc xa H (BB Z r ow) r ow s i p) : SlotR G xc xa H (BB Z r ow') r ow' s i p := by
  cases p with
  | un => exact he.trans h
  | fz d =>
    obtain ⟨h0, v, h1, h2⟩ := h
    exact ⟨he.trans h0, v, h1, Rep.ban (fun a z => hl.bb z) h2⟩
  | own xs =>
    obtain ⟨a, vs, h1, h2, h3, h4⟩ := h
    exact ⟨a, vs, he.trans h1, h2, h3, Reps.ban (fun a z => hl.bb z) h4⟩
  | exn c d =>
    obtain ⟨h0, a, cls, dd, h1, h2, h3⟩ := h
    exact ⟨he.trans h0, a, cls, dd, h1, h2, ExR.ban (fun a z => hl.bb z) h3⟩
theorem SlotR.other {s' : L2.St} {i : Nat} {p : Pl} (he : s'[i]? = s[i]?) (h : SlotR G xc xa H (BB Z r ow) r ow s i p) : SlotR G xc xa H (BB Z r ow) r ow s' i p := by
  cases p with
  | un => exact h
  | fz d =>
    obtain ⟨h0, v, h1, h2⟩ := h
    exact ⟨h0, v, he.trans h1, h2⟩
  | own xs =>
    obtain ⟨a, vs, h1, h2, h3, h4⟩ := h
    exact ⟨a, vs, h1, he.trans h2, h3, h4⟩
  | exn c d =>
    obtain ⟨h0, a, cls, dd, h1, h2, h3⟩ := h
    exact ⟨h0, a, cls, dd, h1, he.trans h2, h3⟩
/-- a slot is stored anew: what it holds is told for the rest -/
theorem Fr.put (fr : Fr G xc xa Z r ow H S env s) {i : Nat} (hi : i < env.length) {p : Pl} {o : Option V} (h : ∀ s', s'[i]? = some o → SlotR G xc xa H (BB Z r (drop1 ow i)) r (drop1 ow i) s' i p) : Fr G xc xa Z r (drop1 ow i) H S (env.set i p) (s.set i o) where
  slot := fun j q e => by
    by_cases hj : j = i
    · subst hj
      rw [List.getElem?_set_self hi] at e
      cases e
      refine h _ ?_
      rw [List.getElem?_set_self (by rw [← fr.len]; exact hi)]
    · rw [List.getElem?_set_ne (Ne.symm hj)] at e
      refine SlotR.other ?_ (SlotR.less (drop1_less i) ?_ (fr.slot j q e))
      · rw [List.getElem?_set_ne (Ne.symm hj)]
      · unfold drop1; rw [if_neg hj]
  out := fun j a e => by
    rw [List.length_set]
    unfold drop1 at e
    split at e
    · cases e
    · exact fr.out j a e
  inj := fun j k a e1 e2 => by
    unfold drop1 at e1 e2
    split at e1
    · cases e1
    · split at e2
      · cases e2
      · exact fr.inj j k a e1 e2
  dis := fun j a e => by
    unfold drop1 at e
    split at e
    · cases e
    · exact fr.dis j a e
  zr := fr.zr
  al := fun a h => fr.al a ((drop1_less i).bb h)
  sto := fr.sto.ban fun a h => (drop1_less i).bb h
  len := by rw [List.length_set, List.length_set]; exact fr.len
  scr := fr.scr
  scf := fr.scf
theorem Fr.putfz (fr : Fr G xc xa Z r ow H S env s) {i : Nat} (hi : i < env.length) {d : D} {v : V} (h : Rep G H (BB Z r ow) r d v) : Fr G xc xa Z r (drop1 ow i) H S (env.set i (.fz d)) (s.set i (some v)) :=
  fr.put hi fun s' e => ⟨by unfold drop1; rw [if_pos rfl], v, e, Rep.ban (fun a z => (drop1_less i).bb z) h⟩
theorem wipe_set : ∀ (is : List Nat) (s : L2.St) (i : Nat) (o : Option V), i ∈ is → L2.wipe (s.set i o) is = L2.wipe s is
  | [], _, _, _, h => by cases h
  | j :: is, s, i, o, h => by
    unfold L2.wipe
    by_cases hm : i ∈ is
    · rw [wipe_set is s i o hm]
    · have e : i = j := by
        rcases List.mem_cons.mp h with h | h
        · exact h
        · exact absurd h hm
      subst e
      have : ∀ (is : List Nat) (s : L2.St), i ∉ is → L2.wipe (s.set i o) is = (L2.wipe s is).set i o := by
        intro is
        induction is with
        | nil => intro s _; rfl
        | cons k is ih =>
          intro s hn
          unfold L2.wipe
          have hk : k ≠ i := fun z => hn (by rw [z]; exact List.mem_cons_self)
          rw [ih s fun z => hn (List.mem_cons_of_mem _ z), List.set_comm _ _ hk.symm]
      rw [this is s hm, List.set_set]
end
/-- a target's reading -/
def rdG (L : Lt) (xa : XA) (t : Tg) : TG := fun v s H Q => ∃ Z r ow S env d env', Fr L.G L.xc xa Z r ow H S env s ∧ Rep L.G H (BB Z r ow) r d v ∧ asg t d env = some env' ∧
  ∀ s' ow', Less ow' ow → (∀ j, j ∉ slots t → ow' j = ow j) → Fr L.G L.xc xa Z r ow' H S env' s' → (∀ is, (∀ i ∈ slots t, i ∈ is) → L2.wipe s' is = L2.wipe s is) → Q s' H
def rdGs (L : Lt) (xa : XA) (ts : List Tg) : TGs := fun vs s H Q => ∃ Z r ow S env ds env', Fr L.G L.xc xa Z r ow H S env s ∧ Reps L.G H (BB Z r ow) r ds vs ∧ asgs ts ds env = some env' ∧
  ∀ s' ow', Less ow' ow → (∀ j, j ∉ slotss ts → ow' j = ow j) → Fr L.G L.xc xa Z r ow' H S env' s' → (∀ is, (∀ i ∈ slotss ts, i ∈ is) → L2.wipe s' is = L2.wipe s is) → Q s' H
theorem PG.imp {X : L2.Cx} {e : Expr} {t t' : TG} (h : PG X e t) (k : ∀ v s H Q, t' v s H Q → t v s H Q) : PG X e t' := ⟨fun pins s σ H v u Q I r q => h.run pins s σ H v u Q I r (k _ _ _ _ q)⟩
theorem PGs.imp {X : L2.Cx} {e : List Expr} {t t' : TGs} (h : PGs X e t) (k : ∀ v s H Q, t' v s H Q → t v s H Q) : PGs X e t' := ⟨fun pins s σ H v u Q I r q => h.run pins s σ H v u Q I r (k _ _ _ _ q)⟩
section
variable {L : Lt} {xa : XA} {X : L2.Cx} {e : Expr} {pos : Pos}
theorem snd_gv {i : Nat} {x : Str} (hN : X.N.Nodup) (hi : X.N[i]? = some x) (hx : L2.Loc X.env.scope x) (hf : X.fn x = true ∨ X.env.scope.names.lookup x = some .local) : PG X (.Name x pos) (rdG L xa (.v i)) := by
  refine ⟨fun pins s σ H v u Q I rv q => (L2.pg_name hN hi hx hf).run pins s σ H v u Q I rv ?_⟩
  obtain ⟨Z, r, ow, S, env, d, env', fr, rp, ea, q⟩ := q
  simp only [asg] at ea
  cases ea
  have hlen : i < env.length := by
    rw [fr.len, I.len]
    exact (List.getElem?_eq_some_iff.mp hi).1
  exact q _ _ (drop1_less i) (fun j hj => by unfold drop1; exact if_neg fun z => hj (by simp [slots, z])) (fr.putfz hlen rp) fun is h => wipe_set is σ i (some v) (h i (by simp [slots]))
theorem snd_gs_nil : PGs X [] (rdGs L xa []) := by
  refine PGs.imp L2.pgs_nil fun vs s H Q q => ?_
  obtain ⟨Z, r, ow, S, env, ds, env', fr, rp, ea, q⟩ := q
  cases ds with
  | nil =>
    simp only [asgs] at ea
    cases ea
    rw [Reps] at rp
    exact ⟨rp, q _ _ (fun i => .inl rfl) (fun _ _ => rfl) fr fun _ _ => rfl⟩
  | cons d ds => simp [asgs] at ea
theorem snd_gs_cons {es : List Expr} {t : Tg} {ts : List Tg} (h : PG X e (rdG L xa t)) (hs : PGs X es (rdGs L xa ts)) (ha : (assignEach (e :: es) X.env).map (·.2) = assign e X.env :: (assignEach es X.env).map (·.2)) : PGs X (e :: es) (rdGs L xa (t :: ts)) := by
  refine PGs.imp (L2.pgs_cons h hs ha) fun vs s H Q q => ?_
  obtain ⟨Z, r, ow, S, env, ds, env', fr, rp, ea, q⟩ := q
  cases ds with
  | nil => simp [asgs] at ea
  | cons d ds =>
    simp only [asgs] at ea
    rw [Reps] at rp
    obtain ⟨v, ws, rfl, rp, rps⟩ := rp
    cases e1 : asg t d env with
    | none => rw [e1] at ea; cases ea
    | some env1 =>
      rw [e1] at ea
      refine ⟨v, ws, rfl, Z, r, ow, S, env, d, env1, fr, rp, e1, fun s1 ow1 le1 n1 fr1 w1 => ?_⟩
      refine ⟨Z, r, ow1, S, env1, ds, env', fr1, Reps.ban (fun a z => le1.bb z) rps, ea, fun s2 ow2 le2 n2 fr2 w2 => ?_⟩
      refine q s2 ow2 (le2.trans le1) (fun j hj => (n2 j fun z => hj (by simp [slotss, z])).trans (n1 j fun z => hj (by simp [slotss, z]))) fr2 fun is h => ?_
      rw [w2 is fun i hi => h i (by simp [slotss, hi]), w1 is fun i hi => h i (by simp [slotss, hi])]
theorem asgs_len : ∀ {ts : List Tg} {ds : List D} {env env' : Env}, asgs ts ds env = some env' → ds.length = ts.length
  | [], [], _, _, _ => rfl
  | [], _ :: _, _, _, h => by simp [asgs] at h
  | _ :: _, [], _, _, h => by simp [asgs] at h
  | t :: ts, d :: ds, env, env', h => by
    simp only [asgs] at h
    cases e1 : asg t d env with
    | none => rw [e1] at h; cases h
    | some env1 =>
      rw [e1] at h
      simp [asgs_len h]
theorem snd_gt {es : List Expr} {ts : List Tg} {k : Nat} (hK : X.K = L.G.K) (hc : X.calm = true) (h : PGs X es (rdGs L xa ts)) (hn : (assignEach es X.env).length = ts.length) (hst : (assignEach es X.env).findIdx? (·.1) = none) : PG X (.Tuple es k pos) (rdG L xa (.t ts)) := by
  refine PG.imp (L2.pg_tup hc h hn hst) fun v s H Q q => ?_
  obtain ⟨Z, r, ow, S, env, d, env', fr, rp, ea, q⟩ := q
  cases d <;> simp only [asg] at ea <;> (try (cases ea; done))
  rename_i ds
  rw [Rep] at rp
  obtain ⟨a, vs, rfl, h1, rps⟩ := rp
  refine ⟨a, vs, rfl, by rw [hK]; exact h1, by rw [rps.len, asgs_len ea], Z, r, ow, S, env, ds, env', fr, rps, ea, fun s' ow' le n' fr' w => q s' ow' le (fun j hj => n' j (by simpa [slots] using hj)) fr' fun is h => w is fun i hi => h i (by simpa [slots] using hi)⟩

/-- tests of a comprehension: none, or one -/
def rdC (L : Lt) (xa : XA) (W : WX) (n : Nat) (c : Ex) : TT := if n = 0 then (fun s H Q => c = .cst (.bl true) ∧ Q true H) else rdT L xa W c
end
section
variable {G : Gd} {xc : Xc} {xa : XA} {Z Z' : Addr → Prop} {r : List Addr} {ow : Nat → Option Addr} {H : Hp} {S : Sto} {env : Env} {s : L2.St}
/-- fewer are banned -/
theorem Fr.unban (fr : Fr G xc xa Z' r ow H S env s) (h : ∀ a, Z a → Z' a) : Fr G xc xa Z r ow H S env s := by
  have hb : ∀ a, BB Z r ow a → BB Z' r ow a := fun a z => by
    rcases z with z | z
    · exact .inl (h a z)
    · exact .inr z
  refine ⟨fun i p e => ?_, fr.out, fr.inj, fun i a e => ⟨fun z => (fr.dis i a e).1 (h a z), (fr.dis i a e).2⟩, fun a ha z => fr.zr a ha (h a z), fun a z => fr.al a (hb a z), fr.sto.ban hb, fr.len, fr.scr, fr.scf⟩
  have k := fr.slot i p e
  cases p with
  | un => exact k
  | fz d =>
    obtain ⟨h0, v, h1, h2⟩ := k
    exact ⟨h0, v, h1, Rep.ban hb h2⟩
  | own xs =>
    obtain ⟨a, vs, h1, h2, h3, h4⟩ := k
    exact ⟨a, vs, h1, h2, h3, Reps.ban hb h4⟩
  | exn c d =>
    obtain ⟨h0, a, cls, dd, h1, h2, h3⟩ := k
    exact ⟨h0, a, cls, dd, h1, h2, ExR.ban hb h3⟩
def ZD (Z : Addr → Prop) (D : Addr) : Addr → Prop := fun a => Z a ∨ a = D
/-- a new object, banned from now on -/
theorem reps_zd (fr : Fr G xc xa Z r ow H S env s) {D : Addr} {o : HO} (hD : H D = none) {ds : List Mi.D} {vs : List V} (h : Reps G H (BB Z r ow) r ds vs) : Reps G (upd H D o) (BB (ZD Z D) r ow) r ds vs := by
  refine Reps.mono (fun a u e _ => ?_) (fun a u e => ?_) (fun a u w e => ?_) (fun a z => ?_) (fun _ _ e => e) h
  · rw [upd_ne (L2.ne_of_none e hD)]; exact e
  · rw [upd_ne (L2.ne_of_none e hD)]; exact e
  · rw [upd_ne (L2.ne_of_none e hD)]; exact e
  · rcases z with (z | z) | z
    · exact .inl (.inl z)
    · rw [z]; exact .inr hD
    · exact .inl (.inr z)
theorem rep_zd (fr : Fr G xc xa Z r ow H S env s) {D : Addr} {o : HO} (hD : H D = none) {d : Mi.D} {v : V} (h : Rep G H (BB Z r ow) r d v) : Rep G (upd H D o) (BB (ZD Z D) r ow) r d v := by
  have := reps_zd (o := o) fr hD (.cons h Reps.nil)
  rw [Reps] at this
  obtain ⟨v', ws, e, p, _⟩ := this
  cases e
  exact p
theorem Fr.laidZ (fr : Fr G xc xa Z r ow H S env s) {D : Addr} {o : HO} (hD : H D = none) : Fr G xc xa (ZD Z D) r ow (upd H D o) S env s := by
  refine ⟨fun i p e => ?_, fr.out, fr.inj, fun i a e => ⟨fun z => ?_, (fr.dis i a e).2⟩, fun a ha z => ?_, fun a z => ?_, ?_, fr.len, SqL.frz fr.scf (fun a u w e => ?_) fr.scr, ?_⟩
  · have k := fr.slot i p e
    cases p with
    | un => exact k
    | fz d =>
      obtain ⟨h0, v, h1, h2⟩ := k
      exact ⟨h0, v, h1, rep_zd fr hD h2⟩
    | own xs =>
      obtain ⟨a, vs, h1, h2, h3, h4⟩ := k
      exact ⟨a, vs, h1, h2, by rw [upd_ne (L2.ne_of_none h3 hD)]; exact h3, reps_zd fr hD h4⟩
    | exn c d =>
      obtain ⟨h0, a, cls, dd, h1, h2, C, e1, e2, h3⟩ := k
      refine ⟨h0, a, cls, dd, h1, h2, C, e1, e2, ?_⟩
      cases ef : xc.fld c with
      | none => rw [ef] at h3; exact h3
      | some f =>
        rw [ef] at h3
        obtain ⟨da, v, g1, g2, g3, g4⟩ := h3
        refine ⟨da, v, g1, fun z => ?_, by rw [upd_ne (L2.ne_of_none g3 hD)]; exact g3, rep_zd fr hD g4⟩
        rcases z with (z | z) | z
        · exact g2 (.inl z)
        · rw [z, hD] at g3; cases g3
        · exact g2 (.inr z)
  · rcases z with z | z
    · exact (fr.dis i a e).1 z
    · obtain ⟨o', e'⟩ := fr.al a (.inr (.inr ⟨i, e⟩))
      rw [z, hD] at e'; cases e'
  · rcases z with z | z
    · exact fr.zr a ha z
    · obtain ⟨o', e'⟩ := fr.al a (.inr (.inl ha))
      rw [z, hD] at e'; cases e'
  · by_cases ha : a = D
    · rw [ha]; exact ⟨_, upd_same⟩
    · rw [upd_ne ha]
      refine fr.al a ?_
      rcases z with (z | z) | z
      · exact .inl z
      · exact absurd z ha
      · exact .inr z
  · refine StoR.mono (fun a u e _ => by rw [upd_ne (L2.ne_of_none e hD)]; exact e) (fun a u e => by rw [upd_ne (L2.ne_of_none e hD)]; exact e) (fun a u w e => by rw [upd_ne (L2.ne_of_none e hD)]; exact e) (fun a z => ?_) (fun a _ u e => by rw [upd_ne (L2.ne_of_none e hD)]; exact e) fr.sto
    rcases z with (z | z) | z
    · exact .inl (.inl z)
    · exact .inr (by rw [z]; exact hD)
    · exact .inl (.inr z)
  · rw [upd_ne (L2.ne_of_none e hD)]; exact e
  · rcases fr.scf with ⟨o', u, e⟩ | k
    · exact .inl ⟨o', u, by rw [upd_ne (L2.ne_of_none e hD)]; exact e⟩
    · exact .inr k
/-- what stands is kept where a banned list is written -/
theorem reps_wr {D : Addr} {old new : List V} (hz : Z D) (hD : H D = some (.lst old)) {ds : List Mi.D} {vs : List V} (h : Reps G H (BB Z r ow) r ds vs) : Reps G (upd H D (.lst new)) (BB Z r ow) r ds vs := by
  refine Reps.mono (fun a u e n => ?_) (fun a u e => ?_) (fun a u w e => ?_) (fun a z => .inl z) (fun _ _ e => e) h
  · rw [upd_ne (b := a) fun z => n (.inl (by rw [z]; exact hz))]; exact e
  · rw [upd_ne (L2.ne_of e hD (by intro z; cases z))]; exact e
  · rw [upd_ne (L2.ne_of e hD (by intro z; cases z))]; exact e
theorem rep_wr {D : Addr} {old new : List V} (hz : Z D) (hD : H D = some (.lst old)) {d : Mi.D} {v : V} (h : Rep G H (BB Z r ow) r d v) : Rep G (upd H D (.lst new)) (BB Z r ow) r d v := by
  have := reps_wr (new := new) hz hD (.cons h Reps.nil)
  rw [Reps] at this
  obtain ⟨v', ws, e, p, _⟩ := this
  cases e
  exact p
theorem Fr.wr (fr : Fr G xc xa Z r ow H S env s) {D : Addr} {old new : List V} (hz : Z D) (hD : H D = some (.lst old)) : Fr G xc xa Z r ow (upd H D (.lst new)) S env s := by
  refine ⟨fun i p e => ?_, fr.out, fr.inj, fr.dis, fr.zr, fun a z => ?_, StoR.mono (fun a u e n => by rw [upd_ne (b := a) fun z => n (.inl (by rw [z]; exact hz))]; exact e) (fun a u e => by rw [upd_ne (L2.ne_of e hD (by intro z; cases z))]; exact e) (fun a u w e => by rw [upd_ne (L2.ne_of e hD (by intro z; cases z))]; exact e) (fun a z => .inl z) (fun a ha u e => by rw [upd_ne (b := a) fun z => fr.zr a ha (by rw [z]; exact hz)]; exact e) fr.sto, fr.len, SqL.frz fr.scf (fun a u w e => ?_) fr.scr, ?_⟩
  · have k := fr.slot i p e
    cases p with
    | un => exact k
    | fz d =>
      obtain ⟨h0, v, h1, h2⟩ := k
      exact ⟨h0, v, h1, rep_wr hz hD h2⟩
    | own xs =>
      obtain ⟨a, vs, h1, h2, h3, h4⟩ := k
      exact ⟨a, vs, h1, h2, by rw [upd_ne (b := a) fun z => (fr.dis i a h1).1 (by rw [z]; exact hz)]; exact h3, reps_wr hz hD h4⟩
    | exn c d =>
      obtain ⟨h0, a, cls, dd, h1, h2, C, e1, e2, h3⟩ := k
      refine ⟨h0, a, cls, dd, h1, h2, C, e1, e2, ?_⟩
      cases ef : xc.fld c with
      | none => rw [ef] at h3; exact h3
      | some f =>
        rw [ef] at h3
        obtain ⟨da, v, g1, g2, g3, g4⟩ := h3
        exact ⟨da, v, g1, g2, by rw [upd_ne (b := da) fun z => g2 (.inl (by rw [z]; exact hz))]; exact g3, rep_wr hz hD g4⟩
  · by_cases ha : a = D
    · rw [ha]; exact ⟨_, upd_same⟩
    · rw [upd_ne ha]; exact fr.al a z
  · rw [upd_ne (L2.ne_of e hD (by intro z; cases z))]; exact e
  · rcases fr.scf with ⟨o', u, e⟩ | k
    · exact .inl ⟨o', u, by rw [upd_ne (L2.ne_of e hD (by intro z; cases z))]; exact e⟩
    · exact .inr k
theorem Stp.wr {H1 : Hp} {r1 r' : List Addr} {D : Addr} {o : HO} (st : Stp H1 r1 H r') (h1 : H1 D = none) : Stp H1 r1 (upd H D o) r' where
  pre := st.pre
  keep := fun a u e n => by rw [upd_ne (L2.ne_of_none e h1)]; exact st.keep a u e n
  tups := fun a u e => by rw [upd_ne (L2.ne_of_none e h1)]; exact st.tups a u e
  frzs := fun a u w e => by rw [upd_ne (L2.ne_of_none e h1)]; exact st.frzs a u w e
  new := st.new
  some_ := fun a u e => by rw [upd_ne (L2.ne_of_none e h1)]; exact st.some_ a u e
theorem ow_none (fr : Fr G xc xa Z r ow H S env s) {i : Nat} {p : Pl} (e : env[i]? = some p) (h : ∀ xs, p ≠ .own xs) : ow i = none := by
  have k := fr.slot i p e
  cases p with
  | un => exact k
  | fz d => exact k.1
  | own xs => exact absurd rfl (h xs)
  | exn c d => exact k.1
theorem drop1_eq {i : Nat} (h : ow i = none) : drop1 ow i = ow := funext fun j => by
  unfold drop1
  split
  · rename_i e; rw [e, h]
  · rfl
theorem wipS_len : ∀ (is : List Nat) (env : Env), (wipS is env).length = env.length
  | [], _ => rfl
  | i :: is, env => by unfold wipS; rw [List.length_set, wipS_len is env]
theorem Fr.wipe (fr : Fr G xc xa Z r ow H S env s) : ∀ {is : List Nat}, okW env is = true → Fr G xc xa Z r ow H S (wipS is env) (L2.wipe s is) ∧ ∀ i ∈ is, ow i = none
  | [], _ => ⟨fr, fun i h => by cases h⟩
  | i :: is, h => by
    simp only [okW, Bool.and_eq_true] at h
    obtain ⟨h1, h2⟩ := Fr.wipe fr h.2
    have hn : ow i = none := by
      cases e : env[i]? with
      | none => rw [e] at h; exact absurd h.1 (by simp)
      | some p => exact ow_none fr e fun xs z => by rw [e, z] at h; exact absurd h.1 (by simp)
    have hi : i < env.length := by
      cases e : env[i]? with
      | none => rw [e] at h; exact absurd h.1 (by simp)
      | some p => exact (List.getElem?_eq_some_iff.mp e).1
    refine ⟨?_, fun j hj => ?_⟩
    · have := h1.put (i := i) (by rw [wipS_len]; exact hi) (p := .un) (o := none) fun s' _ => by unfold drop1; exact if_pos rfl
      rw [drop1_eq hn] at this
      exact this
    · rcases List.mem_cons.mp hj with rfl | hj
      · exact hn
      · exact h2 j hj
end
end Mi

set_option maxRecDepth 100000
set_option maxHeartbeats 4000000
namespace Mi
open PySem PySem.Spec PyProof.Rows
open L2 (V Hp HO upd upd_same upd_ne Same SqL SqT Rd VK XK WX PE PT PA OpR CallR IxR SlR TE TT TA tOp Dp DpAll PI TI PG PGs TG TGs)

abbrev WN : WX := fun _ _ _ _ => False
/-- a comprehension's turn, as evE has it -/
def turn (F : Fns) (e : Ex) (t : Tg) (c : Ex) (env : Env) : D → Sto → Res (Option D) := fun d S => match asg t d (wipS (slots t) env) with
  | some env' => (evE F c env' S).bind fun b S => match b with
    | .bl true => (evE F e env' S).bind fun y S => .ok (some y) S
    | .bl false => .ok none S
    | _ => .stuck
  | none => .stuck

section
variable {L : Lt} {xa : XA} {W : WX}
/-- the walk of a comprehension's reading -/
theorem lc_ok {e : Ex} {t : Tg} {c : Ex} {n : Nat} {Z : Addr → Prop} {r1 : List Addr} {ow : Nat → Option Addr} {H1 : Hp} {S1 : Sto} {env : Env} {s : L2.St} {Q : VK} {Pq : Res D → Prop} {J : L2.It} {xs : List D} {P : Hp → Prop} {As : List Addr} {ds : List D} {ws : List V}
    (fr1 : Fr L.G L.xc xa Z r1 ow H1 S1 env s) (src : Src L.G J xs P As ds ws) (hP : P H1) (hr : Reps L.G H1 (BB Z r1 ow) r1 ds ws) (hA : ∀ a ∈ As, (∃ o, H1 a = some o) ∧ a ∉ r1)
    (hz : xs.length ≤ SZ) (hw : okW env (slots t) = true) (hn : n = 0 → c = .cst (.bl true))
    (hst : ¬ Pq .stuck) (hend : ∀ D acc accV S' Hc r', H1 D = none → Pq (.ok (.lst acc) S') → Stp H1 r1 Hc r' → Fr L.G L.xc xa (ZD Z D) r' ow Hc S' env s → Hc D = some (.lst accV) → Reps L.G Hc (BB (ZD Z D) r' ow) r' acc accV → Q (.ref D) Hc)
    (q : Pq ((lcL (turn L.F e t c env) xs S1).bind fun ys S => .ok (.lst ys) S)) :
    ∀ D, H1 D = none → ∃ Wt : Nat → Nat → Hp → Prop, (∃ m, Wt 0 m (upd H1 D (.lst []))) ∧ ∀ i m H, Wt i m H →
      (J.stop i H ∧ Q (.ref D) H) ∨ (J.go i H ∧ ∃ Nx : Hp → Prop, (∀ H', Nx H' → ∃ m', m' < m ∧ Wt (i + 1) m' H') ∧ ∀ x H', J.yld i H x H' → rdG L xa t x (L2.wipe s (slots t)) H' fun σ2 H2 => L2.wipe σ2 (slots t) = L2.wipe s (slots t) ∧ rdC L xa WN n c σ2 H2 fun b H3 =>
        if b = true then rdE L xa WN e σ2 H3 fun y H4 => ∃ acc, H4 D = some (.lst acc) ∧ acc.length < sizeLine ∧ Nx (upd H4 D (.lst (acc ++ [y]))) else Nx H3) := by
  intro D hD
  refine ⟨fun i m Hc => ∃ r' S' acc accV, m + i = xs.length ∧ Stp H1 r1 Hc r' ∧ Fr L.G L.xc xa (ZD Z D) r' ow Hc S' env s ∧ P Hc ∧ Reps L.G Hc (BB (ZD Z D) r' ow) r' ds ws ∧ Hc D = some (.lst accV) ∧ Reps L.G Hc (BB (ZD Z D) r' ow) r' acc accV ∧ acc.length ≤ i ∧
    Pq ((lcL (turn L.F e t c env) (xs.drop i) S').bind fun ys S => .ok (.lst (acc ++ ys)) S), ⟨xs.length, r1, S1, [], [], rfl, .laid hD, fr1.laidZ hD, ?_, reps_zd fr1 hD hr, upd_same, Reps.nil, Nat.le_refl _, ?_⟩, ?_⟩
  · refine src.stab _ _ hP (fun a ha => ?_) (fun a u e => ?_) (fun a u w e => ?_)
    · obtain ⟨⟨o, eo⟩, _⟩ := hA a ha
      rw [upd_ne (L2.ne_of_none eo hD)]
    · rw [upd_ne (L2.ne_of_none e hD)]; exact e
    · rw [upd_ne (L2.ne_of_none e hD)]; exact e
  · simpa using q
  · intro i m Hc hW
    obtain ⟨r', S', acc, accV, hm, stc, frc, hPc, hrc, hDc, hacc, hlen, qc⟩ := hW
    by_cases hi : i < xs.length
    · refine .inr ⟨src.go i Hc hPc hi, fun H' => ∃ r2 S2 acc2 accV2, Stp H1 r1 H' r2 ∧ Fr L.G L.xc xa (ZD Z D) r2 ow H' S2 env s ∧ P H' ∧ Reps L.G H' (BB (ZD Z D) r2 ow) r2 ds ws ∧ H' D = some (.lst accV2) ∧ Reps L.G H' (BB (ZD Z D) r2 ow) r2 acc2 accV2 ∧ acc2.length ≤ i + 1 ∧
        Pq ((lcL (turn L.F e t c env) (xs.drop (i + 1)) S2).bind fun ys S => .ok (.lst (acc2 ++ ys)) S), fun H' h => ?_, fun x H' hy => ?_⟩
      · obtain ⟨r2, S2, acc2, accV2, h1, h2, h3, h4, h5, h6, h7, h8⟩ := h
        exact ⟨m - 1, by omega, r2, S2, acc2, accV2, by omega, h1, h2, h3, h4, h5, h6, h7, h8⟩
      · obtain ⟨hH', hrep⟩ := src.yld i Hc x H' xs[i] hPc (List.getElem?_eq_getElem hi) hy
        have rx := hrep _ _ hrc
        -- the yield's own step
        have sty : Stp Hc r' H' r' := by
          rcases hH' with rfl | ⟨T, o, hT, rfl⟩
          · exact .refl
          · exact .laid hT
        have fry : Fr L.G L.xc xa (ZD Z D) r' ow H' S' env s := frc.step sty (frc.sto.yld hH')
        obtain ⟨frw, hno⟩ := fry.wipe hw
        have edrop : xs.drop i = xs[i] :: xs.drop (i + 1) := List.drop_eq_getElem_cons hi
        rw [edrop] at qc
        simp only [lcL] at qc
        have edf : turn L.F e t c env xs[i] S' = match asg t xs[i] (wipS (slots t) env) with
          | some env' => (evE L.F c env' S').bind fun b S => match b with
            | .bl true => (evE L.F e env' S).bind fun y S => .ok (some y) S
            | .bl false => .ok none S
            | _ => .stuck
          | none => .stuck := rfl
        cases ea : asg t xs[i] (wipS (slots t) env) with
        | none => rw [edf, ea] at qc; exact (hst qc).elim
        | some env' =>
          rw [ea] at edf
          dsimp only at edf
          refine ⟨ZD Z D, r', ow, S', _, _, env', frw, rx, ea, fun s2 ow2 le2 n2 fr2 w2 => ⟨?_, ?_⟩⟩
          · rw [w2 (slots t) fun _ h => h]
            exact (by
              have : ∀ (is : List Nat) (s : L2.St), L2.wipe (L2.wipe s is) is = L2.wipe s is := by
                intro is
                induction is with
                | nil => intro s; rfl
                | cons k is ih =>
                  intro s
                  show (L2.wipe ((L2.wipe s is).set k none) is).set k none = (L2.wipe s is).set k none
                  by_cases hk : k ∈ is
                  · rw [wipe_set is _ k none hk, ih s]
                  · have cm : ∀ (js : List Nat) (s : L2.St), k ∉ js → L2.wipe (s.set k none) js = (L2.wipe s js).set k none := by
                      intro js
                      induction js with
                      | nil => intro s _; rfl
                      | cons j js ihj =>
                        intro s hn
                        show (L2.wipe (s.set k none) js).set j none = ((L2.wipe s js).set j none).set k none
                        rw [ihj s fun z => hn (List.mem_cons_of_mem _ z), List.set_comm]
                        exact fun z => hn (by rw [z]; exact List.mem_cons_self)
                    rw [cm is _ hk, ih s, List.set_set]
              exact this (slots t) s)
          · have eow : ow2 = ow := funext fun j => by
              by_cases hj : j ∈ slots t
              · rcases le2 j with e' | e'
                · exact e'
                · rw [e', hno j hj]
              · exact n2 j hj
            subst eow
            -- the element, once the test is passed
            have elt : ∀ {H3 : Hp} {r3 : List Addr} {S3 : Sto}, Stp H' r' H3 r3 → Fr L.G L.xc xa (ZD Z D) r3 ow2 H3 S3 env' s2 → (turn L.F e t c env xs[i] S' = (evE L.F e env' S3).bind fun y S => .ok (some y) S) →
                rdE L xa WN e s2 H3 fun y H4 => ∃ acc, H4 D = some (.lst acc) ∧ acc.length < sizeLine ∧ ∃ r2 S2 acc2 accV2, Stp H1 r1 (upd H4 D (.lst (acc ++ [y]))) r2 ∧ Fr L.G L.xc xa (ZD Z D) r2 ow2 (upd H4 D (.lst (acc ++ [y]))) S2 env s ∧ P (upd H4 D (.lst (acc ++ [y]))) ∧
                  Reps L.G (upd H4 D (.lst (acc ++ [y]))) (BB (ZD Z D) r2 ow2) r2 ds ws ∧ (upd H4 D (.lst (acc ++ [y]))) D = some (.lst accV2) ∧ Reps L.G (upd H4 D (.lst (acc ++ [y]))) (BB (ZD Z D) r2 ow2) r2 acc2 accV2 ∧ acc2.length ≤ i + 1 ∧
                  Pq ((lcL (turn L.F e t c env) (xs.drop (i + 1)) S2).bind fun ys S => .ok (.lst (acc2 ++ ys)) S) := by
              intro H3 r3 S3 st3 fr3 et
              rw [et] at qc
              refine ⟨ZD Z D, r3, ow2, S3, env', fr3, ?_⟩
              cases ee : evE L.F e env' S3 with
              | stuck => rw [ee] at qc; exact (hst qc).elim
              | exc c d S4 => rw [ee] at qc; exact (hst qc).elim
              | ok y S4 =>
                rw [ee] at qc
                intro v H4 r4 st4 fr4 ry
                have stall : Stp Hc r' H4 r4 := sty.trans (st3.trans st4)
                have hD4 : H4 D = some (.lst accV) := stall.keep _ _ hDc fun z => frc.zr D z (.inr rfl)
                have fr4' : Fr L.G L.xc xa (ZD Z D) r4 ow2 H4 S4 env s := frc.step stall fr4.sto
                refine ⟨accV, hD4, ?_, r4, S4, acc ++ [y], accV ++ [v], (stc.trans stall).wr hD, fr4'.wr (.inr rfl) hD4, ?_, reps_wr (.inr rfl) hD4 (stall.reps hrc), upd_same, reps_wr (.inr rfl) hD4 ((stall.reps hacc).append (.cons ry Reps.nil)), by simp; omega, ?_⟩
                · rw [hacc.len, ← sz_eq]; omega
                · refine src.stab _ _ hPc (fun a ha => ?_) (fun a u e => ?_) (fun a u w e => ?_)
                  · obtain ⟨⟨o, eo⟩, hnr⟩ := hA a ha
                    rw [upd_ne (L2.ne_of_none eo hD)]
                    have e1 : Hc a = some o := stc.keep a o eo hnr
                    rw [e1]
                    refine stall.keep a o e1 fun z => ?_
                    rcases stc.new a z with z | z
                    · exact hnr z
                    · rw [eo] at z; cases z
                  · rw [upd_ne (L2.ne_of e hDc (by intro z; cases z))]; exact stall.tups a u e
                  · rw [upd_ne (L2.ne_of e hDc (by intro z; cases z))]; exact stall.frzs a u w e
                · simp only [Res.bind] at qc
                  have eq2 : ∀ R : Res (List Mi.D), ((R.bind fun r S2 => Res.ok (y :: r) S2).bind fun ys S => Res.ok (Mi.D.lst (acc ++ ys)) S) = R.bind fun ys S => Res.ok (Mi.D.lst ((acc ++ [y]) ++ ys)) S := by
                    intro R
                    cases R <;> simp [Res.bind]
                  rw [← eq2]
                  exact qc
            -- the test
            unfold rdC
            split
            · rename_i hn0
              have hc := hn hn0
              subst hc
              refine ⟨rfl, ?_⟩
              dsimp only
              rw [if_pos rfl]
              refine elt .refl fr2 ?_
              rw [edf]
              simp only [evE, Res.bind]
            · refine ⟨ZD Z D, r', ow2, S', env', fr2, ?_⟩
              cases ec : evE L.F c env' S' with
              | stuck => rw [edf, ec] at qc; exact (hst qc).elim
              | exc c d S4 => rw [edf, ec] at qc; exact (hst qc).elim
              | ok b S3 =>
                intro v H3 r3 st3 fr3 rb
                cases b with
                | bl b =>
                  rw [Rep] at rb
                  refine ⟨b, rb, ?_⟩
                  cases b with
                  | true =>
                    rw [if_pos rfl]
                    refine elt st3 fr3 ?_
                    rw [edf, ec]
                    rfl
                  | false =>
                    rw [if_neg (by decide)]
                    have stall : Stp Hc r' H3 r3 := sty.trans st3
                    have hD3 : H3 D = some (.lst accV) := stall.keep _ _ hDc fun z => frc.zr D z (.inr rfl)
                    have fr3' : Fr L.G L.xc xa (ZD Z D) r3 ow2 H3 S3 env s := frc.step stall fr3.sto
                    refine ⟨r3, S3, acc, accV, stc.trans stall, fr3', ?_, stall.reps hrc, hD3, stall.reps hacc, by omega, ?_⟩
                    · refine src.stab _ _ hPc (fun a ha => ?_) (fun a u e => stall.tups a u e) (fun a u w e => stall.frzs a u w e)
                      obtain ⟨⟨o, eo⟩, hnr⟩ := hA a ha
                      have e1 : Hc a = some o := stc.keep a o eo hnr
                      rw [e1]
                      refine stall.keep a o e1 fun z => ?_
                      rcases stc.new a z with z | z
                      · exact hnr z
                      · rw [eo] at z; cases z
                    · rw [edf, ec] at qc
                      simp only [Res.bind] at qc
                      have eq2 : ∀ R : Res (List Mi.D), ((R.bind fun r S2 => Res.ok r S2).bind fun ys S => Res.ok (Mi.D.lst (acc ++ ys)) S) = R.bind fun ys S => Res.ok (Mi.D.lst (acc ++ ys)) S := by
                        intro R
                        cases R <;> simp [Res.bind]
                      rw [← eq2]
                      exact qc
                | _ => rw [edf, ec] at qc; exact (hst qc).elim
    · refine .inl ⟨src.stop i Hc hPc (by omega), ?_⟩
      have hd : xs.drop i = [] := List.drop_eq_nil_of_le (by omega)
      rw [hd] at qc
      simp only [lcL, Res.bind, List.append_nil] at qc
      exact hend D acc accV S' Hc r' hD qc stc frc hDc hacc
end
end Mi

set_option maxRecDepth 100000
set_option maxHeartbeats 4000000
namespace Mi
open PySem PySem.Spec PyProof.Rows
open L2 (V Hp HO upd upd_same upd_ne Same SqL SqT Rd VK XK WX PE PT PA OpR CallR IxR SlR TE TT TA tOp Dp DpAll PI TI PG PGs TG TGs)
section
variable {G : Gd} {H : Hp} {B : Addr → Prop} {r : List Addr}
theorem Reps.reverse : ∀ {ds : List D} {vs : List V}, Reps G H B r ds vs → Reps G H B r ds.reverse vs.reverse
  | [], _, h => by rw [Reps] at h; subst h; exact Reps.nil
  | d :: ds, _, h => by
    rw [Reps] at h
    obtain ⟨v, us, rfl, p, q⟩ := h
    rw [List.reverse_cons, List.reverse_cons]
    exact q.reverse.append (.cons p Reps.nil)
theorem reps_rng (lo : Int) (n : Nat) : Reps G H B r (rangeL lo n) ((List.range n).map fun (i : Nat) => V.int (lo + (i : Nat))) := by
  unfold rangeL
  generalize List.range n = l
  induction l with
  | nil => exact Reps.nil
  | cons k l ih => exact .cons (by rw [Rep]) ih
end
section
variable {L : Lt} {xa : XA} {X : L2.Cx} {W : WX} {e e0 e1 e2 e3 : Expr} {x y z : Ex} {pos p p1 p2 p3 : Pos}
theorem snd_rev {k : Nat} (hK : X.K = L.G.K) (h : PE X e (rdR L xa W x)) : PE X (.Subscript e (.Slice none none (some (.UnaryOp .USub (.Constant (.int 1) k p1) p2)) p3) pos) (rdE L xa W (.rev x)) := by
  refine PE.imp (L2.pe_revL h) fun s H Q q => ?_
  obtain ⟨Z, r, ow, S, env, fr, q⟩ := q
  simp only [evE] at q
  refine rdR.bind (P := PostE L xa Z r ow H env s Q (fun c d H' => W c d s H')) fr q (fun d1 S1 h1 v1 H1 r1 st1 fr1 p1 => ?_) (fun c d S' h => h) id
  cases d1 <;> simp only [revB] at h1 <;> (try exact h1.elim)
  rename_i ds
  obtain ⟨a, vs, e1, g1, q1⟩ := p1.lst
  exact ⟨a, vs, e1, .of g1, fun p hp => h1 _ _ _ (st1.trans (.laid hp)) (fr1.laid hp) (rep_lst fr1 hp q1.reverse)⟩
theorem snd_lrng (hc : X.calm = true) (hg : L2.Gl X "list") (hm : X.mg "list" = none) (hg2 : L2.Gl X "range") (hm2 : X.mg "range" = none) (h : PE X e (rdE L xa W x)) (st : starEach [e] X.env = (false, eval e X.env) :: starEach [] X.env) :
    PE X (.Call (.Name "list" p) [.Call (.Name "range" p1) [e] [] p2] [] pos) (rdE L xa W (.lrng [x])) := by
  refine PE.imp (L2.pe_listRg hc hg hm (L2.prg_1 hg2 hm2 h st)) fun s H Q q => ?_
  obtain ⟨Z, r, ow, S, env, fr, q⟩ := q
  simp only [evE, evEs] at q
  refine ⟨Z, r, ow, S, env, fr, ?_⟩
  cases ee : evE L.F x env S with
  | stuck => rw [ee] at q; exact q
  | exc c d S' => rw [ee] at q; exact q
  | ok d S1 =>
    rw [ee] at q
    simp only [Res.bind] at q
    intro v H1 r1 st1 fr1 p1
    cases d <;> simp only [lrgB] at q <;> (try exact q.elim)
    rename_i n
    split at q
    · rename_i hb
      rw [Rep] at p1
      subst p1
      refine ⟨n, rfl, ⟨by omega, by omega, by omega, by omega, by omega⟩, fun p hp => q _ _ _ (st1.trans (.laid hp)) (fr1.laid hp) (rep_lst fr1 hp ?_)⟩
      have := reps_rng (G := L.G) (H := H1) (B := BB Z r1 ow) (r := r1) 0 n.toNat
      have e : L2.rgV 0 n = (List.range n.toNat).map fun (i : Nat) => V.int (0 + (i : Nat)) := by
        unfold L2.rgV
        rw [Int.sub_zero]
      rw [e]
      exact this
    · exact q.elim
end
end Mi

set_option maxRecDepth 100000
set_option maxHeartbeats 4000000
namespace Mi
open PySem PySem.Spec PyProof.Rows
open L2 (V Hp HO upd upd_same upd_ne Same SqL SqT Rd VK XK WX PE PT PA OpR CallR IxR SlR TE TT TA tOp Dp DpAll PI TI PG PGs TG TGs)
def mthName : Mth → Str
  | .lcnt => "count" | .lidx => "index"
def abOk : Expr → Bool
  | .Call (.Name _ _) [] [] _ => false
  | _ => true
theorem ab_of {o : Expr} (h : abOk o = true) (name : Str) (env : PySem.Env) : attributeBase o name env (eval o env) = eval o env := by
  unfold abOk at h
  split at h
  · cases h
  · rename_i hn
    unfold attributeBase
    split
    · rename_i id p pos
      exact absurd rfl (hn id p pos)
    · rfl
theorem insS_mem (x : Int) : ∀ (ys : List Int) (k : Int), k ∈ insS x ys ↔ k = x ∨ k ∈ ys
  | [], k => by simp [insS]
  | y :: ys, k => by
    unfold insS
    split
    · simp
    · split
      · rename_i h
        subst h
        simp
      · simp [insS_mem x ys k]
        constructor
        · rintro (h | h | h) <;> simp [h]
        · rintro (h | h | h) <;> simp [h]
theorem insS_srt (x : Int) : ∀ (ys : List Int), ys.Pairwise (· < ·) → (insS x ys).Pairwise (· < ·)
  | [], _ => by simp [insS]
  | y :: ys, h => by
    have h0 := List.pairwise_cons.mp h
    unfold insS
    split
    · rename_i hx
      refine List.pairwise_cons.mpr ⟨fun z hz => ?_, h⟩
      rcases List.mem_cons.mp hz with rfl | hz
      · exact hx
      · exact Int.lt_trans hx (h0.1 z hz)
    · split
      · exact h
      · refine List.pairwise_cons.mpr ⟨fun z hz => ?_, insS_srt x ys h0.2⟩
        rcases (insS_mem x ys z).mp hz with rfl | hz
        · omega
        · exact h0.1 z hz
theorem setI_mem : ∀ (xs : List Int) (k : Int), k ∈ setI xs ↔ k ∈ xs
  | [], k => by simp [setI]
  | x :: xs, k => by simp [setI, insS_mem, setI_mem xs k]
theorem setI_srt : ∀ (xs : List Int), (setI xs).Pairwise (· < ·)
  | [] => .nil
  | x :: xs => insS_srt x _ (setI_srt xs)
theorem risI_eq : ∀ {xs ys : List Int}, xs.Pairwise (· < ·) → ys.Pairwise (· < ·) → (∀ v, v ∈ xs ↔ v ∈ ys) → xs = ys
  | [], [], _, _, _ => rfl
  | [], y :: ys, _, _, h => by have := (h y).mpr (by simp); simp at this
  | x :: xs, [], _, _, h => by have := (h x).mp (by simp); simp at this
  | x :: xs, y :: ys, hx, hy, h => by
    have a := List.pairwise_cons.mp hx
    have b := List.pairwise_cons.mp hy
    have e : x = y := by
      rcases List.mem_cons.mp ((h x).mp (by simp)) with e | e
      · exact e
      · rcases List.mem_cons.mp ((h y).mpr (by simp)) with e2 | e2
        · exact e2.symm
        · have := a.1 y e2; have := b.1 x e; omega
    subst e
    congr 1
    refine risI_eq a.2 b.2 fun v => ⟨fun hv => ?_, fun hv => ?_⟩
    · rcases List.mem_cons.mp ((h v).mp (by simp [hv])) with e | e
      · have := a.1 v hv; omega
      · exact e
    · rcases List.mem_cons.mp ((h v).mpr (by simp [hv])) with e | e
      · have := b.1 v hv; omega
      · exact e
section
variable {G : Gd} {Z : Addr → Prop} {r : List Addr} {ow : Nat → Option Addr} {H : Hp}
theorem scal_cnt {x : D} {v : V} (h : Pc G Z r ow H x v) (hs : scalar x = true) : ∀ {ys : List D} {ws : List V}, Reps G H (BB Z r ow) r ys ws → ys.all scalar = true → ws.all L2.flatV = true ∧ ws.countP (fun z => L2.eqV z v) = ys.countP fun y => D.eqv y x
  | [], _, h2, _ => by rw [Reps] at h2; subst h2; exact ⟨rfl, rfl⟩
  | y :: ys, _, h2, ha => by
    rw [Reps] at h2
    obtain ⟨w, ws, rfl, p, q⟩ := h2
    simp only [List.all_cons, Bool.and_eq_true] at ha
    obtain ⟨a, b⟩ := scal_cnt h hs q ha.2
    refine ⟨?_, ?_⟩
    · simp only [List.all_cons, Bool.and_eq_true]
      exact ⟨scal_flat (.r p) ha.1, a⟩
    · rw [List.countP_cons, List.countP_cons, b, scal_eq h (.r p) hs ha.1]
theorem scal_idx {x : D} {v : V} (h : Pc G Z r ow H x v) (hs : scalar x = true) {ys : List D} {ws : List V} {j : Nat} (q : Reps G H (BB Z r ow) r ys ws) (ha : ys.all scalar = true) (e : ys.findIdx? (fun y => D.eqv y x) = some j) :
    ∃ z, ws[j]? = some z ∧ L2.eqV z v = true ∧ ∀ (m : Nat) (z' : V), m < j → ws[m]? = some z' → L2.eqV z' v = false := by
  obtain ⟨hj, h1, h2⟩ := List.findIdx?_eq_some_iff_getElem.mp e
  have sc : ∀ (m : Nat) (hm : m < ys.length), scalar ys[m] = true := fun m hm => List.all_eq_true.mp ha _ (List.getElem_mem hm)
  obtain ⟨z, e1, p1⟩ := q.at (List.getElem?_eq_getElem hj)
  refine ⟨z, e1, by rw [scal_eq h (.r p1) hs (sc j hj)]; exact h1, fun m z' hm hz' => ?_⟩
  have hml : m < ys.length := by omega
  obtain ⟨z2, e2, p2⟩ := q.at (List.getElem?_eq_getElem hml)
  rw [e2] at hz'
  cases hz'
  rw [scal_eq h (.r p2) hs (sc m hml)]
  have := h2 m hm
  simpa using this
end
section
variable {L : Lt} {xa : XA} {X : L2.Cx} {W : WX} {e e1 : Expr} {x y : Ex} {pos apos cpos p p1 p2 : Pos}
def mthR (K : PySem.W.Frag) : Mth → V → List V → Hp → VK → Prop
  | .lcnt => K1.rCnt K
  | .lidx => L2.rIndex K
def mthT : Mth → String
  | .lcnt => "list" | .lidx => "list"
theorem snd_mth {m : Mth} (hK : X.K = L.G.K) (h : PE X e (rdR L xa W x)) (h2 : PE X e1 (rdE L xa W y)) (hb : attributeBase e (mthName m) X.env (eval e X.env) = eval e X.env) (st : ∀ es, starEach (e1 :: es) X.env = (false, eval e1 X.env) :: starEach es X.env) (hl : (apos.endLine == cpos.line) = true) :
    PE X (.Call (.Attribute e (mthName m) apos) [e1] [] cpos) (rdE L xa W (.mth m x y)) := by
  have hf : ((backTo cpos (starEach [e1] X.env)).all (fun x => !x.1) && (backToKw cpos (keywordEach [] X.env)).all (fun x => x.1.isSome) && decide ([e1].length + ([] : List Keyword).length + (if ([] : List Keyword).isEmpty then 0 else 1) < 30)) = true := by
    rw [st]; rfl
  have key : PE X (.Call (.Attribute e (mthName m) apos) [e1] [] cpos) (L2.tBM X.K (mthT m) (mthR X.K m) (rdR L xa W x) (L2.tCons (rdE L xa W y) L2.tNil)) := by
    cases m
    · exact L2.pe_bm F.plainAttrs_list F.slot_list_count F.type_list_count K1.mt_cnt h (L2.pa_cons h2 L2.pa_nil (st [])) hb hf hl (st []) rfl
    · exact L2.pe_bm F.plainAttrs_list F.slot_list_index F.type_list_index L2.mt_index h (L2.pa_cons h2 L2.pa_nil (st [])) hb hf hl (st []) rfl
  refine PE.imp key fun s H Q q => ?_
  obtain ⟨Z, r, ow, S, env, fr, q⟩ := q
  simp only [evE] at q
  refine rdR.bind (P := PostE L xa Z r ow H env s Q (fun c d H' => W c d s H')) fr q (fun d1 S1 h1 v1 H1 r1 st1 fr1 p1 => ?_) (fun c d S' h => h) id
  split at h1
  case isFalse => exact h1.elim
  rename_i hk
  have ty : L2.tyV X.K (mthT m) v1 H1 := by
    rw [hK]
    cases m <;> cases d1 <;> simp [mthK] at hk
    all_goals
      obtain ⟨a, vs, rfl, g1, q1⟩ := p1.lst
      exact .inl ⟨rfl, vs, .of g1⟩
  refine ⟨ty, ?_⟩
  refine rdE.bind (P := PostE L xa Z r ow H env s Q (fun c d H' => W c d s H')) fr1 h1 (fun d2 S2 h2 v2 H2 r2 st2 fr2 p2 => ?_) (fun c d S' h cls dd H' r' st => h cls dd H' r' (st1.trans st)) id
  replace p1 := Pk.step fr1 st2 p1
  show mthR X.K m v1 [v2] H2 Q
  rw [hK]
  cases m <;> cases d1 <;> simp only [mthB] at h2 <;> (try exact h2.elim)
  case lcnt.lst ds =>
    split at h2
    · rename_i hz
      simp only [Bool.and_eq_true] at hz
      obtain ⟨a, vs, rfl, g1, q1⟩ := p1.lst
      obtain ⟨f1, f2⟩ := scal_cnt (.r p2) hz.1 q1 hz.2
      exact ⟨a, vs, v2, rfl, rfl, .of g1, scal_flat (.r p2) hz.1, f1, h2 _ _ _ (st1.trans st2) fr2 (by rw [Rep, f2])⟩
    · exact h2.elim
  case lidx.lst ds =>
    split at h2
    · rename_i hz
      simp only [Bool.and_eq_true] at hz
      cases ef : ds.findIdx? (fun z => D.eqv z d2) with
      | none => rw [ef] at h2; exact h2.elim
      | some j =>
        rw [ef] at h2
        obtain ⟨a, vs, rfl, g1, q1⟩ := p1.lst
        obtain ⟨f1, _⟩ := scal_cnt (.r p2) hz.1 q1 hz.2
        obtain ⟨z, w1, w2, w3⟩ := scal_idx (.r p2) hz.1 q1 hz.2 ef
        exact ⟨a, vs, v2, j, z, rfl, rfl, .of g1, scal_flat (.r p2) hz.1, f1, w1, w2, w3, h2 _ _ _ (st1.trans st2) fr2 (by rw [Rep])⟩
    · exact h2.elim
theorem snd_sset (hK : X.K = L.G.K) (hc : X.calm = true) (hg : L2.Gl X "sorted") (hm : X.mg "sorted" = none) (hg2 : L2.Gl X "set") (hm2 : X.mg "set" = none) (h : PE X e (rdR L xa W x)) (st : starEach [e] X.env = (false, eval e X.env) :: starEach [] X.env) :
    PE X (.Call (.Name "sorted" p) [.Call (.Name "set" p1) [e] [] p2] [] pos) (rdE L xa W (.sset x)) := by
  refine PE.imp (K2.pe_sset hc hg hm hg2 hm2 h st) fun s H Q q => ?_
  obtain ⟨Z, r, ow, S, env, fr, q⟩ := q
  simp only [evE] at q
  refine rdR.bind (P := PostE L xa Z r ow H env s Q (fun c d H' => W c d s H')) fr q (fun d1 S1 h1 v1 H1 r1 st1 fr1 p1 => ?_) (fun c d S' h => h) id
  cases d1 <;> simp only [ssB] at h1 <;> (try exact h1.elim)
  rename_i ds
  cases ei : intsD ds with
  | none => rw [ei] at h1; exact h1.elim
  | some ns =>
    rw [ei] at h1
    dsimp only at h1
    split at h1
    · rename_i hl
      obtain ⟨a, vs, e1, g1, q1⟩ := p1.lst
      have ev := q1.intsR ei
      subst ev
      rw [hK]
      refine ⟨a, ns, e1, .of g1, hl, fun ks p hk1 hk2 hp => ?_⟩
      have : ks = setI ns := risI_eq hk1 (setI_srt ns) fun v => by rw [hk2, setI_mem]
      subst this
      refine h1 _ _ _ (st1.trans (.laid hp)) (fr1.laid hp) (rep_lst fr1 hp ?_)
      generalize setI ns = l
      induction l with
      | nil => exact Reps.nil
      | cons k l ih => exact .cons (by rw [Rep]) ih
    · exact h1.elim
end
end Mi

set_option maxRecDepth 100000
set_option maxHeartbeats 4000000
namespace Mi
open PySem PySem.Spec PyProof.Rows
open L2 (V Hp HO upd upd_same upd_ne Same SqL SqT Rd VK XK WX PE PT PA OpR CallR IxR SlR TE TT TA tOp Dp DpAll PI TI PG PGs TG TGs)
theorem wipe_wipe : ∀ (is : List Nat) (s : L2.St), L2.wipe (L2.wipe s is) is = L2.wipe s is
  | [], s => rfl
  | k :: is, s => by
    show (L2.wipe ((L2.wipe s is).set k none) is).set k none = (L2.wipe s is).set k none
    by_cases hk : k ∈ is
    · rw [wipe_set is _ k none hk, wipe_wipe is s]
    · have cm : ∀ (js : List Nat) (s : L2.St), k ∉ js → L2.wipe (s.set k none) js = (L2.wipe s js).set k none := by
        intro js
        induction js with
        | nil => intro s _; rfl
        | cons j js ihj =>
          intro s hn
          show (L2.wipe (s.set k none) js).set j none = ((L2.wipe s js).set j none).set k none
          rw [ihj s fun z => hn (List.mem_cons_of_mem _ z), List.set_comm]
          exact fun z => hn (by rw [z]; exact List.mem_cons_self)
      rw [cm is _ hk, wipe_wipe is s, List.set_set]
section
variable {L : Lt} {xa : XA} {W : WX}
/-- the walk of one for, where the list at Dd stands already -/
theorem lc_in {e : Ex} {t : Tg} {c : Ex} {n : Nat} {Z : Addr → Prop} {ow : Nat → Option Addr} {env : Env} {s : L2.St} {Pq : Res D → Prop} {J : L2.It} {xs : List D} {Dd : Addr} {Fin : Hp → Prop} {K : List D → Sto → Res D} {X : Hp → List Addr → Sto → Prop} {N0 : Nat}
    (hX1 : ∀ H r S H' r' S', X H r S → Stp H r H' r' → StoR L.G H' (BB (ZD Z Dd) r' ow) r' S' → X H' r' S')
    (hX2 : ∀ H r S old new, X H r S → H Dd = some (.lst old) → X (upd H Dd (.lst new)) r S)
    (hgo : ∀ i H r S, X H r S → i < xs.length → J.go i H) (hstop : ∀ i H r S, X H r S → xs.length ≤ i → J.stop i H)
    (hyld : ∀ (i : Nat) H r S x H' d, X H r S → xs[i]? = some d → J.yld i H x H' → (H' = H ∨ ∃ T o, H T = none ∧ H' = upd H T (.tup o)) ∧ Rep L.G H' (BB (ZD Z Dd) r ow) r d x)
    (hw : okW env (slots t) = true) (hn : n = 0 → c = .cst (.bl true)) (hst : ¬ Pq .stuck) (hbd : N0 + xs.length ≤ SZ)
    (hend : ∀ acc accV S' Hc r', X Hc r' S' → acc.length ≤ N0 + xs.length → Pq (K acc S') → Hc Dd = some (.lst accV) → Reps L.G Hc (BB (ZD Z Dd) r' ow) r' acc accV → Fin Hc)
    {Hb : Hp} {rb : List Addr} {Sb : Sto} {acc0 : List D} {accV0 : List V} (fr0 : Fr L.G L.xc xa (ZD Z Dd) rb ow Hb Sb env s) (hx0 : X Hb rb Sb) (hD0 : Hb Dd = some (.lst accV0)) (ha0 : Reps L.G Hb (BB (ZD Z Dd) rb ow) rb acc0 accV0) (hl0 : acc0.length ≤ N0)
    (q : Pq ((lcL (turn L.F e t c env) xs Sb).bind fun ys S => K (acc0 ++ ys) S)) :
    ∃ Wt : Nat → Nat → Hp → Prop, (∃ m, Wt 0 m Hb) ∧ ∀ i m H, Wt i m H →
      (J.stop i H ∧ Fin H) ∨ (J.go i H ∧ ∃ Nx : Hp → Prop, (∀ H', Nx H' → ∃ m', m' < m ∧ Wt (i + 1) m' H') ∧ ∀ x H', J.yld i H x H' → rdG L xa t x (L2.wipe s (slots t)) H' fun σ2 H2 => L2.wipe σ2 (slots t) = L2.wipe s (slots t) ∧ rdC L xa WN n c σ2 H2 fun b H3 =>
        if b = true then rdE L xa WN e σ2 H3 fun y H4 => ∃ acc, H4 Dd = some (.lst acc) ∧ acc.length < sizeLine ∧ Nx (upd H4 Dd (.lst (acc ++ [y]))) else Nx H3) := by
  refine ⟨fun i m Hc => ∃ r' S' acc accV, m + i = xs.length ∧ Fr L.G L.xc xa (ZD Z Dd) r' ow Hc S' env s ∧ X Hc r' S' ∧ Hc Dd = some (.lst accV) ∧ Reps L.G Hc (BB (ZD Z Dd) r' ow) r' acc accV ∧ acc.length ≤ N0 + i ∧
    Pq ((lcL (turn L.F e t c env) (xs.drop i) S').bind fun ys S => K (acc ++ ys) S), ⟨xs.length, rb, Sb, acc0, accV0, rfl, fr0, hx0, hD0, ha0, by omega, by simpa using q⟩, ?_⟩
  intro i m Hc hW
  obtain ⟨r', S', acc, accV, hm, frc, hxc, hDc, hacc, hlen, qc⟩ := hW
  by_cases hi : i < xs.length
  · refine .inr ⟨hgo i Hc r' S' hxc hi, fun H' => ∃ r2 S2 acc2 accV2, Fr L.G L.xc xa (ZD Z Dd) r2 ow H' S2 env s ∧ X H' r2 S2 ∧ H' Dd = some (.lst accV2) ∧ Reps L.G H' (BB (ZD Z Dd) r2 ow) r2 acc2 accV2 ∧ acc2.length ≤ N0 + (i + 1) ∧
      Pq ((lcL (turn L.F e t c env) (xs.drop (i + 1)) S2).bind fun ys S => K (acc2 ++ ys) S), fun H' h => ?_, fun x H' hy => ?_⟩
    · obtain ⟨r2, S2, acc2, accV2, h1, h2, h3, h4, h5, h6⟩ := h
      exact ⟨m - 1, by omega, r2, S2, acc2, accV2, by omega, h1, h2, h3, h4, h5, h6⟩
    · obtain ⟨hH', rx⟩ := hyld i Hc r' S' x H' xs[i] hxc (List.getElem?_eq_getElem hi) hy
      have sty : Stp Hc r' H' r' := by
        rcases hH' with rfl | ⟨T, o, hT, rfl⟩
        · exact .refl
        · exact .laid hT
      have fry : Fr L.G L.xc xa (ZD Z Dd) r' ow H' S' env s := frc.step sty (frc.sto.yld hH')
      obtain ⟨frw, hno⟩ := fry.wipe hw
      have edrop : xs.drop i = xs[i] :: xs.drop (i + 1) := List.drop_eq_getElem_cons hi
      rw [edrop] at qc
      simp only [lcL] at qc
      have edf : turn L.F e t c env xs[i] S' = match asg t xs[i] (wipS (slots t) env) with
        | some env' => (evE L.F c env' S').bind fun b S => match b with
          | .bl true => (evE L.F e env' S).bind fun y S => .ok (some y) S
          | .bl false => .ok none S
          | _ => .stuck
        | none => .stuck := rfl
      cases ea : asg t xs[i] (wipS (slots t) env) with
      | none => rw [edf, ea] at qc; exact (hst qc).elim
      | some env' =>
        rw [ea] at edf
        dsimp only at edf
        refine ⟨ZD Z Dd, r', ow, S', _, _, env', frw, rx, ea, fun s2 ow2 le2 n2 fr2 w2 => ⟨?_, ?_⟩⟩
        · rw [w2 (slots t) fun _ h => h]
          exact wipe_wipe (slots t) s
        · have eow : ow2 = ow := funext fun j => by
            by_cases hj : j ∈ slots t
            · rcases le2 j with e' | e'
              · exact e'
              · rw [e', hno j hj]
            · exact n2 j hj
          subst eow
          have elt : ∀ {H3 : Hp} {r3 : List Addr} {S3 : Sto}, Stp H' r' H3 r3 → Fr L.G L.xc xa (ZD Z Dd) r3 ow2 H3 S3 env' s2 → (turn L.F e t c env xs[i] S' = (evE L.F e env' S3).bind fun y S => .ok (some y) S) →
              rdE L xa WN e s2 H3 fun y H4 => ∃ acc, H4 Dd = some (.lst acc) ∧ acc.length < sizeLine ∧ ∃ r2 S2 acc2 accV2, Fr L.G L.xc xa (ZD Z Dd) r2 ow2 (upd H4 Dd (.lst (acc ++ [y]))) S2 env s ∧ X (upd H4 Dd (.lst (acc ++ [y]))) r2 S2 ∧
                (upd H4 Dd (.lst (acc ++ [y]))) Dd = some (.lst accV2) ∧ Reps L.G (upd H4 Dd (.lst (acc ++ [y]))) (BB (ZD Z Dd) r2 ow2) r2 acc2 accV2 ∧ acc2.length ≤ N0 + (i + 1) ∧
                Pq ((lcL (turn L.F e t c env) (xs.drop (i + 1)) S2).bind fun ys S => K (acc2 ++ ys) S) := by
            intro H3 r3 S3 st3 fr3 et
            rw [et] at qc
            refine ⟨ZD Z Dd, r3, ow2, S3, env', fr3, ?_⟩
            cases ee : evE L.F e env' S3 with
            | stuck => rw [ee] at qc; exact (hst qc).elim
            | exc c d S4 => rw [ee] at qc; exact (hst qc).elim
            | ok y S4 =>
              rw [ee] at qc
              intro v H4 r4 st4 fr4 ry
              have stall : Stp Hc r' H4 r4 := sty.trans (st3.trans st4)
              have hD4 : H4 Dd = some (.lst accV) := stall.keep _ _ hDc fun z => frc.zr Dd z (.inr rfl)
              have fr4' : Fr L.G L.xc xa (ZD Z Dd) r4 ow2 H4 S4 env s := frc.step stall fr4.sto
              refine ⟨accV, hD4, ?_, r4, S4, acc ++ [y], accV ++ [v], fr4'.wr (.inr rfl) hD4, hX2 _ _ _ _ _ (hX1 _ _ _ _ _ _ hxc stall fr4.sto) hD4, upd_same, reps_wr (.inr rfl) hD4 ((stall.reps hacc).append (.cons ry Reps.nil)), by simp; omega, ?_⟩
              · rw [hacc.len, ← sz_eq]; omega
              · simp only [Res.bind] at qc
                have eq2 : ∀ R : Res (List Mi.D), ((R.bind fun r S2 => Res.ok (y :: r) S2).bind fun ys S => K (acc ++ ys) S) = R.bind fun ys S => K ((acc ++ [y]) ++ ys) S := by
                  intro R
                  cases R <;> simp [Res.bind]
                rw [← eq2]
                exact qc
          unfold rdC
          split
          · rename_i hn0
            have hc := hn hn0
            subst hc
            refine ⟨rfl, ?_⟩
            dsimp only
            rw [if_pos rfl]
            refine elt .refl fr2 ?_
            rw [edf]
            simp only [evE, Res.bind]
          · refine ⟨ZD Z Dd, r', ow2, S', env', fr2, ?_⟩
            cases ec : evE L.F c env' S' with
            | stuck => rw [edf, ec] at qc; exact (hst qc).elim
            | exc c d S4 => rw [edf, ec] at qc; exact (hst qc).elim
            | ok b S3 =>
              intro v H3 r3 st3 fr3 rb
              cases b with
              | bl b =>
                rw [Rep] at rb
                refine ⟨b, rb, ?_⟩
                cases b with
                | true =>
                  rw [if_pos rfl]
                  refine elt st3 fr3 ?_
                  rw [edf, ec]
                  rfl
                | false =>
                  rw [if_neg (by decide)]
                  have stall : Stp Hc r' H3 r3 := sty.trans st3
                  have hD3 : H3 Dd = some (.lst accV) := stall.keep _ _ hDc fun z => frc.zr Dd z (.inr rfl)
                  have fr3' : Fr L.G L.xc xa (ZD Z Dd) r3 ow2 H3 S3 env s := frc.step stall fr3.sto
                  refine ⟨r3, S3, acc, accV, fr3', hX1 _ _ _ _ _ _ hxc stall fr3.sto, hD3, stall.reps hacc, by omega, ?_⟩
                  rw [edf, ec] at qc
                  simp only [Res.bind] at qc
                  have eq2 : ∀ R : Res (List Mi.D), ((R.bind fun r S2 => Res.ok r S2).bind fun ys S => K (acc ++ ys) S) = R.bind fun ys S => K (acc ++ ys) S := by
                    intro R
                    cases R <;> simp [Res.bind]
                  rw [← eq2]
                  exact qc
              | _ => rw [edf, ec] at qc; exact (hst qc).elim
  · refine .inl ⟨hstop i Hc r' S' hxc (by omega), ?_⟩
    have hd : xs.drop i = [] := List.drop_eq_nil_of_le (by omega)
    rw [hd] at qc
    simp only [lcL, Res.bind, List.append_nil] at qc
    exact hend acc accV S' Hc r' hxc (by omega) qc hDc hacc
/-- one turn of the outer for, as evE has it -/
def turn2 (F : Fns) (e : Ex) (t1 t2 : Tg) (it2 c : Ex) (env : Env) : D → Sto → Res (List D) := fun d S => match asg t1 d (wipS (slots t1 ++ slots t2) env) with
  | some env1 => match (if noOwnIt it2 env1 = true then evE F it2 env1 S else .stuck) with
    | .ok y S => match itB y with
      | some ys => if (decide (ys.length ≤ 4000) && okW env1 (slots t2)) = true then lcL (turn F e t2 c env1) ys S else .stuck
      | none => .stuck
    | _ => .stuck
  | none => .stuck
/-- the walk of both -/
theorem lc2_ok {e : Ex} {t1 t2 : Tg} {it2 c : Ex} {n : Nat} {Z : Addr → Prop} {r1 : List Addr} {ow : Nat → Option Addr} {H1 : Hp} {S1 : Sto} {env : Env} {s : L2.St} {Q : VK} {Pq : Res D → Prop} {J : L2.It} {xs : List D} {P : Hp → Prop} {As : List Addr} {ds : List D} {ws : List V}
    (fr1 : Fr L.G L.xc xa Z r1 ow H1 S1 env s) (src : Src L.G J xs P As ds ws) (hP : P H1) (hr : Reps L.G H1 (BB Z r1 ow) r1 ds ws) (hA : ∀ a ∈ As, (∃ o, H1 a = some o) ∧ a ∉ r1)
    (hz : xs.length ≤ 4000) (hw : okW env (slots t1 ++ slots t2) = true) (hn : n = 0 → c = .cst (.bl true))
    (hst : ¬ Pq .stuck) (hend : ∀ D acc accV S' Hc r', H1 D = none → Pq (.ok (.lst acc) S') → Stp H1 r1 Hc r' → Fr L.G L.xc xa (ZD Z D) r' ow Hc S' env s → Hc D = some (.lst accV) → Reps L.G Hc (BB (ZD Z D) r' ow) r' acc accV → Q (.ref D) Hc)
    (q : Pq ((catL (turn2 L.F e t1 t2 it2 c env) xs S1).bind fun ys S => .ok (.lst ys) S)) :
    ∀ D, H1 D = none → ∃ Wt : Nat → Nat → Hp → Prop, (∃ m, Wt 0 m (upd H1 D (.lst []))) ∧ ∀ i m H, Wt i m H →
      (J.stop i H ∧ Q (.ref D) H) ∨ (J.go i H ∧ ∃ Nx : Hp → Prop, (∀ H', Nx H' → ∃ m', m' < m ∧ Wt (i + 1) m' H') ∧ ∀ x H', J.yld i H x H' → rdG L xa t1 x (L2.wipe s (slots t1 ++ slots t2)) H' fun σ2 H2 => L2.wipe σ2 (slots t1 ++ slots t2) = L2.wipe s (slots t1 ++ slots t2) ∧ rdC L xa WN 0 (.cst (.bl true)) σ2 H2 fun b H3 =>
        if b = true then rdI L xa WN false it2 σ2 H3 fun J1 H4 => ∃ W1 : Nat → Nat → Hp → Prop, (∃ m, W1 0 m H4) ∧ ∀ j k H, W1 j k H →
          (J1.stop j H ∧ Nx H) ∨ (J1.go j H ∧ ∃ Nx1 : Hp → Prop, (∀ H', Nx1 H' → ∃ k', k' < k ∧ W1 (j + 1) k' H') ∧ ∀ x H', J1.yld j H x H' → rdG L xa t2 x (L2.wipe σ2 (slots t2)) H' fun σ3 H5 => L2.wipe σ3 (slots t2) = L2.wipe σ2 (slots t2) ∧ rdC L xa WN n c σ3 H5 fun b H6 =>
            if b = true then rdE L xa WN e σ3 H6 fun y H7 => ∃ acc, H7 D = some (.lst acc) ∧ acc.length < sizeLine ∧ Nx1 (upd H7 D (.lst (acc ++ [y]))) else Nx1 H6) else Nx H3) := by
  intro D hD
  refine ⟨fun i m Hc => ∃ r' S' acc accV, m + i = xs.length ∧ Stp H1 r1 Hc r' ∧ Fr L.G L.xc xa (ZD Z D) r' ow Hc S' env s ∧ P Hc ∧ Reps L.G Hc (BB (ZD Z D) r' ow) r' ds ws ∧ Hc D = some (.lst accV) ∧ Reps L.G Hc (BB (ZD Z D) r' ow) r' acc accV ∧ acc.length ≤ 4000 * i ∧
    Pq ((catL (turn2 L.F e t1 t2 it2 c env) (xs.drop i) S').bind fun ys S => .ok (.lst (acc ++ ys)) S), ⟨xs.length, r1, S1, [], [], rfl, .laid hD, fr1.laidZ hD, ?_, reps_zd fr1 hD hr, upd_same, Reps.nil, Nat.zero_le _, ?_⟩, ?_⟩
  · refine src.stab _ _ hP (fun a ha => ?_) (fun a u e => ?_) (fun a u w e => ?_)
    · obtain ⟨⟨o, eo⟩, _⟩ := hA a ha
      rw [upd_ne (L2.ne_of_none eo hD)]
    · rw [upd_ne (L2.ne_of_none e hD)]; exact e
    · rw [upd_ne (L2.ne_of_none e hD)]; exact e
  · simpa using q
  · intro i m Hc hW
    obtain ⟨r', S', acc, accV, hm, stc, frc, hPc, hrc, hDc, hacc, hlen, qc⟩ := hW
    by_cases hi : i < xs.length
    · -- what the outer loop keeps through the inner one
      have keepA : ∀ {H r H' r'}, Stp H1 r1 H r → Stp H r H' r' → ∀ a ∈ As, H' a = H a := fun {H r H' r'} k1 k2 a ha => by
        obtain ⟨⟨o, eo⟩, hnr⟩ := hA a ha
        rw [(k1.trans k2).keep a o eo hnr, k1.keep a o eo hnr]
      refine .inr ⟨src.go i Hc hPc hi, fun H' => ∃ r2 S2 acc2 accV2, Stp H1 r1 H' r2 ∧ Fr L.G L.xc xa (ZD Z D) r2 ow H' S2 env s ∧ P H' ∧ Reps L.G H' (BB (ZD Z D) r2 ow) r2 ds ws ∧ H' D = some (.lst accV2) ∧ Reps L.G H' (BB (ZD Z D) r2 ow) r2 acc2 accV2 ∧ acc2.length ≤ 4000 * (i + 1) ∧
        Pq ((catL (turn2 L.F e t1 t2 it2 c env) (xs.drop (i + 1)) S2).bind fun ys S => .ok (.lst (acc2 ++ ys)) S), fun H' h => ?_, fun x H' hy => ?_⟩
      · obtain ⟨r2, S2, acc2, accV2, h1, h2, h3, h4, h5, h6, h7, h8⟩ := h
        exact ⟨m - 1, by omega, r2, S2, acc2, accV2, by omega, h1, h2, h3, h4, h5, h6, h7, h8⟩
      · obtain ⟨hH', hrep⟩ := src.yld i Hc x H' xs[i] hPc (List.getElem?_eq_getElem hi) hy
        have rx := hrep _ _ hrc
        have sty : Stp Hc r' H' r' := by
          rcases hH' with rfl | ⟨T, o, hT, rfl⟩
          · exact .refl
          · exact .laid hT
        have fry : Fr L.G L.xc xa (ZD Z D) r' ow H' S' env s := frc.step sty (frc.sto.yld hH')
        obtain ⟨frw, hno⟩ := fry.wipe hw
        have edrop : xs.drop i = xs[i] :: xs.drop (i + 1) := List.drop_eq_getElem_cons hi
        rw [edrop] at qc
        simp only [catL] at qc
        cases ea : asg t1 xs[i] (wipS (slots t1 ++ slots t2) env) with
        | none =>
          have ed : turn2 L.F e t1 t2 it2 c env xs[i] S' = .stuck := by unfold turn2; rw [ea]
          rw [ed] at qc
          exact (hst qc).elim
        | some env1 =>
          have ed : turn2 L.F e t1 t2 it2 c env xs[i] S' = match (if noOwnIt it2 env1 = true then evE L.F it2 env1 S' else .stuck) with
            | .ok y S => match itB y with
              | some ys => if (decide (ys.length ≤ 4000) && okW env1 (slots t2)) = true then lcL (turn L.F e t2 c env1) ys S else .stuck
              | none => .stuck
            | _ => .stuck := by unfold turn2; rw [ea]
          rw [ed] at qc
          refine ⟨ZD Z D, r', ow, S', _, _, env1, frw, rx, ea, fun s2 ow2 le2 n2 fr2 w2 => ⟨?_, ?_⟩⟩
          · rw [w2 (slots t1 ++ slots t2) fun j hj => List.mem_append_left _ hj]
            exact wipe_wipe _ s
          · have eow : ow2 = ow := funext fun j => by
              by_cases hj : j ∈ slots t1
              · rcases le2 j with e' | e'
                · exact e'
                · rw [e', hno j (List.mem_append_left _ hj)]
              · exact n2 j hj
            subst eow
            refine ⟨rfl, ?_⟩
            dsimp only
            rw [if_pos rfl]
            refine ⟨ZD Z D, r', ow2, S', env1, fr2, ?_⟩
            unfold evP
            rw [if_neg (by decide)]
            cases ei : (if noOwnIt it2 env1 = true then evE L.F it2 env1 S' else .stuck) with
            | stuck => rw [ei] at qc; exact (hst qc).elim
            | exc c d S4 => rw [ei] at qc; exact (hst qc).elim
            | ok y S3 =>
              rw [ei] at qc
              dsimp only at qc
              cases ey : itB y with
              | none => rw [ey] at qc; exact (hst qc).elim
              | some ys =>
                rw [ey] at qc
                dsimp only at qc
                have hzy : (decide (ys.length ≤ 4000) && okW env1 (slots t2)) = true := by
                  cases hb : (decide (ys.length ≤ 4000) && okW env1 (slots t2))
                  · rw [hb, if_neg (by decide)] at qc
                    exact (hst qc).elim
                  · rfl
                rw [if_pos hzy] at qc
                simp only [Bool.and_eq_true, decide_eq_true_eq] at hzy
                refine ⟨ys, ey, fun J1 H4 r4 P1 As1 ds1 ws1 st4 fr4 src1 hP1 hr1 hA1 => ?_⟩
                have stall : Stp Hc r' H4 r4 := sty.trans st4
                have hD4 : H4 D = some (.lst accV) := stall.keep _ _ hDc fun z => frc.zr D z (.inr rfl)
                have fr4' : Fr L.G L.xc xa (ZD Z D) r4 ow2 H4 S3 env s := frc.step stall fr4.sto
                have eq2 : ∀ R : Res (List Mi.D), Pq ((match R with
                    | .ok a S1 => (catL (turn2 L.F e t1 t2 it2 c env) (xs.drop (i + 1)) S1).bind fun r S2 => Res.ok (a ++ r) S2
                    | _ => .stuck).bind fun ys S => Res.ok (Mi.D.lst (acc ++ ys)) S) → Pq (R.bind fun a S => ((catL (turn2 L.F e t1 t2 it2 c env) (xs.drop (i + 1)) S).bind fun ys S => .ok (.lst ((acc ++ a) ++ ys)) S)) ∨ ∃ c d S, R = .exc c d S := by
                  intro R h
                  cases R with
                  | ok a S =>
                    left
                    simp only [Res.bind] at h ⊢
                    cases hcc : catL (turn2 L.F e t1 t2 it2 c env) (xs.drop (i + 1)) S with
                    | ok b S5 => rw [hcc] at h; simpa [Res.bind] using h
                    | exc c d S5 => rw [hcc] at h; simpa [Res.bind] using h
                    | stuck => rw [hcc] at h; simpa [Res.bind] using h
                  | exc c d S => exact .inr ⟨c, d, S, rfl⟩
                  | stuck => exact (hst (by simpa [Res.bind] using h)).elim
                have qin : Pq ((lcL (turn L.F e t2 c env1) ys S3).bind fun a S => ((catL (turn2 L.F e t1 t2 it2 c env) (xs.drop (i + 1)) S).bind fun ys S => .ok (.lst ((acc ++ a) ++ ys)) S)) := by
                  rcases eq2 _ qc with h | ⟨c', d', S5, h⟩
                  · exact h
                  · exfalso
                    rw [h] at qc
                    exact hst qc
                refine lc_in (N0 := acc.length) (X := fun H r S => Stp H1 r1 H r ∧ Fr L.G L.xc xa (ZD Z D) r ow2 H S env s ∧ P H ∧ Reps L.G H (BB (ZD Z D) r ow2) r ds ws ∧ P1 H ∧ Reps L.G H (BB (ZD Z D) r ow2) r ds1 ws1 ∧ (∀ a ∈ As1, (∃ o, H a = some o) ∧ a ∉ r ∧ a ≠ D))
                  (K := fun a S => (catL (turn2 L.F e t1 t2 it2 c env) (xs.drop (i + 1)) S).bind fun ys S => .ok (.lst (a ++ ys)) S) ?_ ?_ ?_ ?_ ?_ hzy.2 hn hst ?_ ?_ fr4 ⟨stc.trans stall, fr4', src.stab _ _ hPc (keepA stc stall) (fun a u e => stall.tups a u e) (fun a u w e => stall.frzs a u w e), stall.reps hrc, hP1, hr1, fun a ha => ⟨(hA1 a ha).1, (hA1 a ha).2.1, fun z => (hA1 a ha).2.2 rfl (.inl (.inr z))⟩⟩ hD4 (stall.reps hacc) (Nat.le_refl _) qin
                · rintro H r S Ha ra Sa ⟨x1, x2, x3, x4, x5, x6, x7⟩ st so
                  have ka : ∀ a ∈ As1, Ha a = H a := fun a ha => by
                    obtain ⟨⟨o, eo⟩, hnr, _⟩ := x7 a ha
                    rw [eo]; exact st.keep a o eo hnr
                  refine ⟨x1.trans st, x2.step st so, src.stab _ _ x3 (keepA x1 st) (fun a u e => st.tups a u e) (fun a u w e => st.frzs a u w e), st.reps x4, src1.stab _ _ x5 ka (fun a u e => st.tups a u e) (fun a u w e => st.frzs a u w e), st.reps x6, fun a ha => ?_⟩
                  obtain ⟨⟨o, eo⟩, hnr, hne⟩ := x7 a ha
                  refine ⟨⟨o, st.keep a o eo hnr⟩, fun z => ?_, hne⟩
                  rcases st.new a z with z | z
                  · exact hnr z
                  · rw [eo] at z; cases z
                · rintro H r S old new ⟨x1, x2, x3, x4, x5, x6, x7⟩ hDo
                  have nt : ∀ a u, H a = some (.tup u) → upd H D (.lst new) a = some (.tup u) := fun a u e => by rw [upd_ne (L2.ne_of e hDo (by intro z; cases z))]; exact e
                  have nf : ∀ a u w, H a = some (.frz u w) → upd H D (.lst new) a = some (.frz u w) := fun a u w e => by rw [upd_ne (L2.ne_of e hDo (by intro z; cases z))]; exact e
                  refine ⟨x1.wr hD, x2.wr (.inr rfl) hDo, src.stab _ _ x3 (fun a ha => ?_) nt nf, reps_wr (.inr rfl) hDo x4, src1.stab _ _ x5 (fun a ha => ?_) nt nf, reps_wr (.inr rfl) hDo x6, fun a ha => ?_⟩
                  · obtain ⟨⟨o, eo⟩, _⟩ := hA a ha
                    rw [upd_ne (L2.ne_of_none eo hD)]
                  · rw [upd_ne (x7 a ha).2.2]
                  · obtain ⟨⟨o, eo⟩, hnr, hne⟩ := x7 a ha
                    exact ⟨⟨o, by rw [upd_ne hne]; exact eo⟩, hnr, hne⟩
                · rintro j H r S ⟨x1, x2, x3, x4, x5, x6, x7⟩ hj
                  exact src1.go j H x5 hj
                · rintro j H r S ⟨x1, x2, x3, x4, x5, x6, x7⟩ hj
                  exact src1.stop j H x5 hj
                · rintro j H r S z Hz d ⟨x1, x2, x3, x4, x5, x6, x7⟩ ed' hyz
                  obtain ⟨k1, k2⟩ := src1.yld j H z Hz d x5 ed' hyz
                  exact ⟨k1, k2 _ _ x6⟩
                · have : acc.length ≤ 4000 * i := hlen
                  show acc.length + ys.length ≤ 16777216
                  have h1 := hzy.1
                  omega
                · rintro acc' accV' Sz Hz rz ⟨x1, x2, x3, x4, x5, x6, x7⟩ hl' pq hDz hrz
                  exact ⟨rz, Sz, acc', accV', x1, x2, x3, x4, hDz, hrz, by have := hzy.1; omega, pq⟩
    · refine .inl ⟨src.stop i Hc hPc (by omega), ?_⟩
      have hd : xs.drop i = [] := List.drop_eq_nil_of_le (by omega)
      rw [hd] at qc
      simp only [catL, Res.bind, List.append_nil] at qc
      exact hend D acc accV S' Hc r' hD qc stc frc hDc hacc
theorem lc2_read {e : Ex} {t1 t2 : Tg} {it1 it2 c : Ex} {n : Nat} (hn : n = 0 → c = .cst (.bl true)) {s : L2.St} {H : Hp} {Q : VK} (q : rdE L xa W (.lc2 e t1 it1 t2 it2 c) s H Q) : L2.tLc2 (rdI L xa W true it1) (rdG L xa t1) (rdC L xa WN 0 (.cst (.bl true))) (rdI L xa WN false it2) (rdG L xa t2) (rdC L xa WN n c) (rdE L xa WN e) (slots t1 ++ slots t2) (slots t2) s H Q := by
  obtain ⟨Z, r, ow, S, env, fr, q⟩ := q
  simp only [evE] at q
  refine ⟨Z, r, ow, S, env, fr, ?_⟩
  unfold evP
  rw [if_pos rfl]
  cases ee : rd it1 env S (evE L.F it1 env S) with
  | stuck => rw [ee] at q; exact q
  | exc c d S' => rw [ee] at q; exact q
  | ok d S1 =>
    rw [ee] at q
    simp only [Res.bind] at q
    cases ei : itB d with
    | none => rw [ei] at q; exact q.elim
    | some xs =>
      rw [ei] at q
      dsimp only at q
      split at q
      · rename_i hz
        simp only [Bool.and_eq_true, decide_eq_true_eq] at hz
        refine ⟨xs, ei, fun J H' r' P As ds ws st fr' src hP hr hA => ?_⟩
        refine lc2_ok (Pq := PostE L xa Z r ow H env s Q (fun c d H' => W c d s H')) fr' src hP hr (fun a ha => ⟨(hA a ha).1, (hA a ha).2.1⟩) hz.1 hz.2 hn id (fun D acc accV S' Hc r2 hD qc stc frc hDc hacc => ?_) q
        refine qc (.ref D) Hc r2 (st.trans stc) (frc.unban fun a z => .inl z) ?_
        rw [Rep]
        refine ⟨D, accV, rfl, fun z => ?_, hDc, Reps.ban (fun a z => ?_) hacc⟩
        · rcases z with z | z | ⟨j, z⟩
          · exact fr'.fresh hD (.inl z)
          · exact frc.zr D z (.inr rfl)
          · exact (frc.dis j D z).1 (.inr rfl)
        · rcases z with z | z
          · exact .inl (.inl z)
          · exact .inr z
      · exact q.elim
end
section
variable {G : Gd} {H : Hp} {B : Addr → Prop} {r : List Addr}
theorem Reps.strsR : ∀ {ds : List D} {vs : List V} {zs : List (List Nat)}, Reps G H B r ds vs → strsD ds = some zs → vs = (zs.map toStr).map V.str
  | [], _, _, h, e => by rw [Reps] at h; subst h; cases e; rfl
  | d :: ds, _, zs, h, e => by
    rw [Reps] at h
    obtain ⟨v, us, rfl, p, q⟩ := h
    cases d with
    | str i =>
      rw [Rep] at p
      simp only [Mi.strsD] at e
      cases e1 : Mi.strsD ds with
      | none => rw [e1] at e; cases e
      | some ms =>
        rw [e1] at e; cases e
        rw [Reps.strsR q e1, p.1]; rfl
    | _ => simp [Mi.strsD] at e
theorem cnt_eq : ∀ zs : List (List Nat), K3.cnt (zs.map toStr) = cntD zs
  | [] => rfl
  | z :: zs => by
    have e : ∀ ys : List (List Nat), ((ys.map toStr).any (· == toStr z)) = ys.any (· == z) := by
      intro ys
      induction ys with
      | nil => rfl
      | cons y ys ih => simp only [List.map_cons, List.any_cons, ih, toStr_beq]
    simp only [List.map_cons, K3.cnt, cntD, e, cnt_eq zs]
end
section
variable {L : Lt} {xa : XA} {X : L2.Cx} {W : WX} {e : Expr} {x : Ex} {pos p p1 p2 p3 : Pos}
theorem snd_lset {y : Str} {scope : Scope} (hK : X.K = L.G.K) (hc : X.calm = true) (hg : L2.Gl X "len") (hm : X.mg "len" = none) (h : PE X e (rdR L xa W x)) (hk : scope.kind = .function) (hnm : scope.names = [((".0" : Str), NameKind.local), (y, NameKind.local)]) (hd : (y == ("__debug__" : Str)) = false) (hf : ∀ v, foldedSetIterable e X.env v = pure v) :
    PE X (.Call (.Name "len" p) [.SetComp (.Name y p1) [⟨.Name y p2, e, [], 0⟩] scope p3] [] pos) (rdE L xa W (.lset x)) := by
  refine PE.imp (K3.pe_lset hc hg hm h hk hnm hd hf) fun s H Q q => ?_
  obtain ⟨Z, r, ow, S, env, fr, q⟩ := q
  simp only [evE] at q
  refine rdR.bind (P := PostE L xa Z r ow H env s Q (fun c d H' => W c d s H')) fr q (fun d1 S1 h1 v1 H1 r1 st1 fr1 p1 => ?_) (fun c d S' h => h) id
  have go : ∀ (ds : List D) (a : Addr) (vs : List V), seqOf d1 = some ds → v1 = .ref a → (SqL L.G.K H1 a vs ∨ SqT L.G.K H1 a vs) → Reps L.G H1 (BB Z r1 ow) r1 ds vs → ∃ (l : Addr) (zs : List Str), v1 = .ref l ∧ (SqL X.K H1 l (zs.map V.str) ∨ SqT X.K H1 l (zs.map V.str)) ∧ zs.length ≤ 1000 ∧ Q (.int (K3.cnt zs.reverse : Nat)) H1 := by
    intro ds a vs es ev hs hr
    unfold lsB at h1
    rw [es] at h1
    dsimp only at h1
    cases ez : strsD ds with
    | none => rw [ez] at h1; exact h1.elim
    | some zs =>
      rw [ez] at h1
      dsimp only at h1
      split at h1
      · rename_i hl
        have hv := hr.strsR ez
        subst hv
        rw [hK]
        refine ⟨a, zs.map toStr, ev, hs, by simpa using hl, ?_⟩
        rw [← List.map_reverse, cnt_eq]
        exact h1 _ _ _ st1 fr1 (by rw [Rep])
      · exact h1.elim
  cases d1 with
  | lst ds =>
    obtain ⟨a, vs, e1, g1, q1⟩ := p1.lst
    exact go ds a vs rfl e1 (.inl (.of g1)) q1
  | tup ds =>
    obtain ⟨a, vs, e1, g1, q1⟩ := p1.tup
    exact go ds a vs rfl e1 (.inr g1) q1
  | _ => exact h1.elim
end
end Mi

set_option maxRecDepth 100000
set_option maxHeartbeats 4000000
namespace Mi
open PySem PySem.Spec PyProof.Rows
open L2 (V Hp HO upd upd_same upd_ne Same SqL SqT Rd VK XK WX PE PT PA OpR CallR IxR SlR TE TT TA tOp Dp DpAll PI TI PG PGs TG TGs)
section
variable {G : Gd} {xc : Xc} {xa : XA} {Z : Addr → Prop} {r : List Addr} {ow : Nat → Option Addr} {H : Hp} {S : Sto} {env : Env} {s : L2.St}
theorem Stp.cell {p : Addr} {o : HO} (hp : H p = none) : Stp H r (upd H p o) (r ++ [p]) where
  pre := fun n a e => by
    rw [List.getElem?_append_left (List.getElem?_eq_some_iff.mp e).1]; exact e
  keep := fun a u e _ => by rw [upd_ne (L2.ne_of_none e hp)]; exact e
  tups := fun a u e => by rw [upd_ne (L2.ne_of_none e hp)]; exact e
  frzs := fun a u w e => by rw [upd_ne (L2.ne_of_none e hp)]; exact e
  new := fun a h => by
    rcases List.mem_append.mp h with h | h
    · exact .inl h
    · rw [List.mem_singleton.mp h]; exact .inr hp
  some_ := fun a u e => ⟨u, by rw [upd_ne (L2.ne_of_none e hp)]; exact e⟩
theorem Fr.notin (fr : Fr G xc xa Z r ow H S env s) {p : Addr} (hp : H p = none) : p ∉ r := fun h => by
  obtain ⟨o, e⟩ := fr.al p (.inr (.inl h))
  rw [hp] at e; cases e
theorem StoR.add {p : Addr} {o : HO} {c : Cell} (h : StoR G H (BB Z r ow) r S) (hp : H p = none) (hn : p ∉ r) (hc : CellR G (upd H p o) (BB Z (r ++ [p]) ow) (r ++ [p]) p c) : StoR G (upd H p o) (BB Z (r ++ [p]) ow) (r ++ [p]) (S ++ [c]) where
  len := by simp [h.len]
  nd := by
    rw [List.nodup_append]
    exact ⟨h.nd, by simp, fun a ha b hb => by rw [List.mem_singleton.mp hb]; exact fun e => hn (e ▸ ha)⟩
  cell := fun n a c' e1 e2 => by
    by_cases hl : n < r.length
    · rw [List.getElem?_append_left hl] at e1
      rw [List.getElem?_append_left (by rw [← h.len]; exact hl)] at e2
      refine CellR.mono (fun a u e _ => by rw [upd_ne (L2.ne_of_none e hp)]; exact e) (fun a u e => by rw [upd_ne (L2.ne_of_none e hp)]; exact e) (fun a u w e => by rw [upd_ne (L2.ne_of_none e hp)]; exact e) (fun a z => ?_) (fun n a e => ?_) (fun u e => by rw [upd_ne (L2.ne_of_none e hp)]; exact e) (h.cell n a c' e1 e2)
      · rcases z with z | z | z
        · exact .inl (.inl z)
        · rcases List.mem_append.mp z with z | z
          · exact .inl (.inr (.inl z))
          · rw [List.mem_singleton.mp z]; exact .inr hp
        · exact .inl (.inr (.inr z))
      · rw [List.getElem?_append_left (List.getElem?_eq_some_iff.mp e).1]; exact e
    · have hl2 : n = r.length := by
        have := (List.getElem?_eq_some_iff.mp e1).1
        simp at this
        omega
      subst hl2
      rw [List.getElem?_append_right (Nat.le_refl _), Nat.sub_self] at e1
      rw [List.getElem?_append_right (by rw [h.len]; exact Nat.le_refl _), h.len, Nat.sub_self] at e2
      simp at e1 e2
      subst e1
      subst e2
      exact hc
theorem Fr.cell (fr : Fr G xc xa Z r ow H S env s) {p : Addr} {o : HO} {c : Cell} (hp : H p = none) (hc : CellR G (upd H p o) (BB Z (r ++ [p]) ow) (r ++ [p]) p c) : Fr G xc xa Z (r ++ [p]) ow (upd H p o) (S ++ [c]) env s :=
  fr.step (.cell hp) (fr.sto.add hp (fr.notin hp) hc)
theorem rep_new (fr : Fr G xc xa Z r ow H S env s) {p : Addr} {H' : Hp} {B : Addr → Prop} : Rep G H' B (r ++ [p]) (.ref S.length) (.ref p) := by
  rw [Rep]
  exact ⟨p, by rw [← fr.sto.len, List.getElem?_append_right (Nat.le_refl _), Nat.sub_self]; rfl, rfl⟩
theorem CellR.plain {B : Addr → Prop} {a : Addr} : ∀ {c : Cell}, CellR G H B r a c → (∀ xs, H a ≠ some (.tup xs)) ∧ ∀ o u, H a ≠ some (.frz o u)
  | .lst _, ⟨_, e, _⟩ => ⟨fun xs z => (by rw [e] at z; cases z), fun o u z => (by rw [e] at z; cases z)⟩
  | .ins _ _, ⟨_, _, _, _, e, _⟩ => ⟨fun xs z => (by rw [e] at z; cases z), fun o u z => (by rw [e] at z; cases z)⟩
  | .dct false _, ⟨_, e, _⟩ => ⟨fun xs z => (by rw [e] at z; cases z), fun o u z => (by rw [e] at z; cases z)⟩
  | .dct true _, h => h.elim
theorem nodup_at {l : List Addr} (h : l.Nodup) {i j : Nat} {a : Addr} (h1 : l[i]? = some a) (h2 : l[j]? = some a) : i = j := by
  have l1 := (List.getElem?_eq_some_iff.mp h1).1
  have := (List.getElem?_inj l1 h).mp (h1.trans h2.symm)
  exact this
theorem Fr.wcell (fr : Fr G xc xa Z r ow H S env s) {n : Nat} {a : Addr} {c0 c : Cell} {o : HO} (hr : r[n]? = some a) (h0 : S[n]? = some c0) (hc : CellR G (upd H a o) (BB Z r ow) r a c) :
    Stp H r (upd H a o) r ∧ Fr G xc xa Z r ow (upd H a o) (S.set n c) env s := by
  have pl := (fr.sto.cell n a c0 hr h0).plain
  have ha : a ∈ r := List.mem_of_getElem? hr
  have nt : ∀ b xs, H b = some (.tup xs) → upd H a o b = some (.tup xs) := fun b xs e => by
    by_cases hb : b = a
    · subst hb; exact absurd e (pl.1 xs)
    · rw [upd_ne hb]; exact e
  have nf : ∀ b q u, H b = some (.frz q u) → upd H a o b = some (.frz q u) := fun b q u e => by
    by_cases hb : b = a
    · subst hb; exact absurd e (pl.2 q u)
    · rw [upd_ne hb]; exact e
  have st : Stp H r (upd H a o) r := by
    refine ⟨fun _ _ h => h, fun b u e hn => ?_, nt, nf, fun _ h => .inl h, fun b u e => ?_⟩
    · rw [upd_ne fun z => hn (by rw [z]; exact ha)]; exact e
    · by_cases hb : b = a
      · rw [hb]; exact ⟨_, upd_same⟩
      · rw [upd_ne hb]; exact ⟨u, e⟩
  refine ⟨st, fr.step st ⟨by rw [List.length_set]; exact fr.sto.len, fr.sto.nd, fun m b c' e1 e2 => ?_⟩⟩
  by_cases hm : m = n
  · subst hm
    rw [hr] at e1
    cases e1
    rw [List.getElem?_set_self (List.getElem?_eq_some_iff.mp h0).1] at e2
    cases e2
    exact hc
  · rw [List.getElem?_set_ne (Ne.symm hm)] at e2
    have hb : b ≠ a := fun z => hm (nodup_at fr.sto.nd e1 (by rw [z]; exact hr))
    refine CellR.mono (fun x u e nb => ?_) nt nf (fun x z => .inl z) (fun _ _ e => e) (fun u e => ?_) (fr.sto.cell m b c' e1 e2)
    · rw [upd_ne fun z => nb (.inr (.inl (by rw [z]; exact ha)))]; exact e
    · rw [upd_ne hb]; exact e
/-- what stands in a cell stays told where a cell is written -/
theorem reps_wc {a : Addr} {o : HO} {ds : List D} {vs : List V} (ha : a ∈ r) (pl : (∀ xs, H a ≠ some (.tup xs)) ∧ ∀ o u, H a ≠ some (.frz o u)) (h : Reps G H (BB Z r ow) r ds vs) : Reps G (upd H a o) (BB Z r ow) r ds vs := by
  refine Reps.mono (fun x u e nb => ?_) (fun b xs e => ?_) (fun b q u e => ?_) (fun x z => .inl z) (fun _ _ e => e) h
  · rw [upd_ne fun z => nb (.inr (.inl (by rw [z]; exact ha)))]; exact e
  · by_cases hb : b = a
    · subst hb; exact absurd e (pl.1 xs)
    · rw [upd_ne hb]; exact e
  · by_cases hb : b = a
    · subst hb; exact absurd e (pl.2 q u)
    · rw [upd_ne hb]; exact e
theorem rep_wc {a : Addr} {o : HO} {d : D} {v : V} (ha : a ∈ r) (pl : (∀ xs, H a ≠ some (.tup xs)) ∧ ∀ o u, H a ≠ some (.frz o u)) (h : Rep G H (BB Z r ow) r d v) : Rep G (upd H a o) (BB Z r ow) r d v := by
  have := reps_wc (o := o) ha pl (.cons h Reps.nil)
  rw [Reps] at this
  obtain ⟨v', ws, e, p, _⟩ := this
  cases e
  exact p
theorem fld_look {B : Addr → Prop} {i : Nat} {f : Str} (hf : G.fd[i]? = some f) {d : D} : ∀ {fs : List (Nat × D)} {us : List (Str × V)}, Paired (FldR G H B r) fs us → fs.lookup i = some d → ∃ v, us.lookup f = some v ∧ Rep G H B r d v
  | _, _, .nil, h => by cases h
  | _, _, .cons (a := (j, x)) (b := (g, w)) h t, hl => by
    rw [List.lookup_cons] at hl ⊢
    by_cases e : i = j
    · subst e
      have : f = g := by
        have := hf.symm.trans h.1
        cases this; rfl
      subst this
      simp only [beq_self_eq_true] at hl ⊢
      cases hl
      exact ⟨w, rfl, h.2⟩
    · have hb : (i == j) = false := beq_eq_false_iff_ne.mpr e
      rw [hb] at hl
      have hg : (f == g) = false := by
        refine beq_eq_false_iff_ne.mpr fun z => e ?_
        subst z
        have l1 := (List.getElem?_eq_some_iff.mp hf).1
        exact (List.getElem?_inj l1 G.nd).mp (hf.trans h.1.symm)
      rw [hg]
      exact fld_look hf t hl
theorem fld_put {B : Addr → Prop} {i : Nat} {f : Str} (hf : G.fd[i]? = some f) {d : D} {v : V} (rp : Rep G H B r d v) : ∀ {fs : List (Nat × D)} {us : List (Str × V)}, Paired (FldR G H B r) fs us → Paired (FldR G H B r) (putA i d fs) (L2.putF f v us)
  | _, _, .nil => .cons ⟨hf, rp⟩ .nil
  | _, _, .cons (a := (j, x)) (b := (g, w)) (l₁ := fs) (l₂ := us) h t => by
    have e1 : putA i d ((j, x) :: fs) = if j = i then (j, d) :: fs else (j, x) :: putA i d fs := rfl
    have e2 : L2.putF f v ((g, w) :: us) = if g = f then (g, v) :: us else (g, w) :: L2.putF f v us := rfl
    rw [e1, e2]
    by_cases e : j = i
    · subst e
      have : g = f := by
        have := h.1.symm.trans hf
        cases this; rfl
      rw [if_pos rfl, if_pos this]
      exact .cons ⟨h.1, rp⟩ t
    · have hg : g ≠ f := by
        refine fun z => e ?_
        subst z
        have l1 := (List.getElem?_eq_some_iff.mp hf).1
        exact ((List.getElem?_inj l1 G.nd).mp (hf.trans h.1.symm)).symm
      rw [if_neg e, if_neg hg]
      exact .cons h (fld_put hf rp t)
theorem fld_none {B : Addr → Prop} {m : Str} (hm : m ∉ G.fd) : ∀ {fs : List (Nat × D)} {us : List (Str × V)}, Paired (FldR G H B r) fs us → us.lookup m = none
  | _, _, .nil => rfl
  | _, _, .cons (a := (j, x)) (b := (g, w)) h t => by
    rw [List.lookup_cons]
    have : (m == g) = false := beq_eq_false_iff_ne.mpr fun z => hm (by rw [z]; exact List.mem_of_getElem? h.1)
    rw [this]
    exact fld_none hm t
theorem paired_len {α β : Type} {F : α → β → Prop} : ∀ {xs : List α} {ys : List β}, Paired F xs ys → ys.length = xs.length
  | _, _, .nil => rfl
  | _, _, .cons _ t => by simp [paired_len t]
/-- a reference's cell -/
theorem Fr.at (fr : Fr G xc xa Z r ow H S env s) {n : Nat} {v : V} {B : Addr → Prop} (h : Rep G H B r (.ref n) v) {c : Cell} (e : S[n]? = some c) : ∃ a, v = .ref a ∧ r[n]? = some a ∧ CellR G H (BB Z r ow) r a c := by
  rw [Rep] at h
  obtain ⟨a, h1, h2⟩ := h
  exact ⟨a, h2, h1, fr.sto.cell n a c h1 e⟩
/-- a value as it is looked at, a cell's list too -/
theorem Fr.drf (fr : Fr G xc xa Z r ow H S env s) {d : D} {v : V} (h : Rep G H (BB Z r ow) r d v) : Pc G Z r ow H (Mi.drf S d) v := by
  cases d with
  | ref n =>
    have e0 : Mi.drf S (.ref n) = match S[n]? with
      | some (.lst xs) => .lst xs
      | _ => .ref n := rfl
    rw [e0]
    cases e : S[n]? with
    | none => exact .r h
    | some c =>
      cases c with
      | lst xs =>
        obtain ⟨a, h1, h2, vs, h3, h4⟩ := fr.at h e
        exact .inr ⟨n, a, xs, vs, h2, rfl, h1, h3, h4⟩
      | ins c fs => exact .r h
      | dct t kvs => exact .r h
  | _ => exact .r h
end
section
variable {L : Lt} {xa : XA} {X : L2.Cx} {W : WX} {e e1 e2 e3 : Expr} {x y z : Ex} {pos p apos cpos : Pos}
/-- what the classes must be -/
def ClsOk (L : Lt) (X : L2.Cx) : Prop := ∀ c C, (c, C) ∈ L.G.cl → L2.Cls X.K C ∧ ∀ f ∈ L.G.fd, L2.NoAttr X.K C f
theorem fldB_some {S : Sto} {i : Nat} {d d' : D} (h : fldB S i d = some d') : ∃ n c fs, d = .ref n ∧ S[n]? = some (.ins c fs) ∧ fs.lookup i = some d' := by
  unfold fldB at h
  split at h
  · rename_i n
    split at h
    · rename_i c fs e
      exact ⟨n, c, fs, rfl, e, h⟩
    · cases h
  · cases h
theorem snd_fld {i : Nat} {f : Str} (ck : ClsOk L X) (hf : L.G.fd[i]? = some f) (h : PE X e (rdE L xa W x)) (hb : attributeBase e f X.env (eval e X.env) = eval e X.env) : PE X (.Attribute e f pos) (rdE L xa W (.fld i x)) := by
  refine PE.imp (L2.pe_fld h hb) fun s H Q q => ?_
  obtain ⟨Z, r, ow, S, env, fr, q⟩ := q
  simp only [evE] at q
  refine rdE.bind (P := PostE L xa Z r ow H env s Q (fun c d H' => W c d s H')) fr q (fun d S1 h1 v H1 r1 st1 fr1 p1 => ?_) (fun c d S' h => h) id
  cases ef : fldB S1 i d with
  | none => rw [ef] at h1; exact h1.elim
  | some d' =>
    rw [ef] at h1
    obtain ⟨n, c, fs, rfl, e1, e2⟩ := fldB_some ef
    obtain ⟨a, rfl, hr, C, dx, us, hc, ha, hp⟩ := fr1.at p1 e1
    obtain ⟨w, hw, rw'⟩ := fld_look hf hp e2
    obtain ⟨k1, k2⟩ := ck c C hc
    exact ⟨a, C, dx, us, w, rfl, ha, k1, k2 f (List.mem_of_getElem? hf), hw, h1 w H1 r1 st1 fr1 rw'⟩
theorem snd_cmpC {o : Cop} (hK : X.K = L.G.K) (hu : X.A.units + 65 < cLine) (h1 : PE X e1 (rdE L xa W x)) (h2 : PE X e2 (rdE L xa W y)) (hm : behindInMarks (copOf o) e2 = false) : PE X (.Compare e1 [copOf o] [e2] pos) (rdE L xa W (.cmpC o x y)) := by
  refine PE.imp (L2.pe_cmpR (cop_run o hu) h1 h2 hm) fun s H Q q => ?_
  obtain ⟨Z, r, ow, S, env, fr, q⟩ := q
  simp only [evE] at q
  rw [hK]
  refine rdE.bind (P := PostE L xa Z r ow H env s Q (fun c d H' => W c d s H')) fr q (fun d1 S1 h1 v1 H1 r1 st1 fr1 p1 => ?_) (fun c d S' h => h) id
  refine rdE.bind (P := PostE L xa Z r ow H env s Q (fun c d H' => W c d s H')) fr1 h1 (fun d2 S2 h2 v2 H2 r2 st2 fr2 p2 => ?_) (fun c d S' h cls dd H' r' st => h cls dd H' r' (st1.trans st)) id
  cases e : (cmpB o (drf S2 d1) (drf S2 d2)).map D.bl with
  | none => rw [e] at h2; exact h2.elim
  | some d =>
    rw [e] at h2
    exact cop_good o Z r2 ow H2 S2 env s _ _ v1 v2 d Q fr2 (fr2.drf (st2.rep p1)) (fr2.drf p2) e fun v H' r' st' fr' rp => h2 v H' r' ((st1.trans st2).trans st') fr' rp
theorem sndT_cmpC {o : Cop} (hK : X.K = L.G.K) (hu : X.A.units + 65 < cLine) (h1 : PE X e1 (rdE L xa W x)) (h2 : PE X e2 (rdE L xa W y)) (hm : behindInMarks (copOf o) e2 = false) : PT X (.Compare e1 [copOf o] [e2] pos) (rdT L xa W (.cmpC o x y)) := by
  refine PT.imp (L2.pt_cmpR (cop_run o hu) h1 h2 hm) fun s H Q q => ?_
  obtain ⟨Z, r, ow, S, env, fr, q⟩ := q
  simp only [evE] at q
  show tOp _ _ _ s H _
  rw [hK]
  refine rdE.bind (P := PostE L xa Z r ow H env s _ (fun c d H' => W c d s H')) fr q (fun d1 S1 h1 v1 H1 r1 st1 fr1 p1 => ?_) (fun c d S' h => h) id
  refine rdE.bind (P := PostE L xa Z r ow H env s _ (fun c d H' => W c d s H')) fr1 h1 (fun d2 S2 h2 v2 H2 r2 st2 fr2 p2 => ?_) (fun c d S' h cls dd H' r' st => h cls dd H' r' (st1.trans st)) id
  cases e : (cmpB o (drf S2 d1) (drf S2 d2)).map D.bl with
  | none => rw [e] at h2; exact h2.elim
  | some d =>
    rw [e] at h2
    exact cop_good o Z r2 ow H2 S2 env s _ _ v1 v2 d _ fr2 (fr2.drf (st2.rep p1)) (fr2.drf p2) e fun v H' r' st' fr' rp => h2 v H' r' ((st1.trans st2).trans st') fr' rp
theorem snd_binC {o : Bop} (hK : X.K = L.G.K) (h1 : PE X e1 (rdE L xa W x)) (h2 : PE X e2 (rdE L xa W y)) : PE X (.BinOp e1 (opOf o) e2 pos) (rdE L xa W (.binC o x y)) := by
  refine PE.imp (L2.pe_op (op_run o) h1 h2) fun s H Q q => ?_
  obtain ⟨Z, r, ow, S, env, fr, q⟩ := q
  simp only [evE] at q
  rw [hK]
  refine rdE.bind (P := PostE L xa Z r ow H env s Q (fun c d H' => W c d s H')) fr q (fun d1 S1 h1 v1 H1 r1 st1 fr1 p1 => ?_) (fun c d S' h => h) id
  refine rdE.bind (P := PostE L xa Z r ow H env s Q (fun c d H' => W c d s H')) fr1 h1 (fun d2 S2 h2 v2 H2 r2 st2 fr2 p2 => ?_) (fun c d S' h cls dd H' r' st => h cls dd H' r' (st1.trans st)) id
  cases e : opB o (drf S2 d1) (drf S2 d2) with
  | none => rw [e] at h2; exact h2.elim
  | some d =>
    rw [e] at h2
    exact op_good o Z r2 ow H2 S2 env s _ _ v1 v2 d Q fr2 (fr2.drf (st2.rep p1)) (fr2.drf p2) e fun v H' r' st' fr' rp => h2 v H' r' ((st1.trans st2).trans st') fr' rp
theorem snd_idxC (hK : X.K = L.G.K) (h1 : PE X e1 (rdE L xa W x)) (h2 : PE X e2 (rdE L xa W y)) (hs : L2.PlainIx e2) : PE X (.Subscript e1 e2 pos) (rdE L xa W (.idxC x y)) := by
  refine PE.imp (L2.pe_ix L2.ix_seq h1 h2 hs) fun s H Q q => ?_
  obtain ⟨Z, r, ow, S, env, fr, q⟩ := q
  simp only [evE] at q
  rw [hK]
  refine rdE.bind (P := PostE L xa Z r ow H env s Q (fun c d H' => W c d s H')) fr q (fun d1 S1 h1 v1 H1 r1 st1 fr1 p1 => ?_) (fun c d S' h => h) id
  refine rdE.bind (P := PostE L xa Z r ow H env s Q (fun c d H' => W c d s H')) fr1 h1 (fun d2 S2 h2 v2 H2 r2 st2 fr2 p2 => ?_) (fun c d S' h cls dd H' r' st => h cls dd H' r' (st1.trans st)) id
  cases e : idxB (drf S2 d1) d2 with
  | none => rw [e] at h2; exact h2.elim
  | some d =>
    rw [e] at h2
    exact idx_good Z r2 ow H2 S2 env s _ d2 v1 v2 d Q fr2 (fr2.drf (st2.rep p1)) (.r p2) e fun v H' r' st' fr' rp => h2 v H' r' ((st1.trans st2).trans st') fr' rp
end
end Mi

set_option maxRecDepth 100000
set_option maxHeartbeats 4000000
namespace Mi
open PySem PySem.Spec PyProof.Rows
open L2 (V Hp HO upd upd_same upd_ne Same SqL SqT Rd VK XK WX PE PT PA OpR CallR IxR SlR TE TT TA tOp Dp DpAll PI TI PG PGs TG TGs)
theorem mcall_tree {o : Expr} {m : Str} {apos pos : Pos} {args : List Expr} {kws : List Keyword} {env : PySem.Env} (hb : attributeBase o m env (eval o env) = eval o env)
    (hfew : methodCallForm (args.length + kws.length) (backTo pos (starEach args env)) (backToKw pos (keywordEach kws env)) = true) (hline : (apos.endLine == pos.line) = true) :
    eval (.Call (.Attribute o m apos) args kws pos) env = (do
      let ov ← eval o env
      standAt apos.atName
      let (f, first) ← holding [ov] (getMethod ov m (do return (← importBound o env).getD true))
      callWith pos f first (backTo pos (starEach args env)) (backToKw pos (keywordEach kws env))) :=
  L2.mcall_of hb fun ov => by
    unfold methodCall calleeOf methodCallPos
    simp [hfew, hline]
section
variable {X : L2.Cx} {e o : Expr} {pos apos p : Pos}
/-- a method of an instance, of whatever class it is among some -/
theorem pe_methG {P : Addr → Prop} {m : Str} {n : Nat} {ks : List Str} {sp : L2.Sp} {W : WX} {es : List Expr} {kws : List Keyword} {ta : TE} {t tk : TA} {gV : List V → List V → List V} (tks : L2.Takes X W)
    (he : PE X o ta) (ok : ∀ C, P C → L2.Cls X.K C ∧ ∃ (f : Addr) (fd : FuncData) (ps : List Str) (k : Nat) (g : List Value → List Value → List Value), L2.Meth X.K C m f ∧ L2.FnOk X.prog X.w X.K X.mg X.base (L2.CX X.prog X.w) k f fd ps sp ∧ L2.Room k X.A ∧ L2.KBn X.K fd ps (n + 1) ks g gV)
    (ha : PA X (e :: es) t) (hkw : L2.PK X kws tk) (hall : (backToKw pos (keywordEach kws X.env)).all (·.1.isSome) = true) (hks : (backToKw pos (keywordEach kws X.env)).filterMap (·.1) = ks)
    (hb : attributeBase o m X.env (eval o X.env) = eval o X.env) (hfew : methodCallForm ((e :: es).length + kws.length) (backTo pos (starEach (e :: es) X.env)) (backToKw pos (keywordEach kws X.env)) = true) (hline : (apos.endLine == pos.line) = true)
    (hst : starEach (e :: es) X.env = (false, eval e X.env) :: starEach es X.env)
    (hpl : ((backTo pos (starEach (e :: es) X.env)).any (·.1) || (backToKw pos (keywordEach kws X.env)).any (·.1.isNone)) = false) :
    PE X (.Call (.Attribute o m apos) (e :: es) kws pos) (fun σ H Q => ta σ H fun x H1 => ∃ a C dx fs, x = .ref a ∧ H1 a = some (.ins C dx fs) ∧ P C ∧ fs.lookup m = none ∧ t σ H1 fun vs H2 => tk σ H2 fun zs H3 => vs.length = n ∧ zs.length = ks.length ∧ sp (gV (.ref a :: vs) zs) H3 Q (L2.WE W σ)) := by
  refine ⟨fun pins s σ H Q I h => ?_⟩
  refine PySem.W.methodCall_KW (pl := (do return (← importBound o X.env).getD true)) (L2.thn (he.run pins s σ H _ I h) fun u s1 ⟨x, H1, I1, rx, a, C, dx, fs, ex, ea, hP, hl, q⟩ => ?_) (mcall_tree hb hfew hline)
  subst ex
  obtain rfl : u = Value.ref a := rx
  obtain ⟨c, f, fd, ps, k, g, hm, F, hr, hbn⟩ := ok C hP
  refine L2.getmeth_ok I1 ea c hm hl ?_
  have fin : ∀ (us : List Value) (s2 : Shared) (vs : List V) (H2 : Hp), L2.Inv X pins σ H2 s2 → L2.Vals vs us → (tk σ H2 fun zs H3 => vs.length = n ∧ zs.length = ks.length ∧ sp (gV (.ref a :: vs) zs) H3 Q (L2.WE W σ)) →
      wpAny (model X.prog X.w) X.A (evalAll ((backToKw pos (keywordEach kws X.env)).map (·.2))) (fun ws s3 => X.K.In s3.heap ∧ wpAny (model X.prog X.w) X.A (call (.ref f) ([.ref a] ++ us) (((backToKw pos (keywordEach kws X.env)).filterMap (·.1)).zip ws)) (L2.EP X pins σ Q) X.xe s3) X.xe s2 := by
    intro us s2 vs H2 I2 r q2
    refine L2.thn (hkw.run pos pins s2 σ H2 _ I2 q2) fun ws s3 ⟨zs, H3, I3, rz, l1, l2, q3⟩ => ⟨I3.kIn, ?_⟩
    rw [hks]
    have rr : L2.Vals (V.ref a :: vs) (Value.ref a :: us) := .cons rfl r
    have r2 := hbn.rel rr rz
    refine wpAny_call (codeAny_mono (F.run X.A X.stack s3 H3 ⟨Value.ref a :: us, ks.zip ws⟩ (g (Value.ref a :: us) ws) (gV (.ref a :: vs) zs) Q (L2.WE W σ) hr I3.env0 (hbn.to s3 (Value.ref a :: us) ws I3.kIn (by rw [List.length_cons, ← r.length, l1]) (rz.length.symm.trans l2)) r2 q3) fun r s' hq => ?_)
    cases r with
    | error e => exact L2.passAt tks σ pins H3 s3 e s' I3 hq
    | ok fl =>
      cases fl with
      | ret u => exact I3.after hq
      | next => exact False.elim hq
      | brk => exact False.elim hq
      | cont => exact False.elim hq
  refine PySem.W.callWith_KW (first := [.ref a]) (h₀ := X.base) I.ok.mod.kin hm.kp hall (L2.thn (ha.run pos pins s1 σ H1 _ I1 q) fun us s2 ⟨vs, H2, I2, r, q2⟩ => ?_) hpl hst
  exact fin us s2 vs H2 I2 r q2
/-- a method of an instance, of whatever class it is among some -/
theorem pe_methG0 {P : Addr → Prop} {m : Str}  {ks : List Str} {sp : L2.Sp} {W : WX} {kws : List Keyword} {ta : TE} {tk : TA} {gV : List V → List V → List V} (tks : L2.Takes X W)
    (he : PE X o ta) (ok : ∀ C, P C → L2.Cls X.K C ∧ ∃ (f : Addr) (fd : FuncData) (ps : List Str) (k : Nat) (g : List Value → List Value → List Value), L2.Meth X.K C m f ∧ L2.FnOk X.prog X.w X.K X.mg X.base (L2.CX X.prog X.w) k f fd ps sp ∧ L2.Room k X.A ∧ L2.KBn X.K fd ps 1 ks g gV)
    (hkw : L2.PK X kws tk) (hall : (backToKw pos (keywordEach kws X.env)).all (·.1.isSome) = true) (hks : (backToKw pos (keywordEach kws X.env)).filterMap (·.1) = ks)
    (hb : attributeBase o m X.env (eval o X.env) = eval o X.env) (hfew : methodCallForm (([] : List Expr).length + kws.length) (backTo pos (starEach [] X.env)) (backToKw pos (keywordEach kws X.env)) = true) (hline : (apos.endLine == pos.line) = true)
    (hpl : ((backTo pos (starEach [] X.env)).any (·.1) || (backToKw pos (keywordEach kws X.env)).any (·.1.isNone)) = false) :
    PE X (.Call (.Attribute o m apos) [] kws pos) (fun σ H Q => ta σ H fun x H1 => ∃ a C dx fs, x = .ref a ∧ H1 a = some (.ins C dx fs) ∧ P C ∧ fs.lookup m = none ∧ tk σ H1 fun zs H3 => zs.length = ks.length ∧ sp (gV [.ref a] zs) H3 Q (L2.WE W σ)) := by
  refine ⟨fun pins s σ H Q I h => ?_⟩
  refine PySem.W.methodCall_KW (pl := (do return (← importBound o X.env).getD true)) (L2.thn (he.run pins s σ H _ I h) fun u s1 ⟨x, H1, I1, rx, a, C, dx, fs, ex, ea, hP, hl, q⟩ => ?_) (mcall_tree hb hfew hline)
  subst ex
  obtain rfl : u = Value.ref a := rx
  obtain ⟨c, f, fd, ps, k, g, hm, F, hr, hbn⟩ := ok C hP
  refine L2.getmeth_ok I1 ea c hm hl ?_
  refine PySem.W.callWith_KW0 (first := [.ref a]) (h₀ := X.base) I.ok.mod.kin hm.kp hall ?_ hpl
  refine L2.thn (hkw.run pos pins s1 σ H1 _ I1 q) fun ws s3 ⟨zs, H3, I3, rz, l2, q3⟩ => ⟨I3.kIn, ?_⟩
  rw [hks]
  have rr : L2.Vals [V.ref a] [Value.ref a] := .cons rfl .nil
  have r2 := hbn.rel rr rz
  refine wpAny_call (codeAny_mono (F.run X.A X.stack s3 H3 ⟨[Value.ref a], ks.zip ws⟩ (g [Value.ref a] ws) (gV [.ref a] zs) Q (L2.WE W σ) hr I3.env0 (hbn.to s3 [Value.ref a] ws I3.kIn rfl (rz.length.symm.trans l2)) r2 q3) fun r s' hq => ?_)
  cases r with
  | error e => exact L2.passAt tks σ pins H3 s3 e s' I3 hq
  | ok fl =>
    cases fl with
    | ret u => exact I3.after hq
    | next => exact False.elim hq
    | brk => exact False.elim hq
    | cont => exact False.elim hq
/-- an instance is made, its __init__ run -/
theorem run_mkG {CX : L2.CXT} {k n : Nat} {f C : Addr} {fd : FuncData} {ps ks : List Str} {sp : L2.Sp} {E : XK} {g : List Value → List Value → List Value} {gV : List V → List V → List V} {pins : List (Addr × Obj)} {σ : L2.St} {H : Hp} {s : Shared} {Q : VK} {us ws : List Value} {vs zs : List V}
    (M : L2.Mk X.K C f) (F : L2.FnOk X.prog X.w X.K X.mg X.base CX k f fd ps sp) (hr : L2.Room (k + 1) X.A) (hb : L2.KBn X.K fd ps (n + 1) ks g gV) (hx : L2.PassesAt CX X σ E)
    (I : L2.Inv X pins σ H s) (r : L2.Vals vs us) (rz : L2.Vals zs ws) (l1 : vs.length = n) (l2 : zs.length = ks.length)
    (h : ∀ x dx, H x = none → H dx = none → dx ≠ x → sp (gV (.ref x :: vs) zs) (upd (upd H dx (.own x)) x (.ins C dx [])) (fun v H2 => v = .non ∧ Q (.ref x) H2) E) :
    wpAny (model X.prog X.w) X.A (call (.ref C) us (ks.zip ws)) (L2.EP X pins σ Q) X.xe s := by
  have hz := h (s.heap.objs.size + 1) s.heap.objs.size (I.hok.fresh (Nat.le_succ _)) (I.hok.fresh (Nat.le_refl _)) (Nat.ne_of_lt (Nat.lt_succ_self _))
  have J := L2.Inv.made (C := C) I
  have rr : L2.Vals (V.ref (s.heap.objs.size + 1) :: vs) (Value.ref (s.heap.objs.size + 1) :: us) := .cons rfl r
  have nn : (Value.ref (s.heap.objs.size + 1) :: us).length = n + 1 := by rw [List.length_cons, ← r.length, l1]
  refine wpAny_call (L2.make_map (f := f) I.kIn M.makes M.init (beq_iff_eq.mp M.fn) (codeAny_mono (F.run _ X.stack _ _ ⟨Value.ref (s.heap.objs.size + 1) :: us, ks.zip ws⟩ (g (Value.ref (s.heap.objs.size + 1) :: us) ws) _ _ E (hr.make C us (ks.zip ws)) (J.env0.make C us (ks.zip ws))
    (hb.to _ (Value.ref (s.heap.objs.size + 1) :: us) ws J.kIn nn (rz.length.symm.trans l2)) (hb.rel rr rz) hz) fun q s' hq => ?_))
  cases q with
  | error e => exact hx pins _ _ e s' J hq
  | ok fl =>
    cases fl with
    | ret u =>
      obtain ⟨v, HH, JJ, rv, ev, qq⟩ := J.after hq
      subst ev
      exact ⟨rv, ⟨V.ref (s.heap.objs.size + 1), HH, JJ, rfl, qq⟩⟩
    | next => exact False.elim hq
    | brk => exact False.elim hq
    | cont => exact False.elim hq
theorem pe_mkG {k n : Nat} {f C : Addr} {fd : FuncData} {ps ks : List Str} {sp : L2.Sp} {W : WX} {g : List Value → List Value → List Value} {gV : List V → List V → List V} {fx : Str} {es : List Expr} {kws : List Keyword} {t tk : TA} (tks : L2.Takes X W)
    (M : L2.Mk X.K C f) (F : L2.FnOk X.prog X.w X.K X.mg X.base (L2.CX X.prog X.w) k f fd ps sp) (hr : L2.Room (k + 1) X.A) (hg : L2.Gl X fx) (hm : X.mg fx = some (.ref C)) (hb : L2.KBn X.K fd ps (n + 1) ks g gV) (ha : PA X (e :: es) t) (hkw : L2.PK X kws tk)
    (hall : (backToKw pos (keywordEach kws X.env)).all (·.1.isSome) = true) (hks : (backToKw pos (keywordEach kws X.env)).filterMap (·.1) = ks) (hdb : (fx == ("__debug__" : Str)) = false)
    (he : starEach (e :: es) X.env = (false, eval e X.env) :: starEach es X.env) (hpl : ((backTo pos (starEach (e :: es) X.env)).any (·.1) || (backToKw pos (keywordEach kws X.env)).any (·.1.isNone)) = false) :
    PE X (.Call (.Name fx p) (e :: es) kws pos) (fun σ H Q => t σ H fun vs H1 => tk σ H1 fun zs H2 => vs.length = n ∧ zs.length = ks.length ∧ ∀ x dx, H2 x = none → H2 dx = none → dx ≠ x →
      sp (gV (.ref x :: vs) zs) (upd (upd H2 dx (.own x)) x (.ins C dx [])) (fun v H3 => v = .non ∧ Q (.ref x) H3) (L2.WE W σ)) := by
  refine ⟨fun pins s σ H Q I h => ?_⟩
  refine wpAny_Call_Name_kw (L2.ld_glob I hg hm ?_ hdb)
  refine PySem.W.callWith_KW (h₀ := X.base) I.ok.mod.kin M.kp hall (L2.thn (ha.run pos pins s σ H _ I h) fun us s1 ⟨vs, H1, I1, r, q⟩ => ?_) hpl he
  refine L2.thn (hkw.run pos pins s1 σ H1 _ I1 q) fun ws s2 ⟨zs, H2, I2, rz, l1, l2, q2⟩ => ⟨I2.kIn, ?_⟩
  rw [hks]
  exact run_mkG M F hr hb (L2.passAt tks σ) I2 r rz l1 l2 q2
theorem pe_mkG0 {k : Nat} {f C : Addr} {fd : FuncData} {ps ks : List Str} {sp : L2.Sp} {W : WX} {g : List Value → List Value → List Value} {gV : List V → List V → List V} {fx : Str} {kws : List Keyword} {tk : TA} (tks : L2.Takes X W)
    (M : L2.Mk X.K C f) (F : L2.FnOk X.prog X.w X.K X.mg X.base (L2.CX X.prog X.w) k f fd ps sp) (hr : L2.Room (k + 1) X.A) (hg : L2.Gl X fx) (hm : X.mg fx = some (.ref C)) (hb : L2.KBn X.K fd ps 1 ks g gV) (hkw : L2.PK X kws tk)
    (hall : (backToKw pos (keywordEach kws X.env)).all (·.1.isSome) = true) (hks : (backToKw pos (keywordEach kws X.env)).filterMap (·.1) = ks) (hdb : (fx == ("__debug__" : Str)) = false)
    (hpl : ((backTo pos (starEach [] X.env)).any (·.1) || (backToKw pos (keywordEach kws X.env)).any (·.1.isNone)) = false) :
    PE X (.Call (.Name fx p) [] kws pos) (fun σ H Q => tk σ H fun zs H2 => zs.length = ks.length ∧ ∀ x dx, H2 x = none → H2 dx = none → dx ≠ x →
      sp (gV [.ref x] zs) (upd (upd H2 dx (.own x)) x (.ins C dx [])) (fun v H3 => v = .non ∧ Q (.ref x) H3) (L2.WE W σ)) := by
  refine ⟨fun pins s σ H Q I h => ?_⟩
  refine wpAny_Call_Name_kw (L2.ld_glob I hg hm ?_ hdb)
  refine PySem.W.callWith_KW0 (h₀ := X.base) I.ok.mod.kin M.kp hall ?_ hpl
  refine L2.thn (hkw.run pos pins s σ H _ I h) fun ws s2 ⟨zs, H2, I2, rz, l2, q2⟩ => ⟨I2.kIn, ?_⟩
  rw [hks]
  exact run_mkG (us := []) (vs := []) M F hr hb (L2.passAt tks σ) I2 .nil rz rfl l2 q2
end
/-- a method's shape: its class, name, which def, how many by place (but self), the keywords, how they come to the parameters (self too) -/
structure MShp where
  c : Nat
  nm : Str
  f : Nat
  n : Nat
  ks : List Str
  bs : List (Nat ⊕ D)
section
variable {L : Lt} {xa : XA} {X : L2.Cx} {W : WX} {e e1 e2 e3 o : Expr} {x y z : Ex} {pos p apos cpos : Pos}
def MethOk (L : Lt) (X : L2.Cx) (sh : MShp) : Prop := sh.nm ∉ L.G.fd ∧ (∀ d, .inr d ∈ sh.bs → okC d = true) ∧ ∀ C, (sh.c, C) ∈ L.G.cl → ∃ (f : Addr) (fd : FuncData) (ps : List Str) (k : Nat) (g : List Value → List Value → List Value),
  L2.Meth X.K C sh.nm f ∧ L2.FnOk X.prog X.w X.K X.mg X.base (L2.CX X.prog X.w) k f fd ps (spF L sh.f sh.bs.length) ∧ L2.Room (k + 1) X.A ∧ L2.KBn X.K fd ps (sh.n + 1) sh.ks g (fun vs zs => pickV (vs ++ zs) sh.bs)
/-- how a class is made: nm its name -/
def MakeOk (L : Lt) (X : L2.Cx) (sh : MShp) : Prop := (∀ d, .inr d ∈ sh.bs → okC d = true) ∧ ∃ (C f : Addr) (fd : FuncData) (ps : List Str) (k : Nat) (g : List Value → List Value → List Value),
  (sh.c, C) ∈ L.G.cl ∧ X.mg sh.nm = some (.ref C) ∧ L2.Mk X.K C f ∧ L2.FnOk X.prog X.w X.K X.mg X.base (L2.CX X.prog X.w) k f fd ps (spF L sh.f sh.bs.length) ∧ L2.Room (k + 1) X.A ∧ L2.KBn X.K fd ps (sh.n + 1) sh.ks g (fun vs zs => pickV (vs ++ zs) sh.bs)
theorem rdEs.bindL {xs : List Ex} {β : Type} {k : List D → Sto → Res β} {P : Res β → Prop} {QA : List V → Hp → Prop} {Z : Addr → Prop} {r : List Addr} {ow : Nat → Option Addr} {H : Hp} {S : Sto} {env : Env} {s : L2.St} (fr : Fr L.G L.xc xa Z r ow H S env s)
    (hp : P ((evEs L.F xs env S).bind k)) (hok : ∀ d S', d.length = xs.length → P (k d S') → ∀ v H' r', Stp H r H' r' → Fr L.G L.xc xa Z r' ow H' S' env s → Reps L.G H' (BB Z r' ow) r' d v → QA v H')
    (hex : ∀ c d S', P (.exc c d S') → ∀ cls dd H' r', Stp H r H' r' → Fr L.G L.xc xa Z r' ow H' S' env s → ExR L.G L.xc H' (BB Z r' ow) r' c d cls dd → W cls dd s H') (hst : ¬ P .stuck) : rdEs L xa W xs s H QA := by
  refine ⟨Z, r, ow, S, env, fr, ?_⟩
  cases e : evEs L.F xs env S with
  | ok d S' => rw [e] at hp; exact hok d S' (evEs_len e) hp
  | exc c d S' => rw [e] at hp; exact hex c d S' hp
  | stuck => rw [e] at hp; exact hst hp
theorem isIns_some {S : Sto} {n c : Nat} (h : isIns S n c = true) : ∃ fs, S[n]? = some (.ins c fs) := by
  unfold isIns at h
  split at h
  · rename_i c' fs e
    exact ⟨fs, by rw [e, eq_of_beq h]⟩
  · cases h
/-- behind the arguments of a method: the call itself -/
theorem meth_call {sh : MShp} (hc : ∀ d, .inr d ∈ sh.bs → okC d = true) {Z : Addr → Prop} {r r3 : List Addr} {ow : Nat → Option Addr} {H H3 : Hp} {S3 : Sto} {env : Env} {s : L2.St} {Q : VK} {E : XK} {n : Nat} {a : Addr} {ds us : List D} {vs ws : List V} (fr3 : Fr L.G L.xc xa Z r3 ow H3 S3 env s) (st : Stp H r H3 r3)
    (hr : r3[n]? = some a) (p1 : Reps L.G H3 (BB Z r3 ow) r3 ds vs) (p2 : Reps L.G H3 (BB Z r3 ow) r3 us ws)
    (q : PostE L xa Z r ow H env s Q E (match binds (.ref n :: (ds ++ us)) sh.bs with | some rs => L.F.call sh.f rs S3 | none => .stuck)) : spF L sh.f sh.bs.length (pickV (.ref a :: (vs ++ ws)) sh.bs) H3 Q E := by
  have hr2 : Reps L.G H3 (BB Z r3 ow) r3 (.ref n :: (ds ++ us)) (.ref a :: (vs ++ ws)) := .cons (by rw [Rep]; exact ⟨a, hr, rfl⟩) (p1.append p2)
  refine ⟨pickV_len _ _, ?_⟩
  cases e3 : binds (.ref n :: (ds ++ us)) sh.bs with
  | none => rw [e3] at q; exact q.elim
  | some rs =>
    rw [e3] at q
    exact ⟨Zc Z ow, r3, S3, rs, fr3.base, (reps_pick hr2 hc e3).ban fun a z => BB_to z, PostE.call fr3 st q⟩
theorem snd_meth {sh : MShp} {es : List Expr} {kws : List Keyword} {xs zs : List Ex} (tk : L2.Takes X W) (ck : ClsOk L X) (ok : MethOk L X sh) (h0 : PE X o (rdE L xa W x)) (ha : PA X es (rdEs L xa W xs)) (hk : L2.PK X kws (rdEs L xa W zs))
    (hn : xs.length = sh.n) (hne : es.length = xs.length) (hz : zs.length = sh.ks.length)
    (hall : (backToKw pos (keywordEach kws X.env)).all (·.1.isSome) = true) (hks : (backToKw pos (keywordEach kws X.env)).filterMap (·.1) = sh.ks) (hb : attributeBase o sh.nm X.env (eval o X.env) = eval o X.env)
    (hfew : methodCallForm (es.length + kws.length) (backTo pos (starEach es X.env)) (backToKw pos (keywordEach kws X.env)) = true) (hline : (apos.endLine == pos.line) = true)
    (hst : ∀ e es', es = e :: es' → starEach (e :: es') X.env = (false, eval e X.env) :: starEach es' X.env)
    (hpl : ((backTo pos (starEach es X.env)).any (·.1) || (backToKw pos (keywordEach kws X.env)).any (·.1.isNone)) = false) :
    PE X (.Call (.Attribute o sh.nm apos) es kws pos) (rdE L xa W (.meth sh.c sh.f x xs zs sh.bs)) := by
  obtain ⟨nf, hc, ok⟩ := ok
  have ok2 : ∀ C, (sh.c, C) ∈ L.G.cl → L2.Cls X.K C ∧ ∃ (f : Addr) (fd : FuncData) (ps : List Str) (k : Nat) (g : List Value → List Value → List Value), L2.Meth X.K C sh.nm f ∧ L2.FnOk X.prog X.w X.K X.mg X.base (L2.CX X.prog X.w) k f fd ps (spF L sh.f sh.bs.length) ∧ L2.Room k X.A ∧ L2.KBn X.K fd ps (sh.n + 1) sh.ks g (fun vs zs => pickV (vs ++ zs) sh.bs) := fun C h => by
    obtain ⟨f, fd, ps, k, g, k1, k2, k3, k4⟩ := ok C h
    exact ⟨(ck _ C h).1, f, fd, ps, k, g, k1, k2, k3.mono (by omega), k4⟩
  cases es with
  | nil =>
    obtain rfl : xs = [] := by
      cases xs with
      | nil => rfl
      | cons a b => simp at hne
    have hn0 : sh.n = 0 := by simpa using hn.symm
    rw [hn0] at ok2
    refine PE.imp (pe_methG0 tk h0 ok2 hk hall hks hb hfew hline hpl) fun s H Q q => ?_
    obtain ⟨Z, r, ow, S, env, fr, q⟩ := q
    simp only [evE] at q
    refine rdE.bind (P := PostE L xa Z r ow H env s Q (fun c d H' => W c d s H')) fr q (fun d S1 h1 v H1 r1 st1 fr1 p1 => ?_) (fun c d S' h => h) id
    cases d with
    | ref n =>
      simp only at h1
      split at h1
      · rename_i hi
        obtain ⟨fs, ei⟩ := isIns_some hi
        obtain ⟨a, rfl, hr, C, dx, us, hcl, hha, hp⟩ := fr1.at p1 ei
        refine ⟨a, C, dx, us, rfl, hha, hcl, fld_none nf hp, ?_⟩
        simp only [evEs, Res.bind] at h1
        refine rdEs.bindL (P := PostE L xa Z r ow H env s Q (fun c d H' => W c d s H')) fr1 h1 (fun us S2 l2 h2 ws H2 r2 st2 fr2 p2 => ?_) (fun c d S' h cls dd H' r' st => h cls dd H' r' (st1.trans st)) id
        exact ⟨by rw [p2.len, l2, hz], meth_call hc fr2 (st1.trans st2) (st2.pre _ _ hr) Reps.nil p2 h2⟩
      · exact h1.elim
    | _ => exact h1.elim
  | cons e es' =>
    refine PE.imp (pe_methG tk h0 ok2 ha hk hall hks hb hfew hline (hst e es' rfl) hpl) fun s H Q q => ?_
    obtain ⟨Z, r, ow, S, env, fr, q⟩ := q
    simp only [evE] at q
    refine rdE.bind (P := PostE L xa Z r ow H env s Q (fun c d H' => W c d s H')) fr q (fun d S1 h1 v H1 r1 st1 fr1 p1 => ?_) (fun c d S' h => h) id
    cases d with
    | ref n =>
      simp only at h1
      split at h1
      · rename_i hi
        obtain ⟨fs, ei⟩ := isIns_some hi
        obtain ⟨a, rfl, hr, C, dx, us, hcl, hha, hp⟩ := fr1.at p1 ei
        refine ⟨a, C, dx, us, rfl, hha, hcl, fld_none nf hp, ?_⟩
        refine rdEs.bindL (P := PostE L xa Z r ow H env s Q (fun c d H' => W c d s H')) fr1 h1 (fun ds S2 l2 h2 vs H2 r2 st2 fr2 p2 => ?_) (fun c d S' h cls dd H' r' st => h cls dd H' r' (st1.trans st)) id
        refine rdEs.bindL (P := PostE L xa Z r ow H env s Q (fun c d H' => W c d s H')) fr2 h2 (fun us S3 l3 h3 ws H3 r3 st3 fr3 p3 => ?_) (fun c d S' h cls dd H' r' st => h cls dd H' r' ((st1.trans st2).trans st)) id
        exact ⟨by rw [p2.len, l2, hn], by rw [p3.len, l3, hz], meth_call hc fr3 ((st1.trans st2).trans st3) (st3.pre _ _ (st2.pre _ _ hr)) (st3.reps p2) p3 h3⟩
      · exact h1.elim
    | _ => exact h1.elim
/-- behind the arguments of a class: the instance, and its __init__ -/
theorem mk_call {sh : MShp} {C : Addr} (hC : (sh.c, C) ∈ L.G.cl) (hc : ∀ d, .inr d ∈ sh.bs → okC d = true) {Z : Addr → Prop} {r r3 : List Addr} {ow : Nat → Option Addr} {H H3 : Hp} {S3 : Sto} {env : Env} {s : L2.St} {Q : VK} {E : XK} {ds us : List D} {vs ws : List V} (fr3 : Fr L.G L.xc xa Z r3 ow H3 S3 env s) (st : Stp H r H3 r3)
    (p1 : Reps L.G H3 (BB Z r3 ow) r3 ds vs) (p2 : Reps L.G H3 (BB Z r3 ow) r3 us ws)
    (q : PostE L xa Z r ow H env s Q E (match binds (.ref S3.length :: (ds ++ us)) sh.bs with
      | some rs => (L.F.call sh.f rs (S3 ++ [.ins sh.c []])).bind fun d S' => match d with
        | .non => .ok (.ref S3.length) S'
        | _ => .stuck
      | none => .stuck)) (a dx : Addr) (ha : H3 a = none) (hx : H3 dx = none) (hne : dx ≠ a) : spF L sh.f sh.bs.length (pickV (.ref a :: (vs ++ ws)) sh.bs) (upd (upd H3 dx (.own a)) a (.ins C dx [])) (fun v HH => v = .non ∧ Q (.ref a) HH) E := by
  have ha' : upd H3 dx (.own a) a = none := by rw [upd_ne (Ne.symm hne)]; exact ha
  have fr4 := fr3.laid (o := .own a) hx
  have st4 : Stp H3 r3 (upd H3 dx (.own a)) r3 := .laid hx
  have cr : CellR L.G (upd (upd H3 dx (.own a)) a (.ins C dx [])) (BB Z (r3 ++ [a]) ow) (r3 ++ [a]) a (.ins sh.c []) := ⟨C, dx, [], hC, upd_same, .nil⟩
  have fr5 := fr4.cell ha' cr
  have st5 : Stp (upd H3 dx (.own a)) r3 (upd (upd H3 dx (.own a)) a (.ins C dx [])) (r3 ++ [a]) := .cell ha'
  have st45 := st4.trans st5
  have hr2 : Reps L.G (upd (upd H3 dx (.own a)) a (.ins C dx [])) (BB Z (r3 ++ [a]) ow) (r3 ++ [a]) (.ref S3.length :: (ds ++ us)) (.ref a :: (vs ++ ws)) := .cons (rep_new fr3) ((st45.reps p1).append (st45.reps p2))
  refine ⟨pickV_len _ _, ?_⟩
  cases e3 : binds (.ref S3.length :: (ds ++ us)) sh.bs with
  | none => rw [e3] at q; exact q.elim
  | some rs =>
    rw [e3] at q
    refine ⟨Zc Z ow, _, _, rs, fr5.base, (reps_pick hr2 hc e3).ban fun a z => BB_to z, ?_⟩
    simp only at q
    cases ec : L.F.call sh.f rs (S3 ++ [.ins sh.c []]) with
    | stuck => rw [ec] at q; exact q
    | exc c d S' =>
      rw [ec] at q
      exact fun cls dd H' r' st' fr' ex => q cls dd H' r' (st.trans (st45.trans st')) (fr5.step st' (fr'.sto.ban fun a z => BB_of z)) (ExR.ban (fun a z => BB_of z) ex)
    | ok d S' =>
      rw [ec] at q
      simp only [Res.bind] at q
      cases d with
      | non =>
        intro v H' r' st' fr' rp
        rw [Rep] at rp
        refine ⟨rp, q _ H' r' (st.trans (st45.trans st')) (fr5.step st' (fr'.sto.ban fun a z => BB_of z)) ?_⟩
        rw [Rep]
        exact ⟨a, st'.pre _ _ (by rw [← fr3.sto.len, List.getElem?_append_right (Nat.le_refl _), Nat.sub_self]; rfl), rfl⟩
      | _ => exact q.elim
theorem snd_mk {sh : MShp} {es : List Expr} {kws : List Keyword} {xs zs : List Ex} (tk : L2.Takes X W) (ok : MakeOk L X sh) (hg : L2.Gl X sh.nm) (hdb : (sh.nm == ("__debug__" : Str)) = false) (ha : PA X es (rdEs L xa W xs)) (hk : L2.PK X kws (rdEs L xa W zs))
    (hn : xs.length = sh.n) (hne : es.length = xs.length) (hz : zs.length = sh.ks.length)
    (hall : (backToKw pos (keywordEach kws X.env)).all (·.1.isSome) = true) (hks : (backToKw pos (keywordEach kws X.env)).filterMap (·.1) = sh.ks)
    (hst : ∀ e es', es = e :: es' → starEach (e :: es') X.env = (false, eval e X.env) :: starEach es' X.env)
    (hpl : ((backTo pos (starEach es X.env)).any (·.1) || (backToKw pos (keywordEach kws X.env)).any (·.1.isNone)) = false) :
    PE X (.Call (.Name sh.nm p) es kws pos) (rdE L xa W (.mk sh.c sh.f xs zs sh.bs)) := by
  obtain ⟨hc, C, f, fd, ps, k, g, hC, hm, M, F, hr, hb⟩ := ok
  cases es with
  | nil =>
    obtain rfl : xs = [] := by
      cases xs with
      | nil => rfl
      | cons a b => simp at hne
    have hn0 : sh.n = 0 := by simpa using hn.symm
    rw [hn0] at hb
    refine PE.imp (pe_mkG0 tk M F hr hg hm hb hk hall hks hdb hpl) fun s H Q q => ?_
    obtain ⟨Z, r, ow, S, env, fr, q⟩ := q
    simp only [evE, evEs, Res.bind] at q
    refine rdEs.bindL (P := PostE L xa Z r ow H env s Q (fun c d H' => W c d s H')) fr q (fun us S2 l2 h2 ws H2 r2 st2 fr2 p2 => ?_) (fun c d S' h => h) id
    exact ⟨by rw [p2.len, l2, hz], fun a dx h3 h4 h5 => mk_call hC hc fr2 st2 Reps.nil p2 h2 a dx h3 h4 h5⟩
  | cons e es' =>
    refine PE.imp (pe_mkG tk M F hr hg hm hb ha hk hall hks hdb (hst e es' rfl) hpl) fun s H Q q => ?_
    obtain ⟨Z, r, ow, S, env, fr, q⟩ := q
    simp only [evE] at q
    refine rdEs.bindL (P := PostE L xa Z r ow H env s Q (fun c d H' => W c d s H')) fr q (fun ds S2 l2 h2 vs H2 r2 st2 fr2 p2 => ?_) (fun c d S' h => h) id
    refine rdEs.bindL (P := PostE L xa Z r ow H env s Q (fun c d H' => W c d s H')) fr2 h2 (fun us S3 l3 h3 ws H3 r3 st3 fr3 p3 => ?_) (fun c d S' h cls dd H' r' st => h cls dd H' r' (st2.trans st)) id
    exact ⟨by rw [p2.len, l2, hn], by rw [p3.len, l3, hz], fun a dx h4 h5 h6 => mk_call hC hc fr3 (st2.trans st3) (st3.reps p2) p3 h3 a dx h4 h5 h6⟩
end
end Mi

set_option maxRecDepth 100000
set_option maxHeartbeats 4000000
namespace Mi
open PySem PySem.Spec PyProof.Rows
open L2 (V Hp HO upd upd_same upd_ne Same SqL SqT Rd VK XK WX PE PT PA OpR CallR IxR SlR TE TT TA tOp Dp DpAll PI TI PG PGs TG TGs)

/-- a list is told as it is laid -/
def PostF (L : Lt) (xa : XA) (Z : Addr → Prop) (r : List Addr) (ow : Nat → Option Addr) (H : Hp) (env : Env) (s : L2.St) (Q : VK) (E : XK) : Res D → Prop
  | .ok d S' => ∃ ds, d = .lst ds ∧ ∀ p vs H' r', Stp H r H' r' → Fr L.G L.xc xa Z r' ow H' S' env s → H' p = none → Reps L.G H' (BB Z r' ow) r' ds vs → Q (.ref p) (upd H' p (.lst vs))
  | .exc c d S' => ∀ cls dd H' r', Stp H r H' r' → Fr L.G L.xc xa Z r' ow H' S' env s → ExR L.G L.xc H' (BB Z r' ow) r' c d cls dd → E cls dd H'
  | .stuck => False
def rdF (L : Lt) (xa : XA) (W : WX) (x : Ex) : TE := fun s H Q => ∃ Z r ow S env, Fr L.G L.xc xa Z r ow H S env s ∧ PostF L xa Z r ow H env s Q (fun c d H' => W c d s H') (evE L.F x env S)
def isFresh : Ex → Bool
  | .lst _ => true
  | .lc _ _ _ _ => true
  | .bin .add _ _ => true
  | .blt .list _ => true
  | .blt .sorted _ => true
  | .ite _ a b => isFresh a && isFresh b
  | _ => false

section
variable {L : Lt} {xa : XA} {X : L2.Cx} {W : WX} {e e1 e2 e3 : Expr} {x y z : Ex} {pos p : Pos}
theorem PostF.from {Z : Addr → Prop} {r : List Addr} {ow : Nat → Option Addr} {H : Hp} {env : Env} {s : L2.St} {Q : VK} {E : XK} {H1 : Hp} {r1 : List Addr} (st : Stp H r H1 r1) : ∀ {R : Res D}, PostF L xa Z r ow H env s Q E R → PostF L xa Z r1 ow H1 env s Q E R
  | .ok d S', ⟨ds, e, h⟩ => ⟨ds, e, fun p vs H' r' st' fr hp rp => h p vs H' r' (st.trans st') fr hp rp⟩
  | .exc c d S', h => fun cls dd H' r' st' fr rp => h cls dd H' r' (st.trans st') fr rp
  | .stuck, h => h
theorem sndF_lst {es : List Expr} {xs : List Ex} (h : PA X es (rdEs L xa W xs)) : PE X (.List es pos) (rdF L xa W (.lst xs)) := by
  refine PE.imp (L2.pe_lst h) fun s H Q q => ?_
  obtain ⟨Z, r, ow, S, env, fr, q⟩ := q
  simp only [evE] at q
  refine rdEs.bind (P := PostF L xa Z r ow H env s Q (fun c d H' => W c d s H')) fr q (fun ds S1 h1 vs H1 r1 st1 fr1 p1 => ?_) (fun c d S' h => h) id
  split at h1
  · rename_i hz
    obtain ⟨ds', e, h1⟩ := h1
    cases e
    exact ⟨by rw [p1.len, ← sz_eq]; exact hz, fun p hp => h1 p vs H1 r1 st1 fr1 hp p1⟩
  · exact h1.elim
theorem sndF_add (hK : X.K = L.G.K) (h1 : PE X e1 (rdR L xa W x)) (h2 : PE X e2 (rdR L xa W y)) : PE X (.BinOp e1 .Add e2 pos) (rdF L xa W (.bin .add x y)) := by
  refine PE.imp (L2.pe_op L2.op_cat h1 h2) fun s H Q q => ?_
  obtain ⟨Z, r, ow, S, env, fr, q⟩ := q
  simp only [evE] at q
  refine rdR.bind (P := PostF L xa Z r ow H env s Q (fun c d H' => W c d s H')) fr q (fun d1 S1 h1 v1 H1 r1 st1 fr1 p1 => ?_) (fun c d S' h => h) id
  refine rdR.bind (P := PostF L xa Z r ow H env s Q (fun c d H' => W c d s H')) fr1 h1 (fun d2 S2 h2 v2 H2 r2 st2 fr2 p2 => ?_) (fun c d S' h cls dd H' r' st => h cls dd H' r' (st1.trans st)) id
  have p1 := Pk.step fr1 st2 p1
  cases e : opB .add d1 d2 with
  | none => rw [e] at h2; exact h2.elim
  | some d =>
    rw [e] at h2
    obtain ⟨ds, rfl, h2⟩ := h2
    cases d1 <;> cases d2 <;> simp only [opB] at e <;> (try (cases e; done)) <;> (try (split at e <;> cases e; done))
    split at e
    · rename_i hz
      cases e
      obtain ⟨a, vs, ea, ha, q1⟩ := p1.lst
      obtain ⟨b, ws, eb, hb, q2⟩ := p2.lst
      refine ⟨a, b, vs, ws, ea, eb, ha, hb, ?_, fun p hp => h2 p _ H2 r2 (st1.trans st2) fr2 hp (q1.append q2)⟩
      rw [q1.len, q2.len, ← sz_eq]; exact hz
    · cases e
theorem sndF_blt {b : Blt} {es : List Expr} {xs : List Ex} (hb : b = .list ∨ b = .sorted) (hK : X.K = L.G.K) (hc : X.calm = true) (hu : X.A.units + 64 < cLine) (hg : L2.Gl X (bltName b)) (hm : X.mg (bltName b) = none) (h : PA X (e :: es) (rdRs L xa W xs))
    (st : ∀ es, starEach (e :: es) X.env = (false, eval e X.env) :: starEach es X.env) (hpl : (backTo pos (starEach es X.env)).any (·.1) = false) : PE X (.Call (.Name (bltName b) p) (e :: es) [] pos) (rdF L xa W (.blt b xs)) := by
  have key : PE X (.Call (.Name (bltName b) p) (e :: es) [] pos) (L2.tCB (bltR L.G b) (rdRs L xa W xs)) := by
    have run := blt_run hK hc hu b
    have bt := blt_boot b
    rcases hb with rfl | rfl
    · exact L2.pe_callTy run hg hm bt h (by decide +kernel) (by decide +kernel) (st _) hpl
    · exact L2.pe_callB run hg hm bt h (by decide +kernel) (by decide +kernel) (st _) hpl
  refine PE.imp key fun s H Q q => ?_
  obtain ⟨Z, r, ow, S, env, fr, q⟩ := q
  simp only [evE] at q
  refine rdRs.bind (P := PostF L xa Z r ow H env s Q (fun c d H' => W c d s H')) fr q (fun ds S1 h1 vs H1 r1 st1 fr1 p1 => ?_) (fun c d S' h => h) id
  cases e : bltB b ds with
  | none => rw [e] at h1; exact h1.elim
  | some d =>
    rw [e] at h1
    obtain ⟨ys, rfl, h1⟩ := h1
    rcases hb with rfl | rfl
    · unfold bltB at e
      split at e <;> (try (cases e; done)) <;> rename_i heq <;> (try (cases heq; done))
      · obtain ⟨v, rfl, p⟩ := pk1 p1
        cases e
        obtain ⟨a, ws, e1, h2, q1⟩ := p.lst
        exact ⟨a, ws, by rw [e1], .inl (.of h2), fun p hp => h1 p _ H1 r1 st1 fr1 hp q1⟩
      · obtain ⟨v, rfl, p⟩ := pk1 p1
        cases e
        obtain ⟨a, ws, e1, h2, q1⟩ := p.tup
        exact ⟨a, ws, by rw [e1], .inr h2, fun p hp => h1 p _ H1 r1 st1 fr1 hp q1⟩
    · unfold bltB at e
      split at e <;> (try (cases e; done)) <;> rename_i heq <;> (try (cases heq; done))
      obtain ⟨v, rfl, p⟩ := pk1 p1
      unfold sortB at e
      split at e
      · rename_i hz
        cases e
        simp only [Bool.and_eq_true, decide_eq_true_eq] at hz
        obtain ⟨a, ws, e1, h2, q1⟩ := p.lst
        exact ⟨_, _, a, ws, _, by rw [e1], h2, q1, hz.1, hz.2, fun p ws' hp q2 => h1 p _ H1 r1 st1 fr1 hp q2⟩
      · cases e
theorem sndF_ite (h1 : PT X e1 (rdT L xa W x)) (h2 : PE X e2 (rdF L xa W y)) (h3 : PE X e3 (rdF L xa W z)) : PE X (.IfExp e1 e2 e3 pos) (rdF L xa W (.ite x y z)) := by
  refine PE.imp (L2.pe_ifExp h1 h2 h3) fun s H Q q => ?_
  obtain ⟨Z, r, ow, S, env, fr, q⟩ := q
  simp only [evE] at q
  refine rdT.bind (P := PostF L xa Z r ow H env s _ (fun c d H' => W c d s H')) fr q (fun d S1 h1 v H1 r1 st1 fr1 p1 => ?_) (fun c d S' h => h) id
  cases d with
  | bl i =>
    rw [Rep] at p1
    refine ⟨i, p1, ?_⟩
    cases i with
    | false => rw [if_neg (by decide)]; exact ⟨Z, r1, ow, S1, env, fr1, PostF.from st1 h1⟩
    | true => rw [if_pos rfl]; exact ⟨Z, r1, ow, S1, env, fr1, PostF.from st1 h1⟩
  | _ => exact h1.elim
end
def del (H : Hp) (D : Addr) : Hp := fun a => if a = D then none else H a
theorem del_same {H : Hp} {D : Addr} : del H D D = none := if_pos rfl
theorem del_ne {H : Hp} {D a : Addr} (h : a ≠ D) : del H D a = H a := if_neg h
theorem upd_del {H : Hp} {D : Addr} {o : HO} (h : H D = some o) : upd (del H D) D o = H := funext fun a => by
  by_cases e : a = D
  · rw [e, upd_same, h]
  · rw [upd_ne e, del_ne e]
section
variable {G : Gd} {xc : Xc} {xa : XA} {Z : Addr → Prop} {r : List Addr} {ow : Nat → Option Addr} {H : Hp} {S : Sto} {env : Env} {s : L2.St}
theorem reps_del {D : Addr} {old : List V} (hD : H D = some (.lst old)) {ds : List Mi.D} {vs : List V} (h : Reps G H (BB (ZD Z D) r ow) r ds vs) : Reps G (del H D) (BB Z r ow) r ds vs := by
  refine Reps.mono (fun a u e n => ?_) (fun a u e => ?_) (fun a u w e => ?_) (fun a z => ?_) (fun _ _ e => e) h
  · rw [del_ne fun z => n (.inl (.inr z))]; exact e
  · rw [del_ne (L2.ne_of e hD (by intro z; cases z))]; exact e
  · rw [del_ne (L2.ne_of e hD (by intro z; cases z))]; exact e
  · rcases z with z | z
    · exact .inl (.inl (.inl z))
    · exact .inl (.inr z)
theorem rep_del {D : Addr} {old : List V} (hD : H D = some (.lst old)) {d : Mi.D} {v : V} (h : Rep G H (BB (ZD Z D) r ow) r d v) : Rep G (del H D) (BB Z r ow) r d v := by
  have := reps_del hD (.cons h Reps.nil)
  rw [Reps] at this
  obtain ⟨v', ws, e, p, _⟩ := this
  cases e
  exact p
theorem Fr.del {D : Addr} (fr : Fr G xc xa (ZD Z D) r ow H S env s) {old : List V} (hD : H D = some (.lst old)) (hz : ¬ Z D) : Fr G xc xa Z r ow (Mi.del H D) S env s := by
  refine ⟨fun i p e => ?_, fr.out, fr.inj, fun i a e => ⟨fun z => (fr.dis i a e).1 (.inl z), (fr.dis i a e).2⟩, fun a ha z => fr.zr a ha (.inl z), fun a z => ?_, StoR.mono (fun a u e n => by rw [del_ne fun z => n (.inl (.inr z))]; exact e) (fun a u e => by rw [del_ne (L2.ne_of e hD (by intro z; cases z))]; exact e) (fun a u w e => by rw [del_ne (L2.ne_of e hD (by intro z; cases z))]; exact e) (fun a z => by
    rcases z with z | z
    · exact .inl (.inl (.inl z))
    · exact .inl (.inr z)) (fun a ha u e => by rw [del_ne fun z => fr.zr a ha (.inr z)]; exact e) fr.sto, fr.len, SqL.frz fr.scf (fun a u w e => ?_) fr.scr, ?_⟩
  · have k := fr.slot i p e
    cases p with
    | un => exact k
    | fz d =>
      obtain ⟨h0, v, h1, h2⟩ := k
      exact ⟨h0, v, h1, rep_del hD h2⟩
    | own xs =>
      obtain ⟨a, vs, h1, h2, h3, h4⟩ := k
      exact ⟨a, vs, h1, h2, by rw [del_ne fun z => (fr.dis i a h1).1 (.inr z)]; exact h3, reps_del hD h4⟩
    | exn c d =>
      obtain ⟨h0, a, cls, dd, h1, h2, C, e1, e2, h3⟩ := k
      refine ⟨h0, a, cls, dd, h1, h2, C, e1, e2, ?_⟩
      cases ef : xc.fld c with
      | none => rw [ef] at h3; exact h3
      | some f =>
        rw [ef] at h3
        obtain ⟨da, v, g1, g2, g3, g4⟩ := h3
        refine ⟨da, v, g1, fun z => g2 ?_, by rw [del_ne fun z => g2 (.inl (.inr z))]; exact g3, rep_del hD g4⟩
        rcases z with z | z
        · exact .inl (.inl z)
        · exact .inr z
  · have hd : a ≠ D := fun e => by
      subst e
      rcases z with z | z | ⟨j, z⟩
      · exact hz z
      · exact fr.zr a z (.inr rfl)
      · exact (fr.dis j a z).1 (.inr rfl)
    rw [del_ne hd]
    refine fr.al a ?_
    rcases z with z | z
    · exact .inl (.inl z)
    · exact .inr z
  · rw [del_ne (L2.ne_of e hD (by intro z; cases z))]; exact e
  · rcases fr.scf with ⟨o', u, e⟩ | k
    · exact .inl ⟨o', u, by rw [del_ne (L2.ne_of e hD (by intro z; cases z))]; exact e⟩
    · exact .inr k
end
end Mi

set_option maxRecDepth 100000
set_option maxHeartbeats 4000000
namespace Mi
open PySem PySem.Spec PyProof.Rows
open L2 (V Hp HO upd upd_same upd_ne Same SqL SqT Rd VK XK WX PE PT PA OpR CallR IxR SlR TE TT TA tOp Dp DpAll PI TI PG PGs TG TGs)
section
variable {L : Lt} {xa : XA} {X : L2.Cx} {W : WX} {e e1 e2 e3 o : Expr} {x y z : Ex} {pos p apos cpos : Pos}
theorem snd_slcC {lo hi : Option Expr} {p2 : Pos} (hK : X.K = L.G.K) (h1 : PE X e1 (rdE L xa W x)) (h2 : L2.PO X lo (rdO L xa W y)) (h3 : L2.PO X hi (rdO L xa W z)) : PE X (.Subscript e1 (.Slice lo hi none p2) pos) (rdE L xa W (.slcC x y z)) := by
  refine PE.imp (L2.pe_slice sl_run h1 h2 h3) fun s H Q q => ?_
  obtain ⟨Z, r, ow, S, env, fr, q⟩ := q
  simp only [evE] at q
  rw [hK]
  refine rdE.bind (P := PostE L xa Z r ow H env s Q (fun c d H' => W c d s H')) fr q (fun d1 S1 h1 v1 H1 r1 st1 fr1 p1 => ?_) (fun c d S' h => h) id
  refine rdO.bind (P := PostE L xa Z r ow H env s Q (fun c d H' => W c d s H')) fr1 h1 (fun d2 S2 h2 v2 H2 r2 st2 fr2 p2 => ?_) (fun c d S' h cls dd H' r' st => h cls dd H' r' (st1.trans st)) id
  cases e2 : part y d2 with
  | none => rw [e2] at h2; exact h2.elim
  | some l =>
    rw [e2] at h2
    refine ⟨l, part_val e2 p2, ?_⟩
    refine rdO.bind (P := PostE L xa Z r ow H env s Q (fun c d H' => W c d s H')) fr2 h2 (fun d3 S3 h3 v3 H3 r3 st3 fr3 p3 => ?_) (fun c d S' h cls dd H' r' st => h cls dd H' r' ((st1.trans st2).trans st)) id
    cases e3 : part z d3 with
    | none => rw [e3] at h3; exact h3.elim
    | some h =>
      rw [e3] at h3
      refine ⟨h, part_val e3 p3, ?_⟩
      cases e4 : slcB (drf S3 d1) l h with
      | none => simp only [e4] at h3; exact h3.elim
      | some d =>
        simp only [e4] at h3
        exact slc_good fr3 (fr3.drf (st3.rep (st2.rep p1))) e4 fun v H' r' st' fr' rp => h3 v H' r' (((st1.trans st2).trans st3).trans st') fr' rp
theorem key_blt {b : Blt} {t : TA} (hK : X.K = L.G.K) (hc : X.calm = true) (hu : X.A.units + 64 < cLine) (hg : L2.Gl X (bltName b)) (hm : X.mg (bltName b) = none) (h : PA X [e] t) (st : ∀ es, starEach (e :: es) X.env = (false, eval e X.env) :: starEach es X.env) : PE X (.Call (.Name (bltName b) p) [e] [] pos) (L2.tCB (bltR L.G b) t) := by
  have run := blt_run hK hc hu b
  have bt := blt_boot b
  have hn : bltName b ≠ "__name__" := by cases b <;> decide +kernel
  have hd : (bltName b == ("__debug__" : Str)) = false := by cases b <;> decide +kernel
  cases eb : bltV b with
  | builtin id =>
    rw [eb] at run bt
    exact L2.pe_callB run hg hm bt h hn hd (st _) rfl
  | type T =>
    rw [eb] at run bt
    exact L2.pe_callTy run hg hm bt h hn hd (st _) rfl
  | _ => exact absurd eb (by cases b <;> intro z <;> cases z)
theorem snd_bltC {b : Blt} (hK : X.K = L.G.K) (hc : X.calm = true) (hu : X.A.units + 64 < cLine) (hg : L2.Gl X (bltName b)) (hm : X.mg (bltName b) = none) (h : PE X e (rdE L xa W x)) (st : ∀ es, starEach (e :: es) X.env = (false, eval e X.env) :: starEach es X.env) : PE X (.Call (.Name (bltName b) p) [e] [] pos) (rdE L xa W (.bltC b x)) := by
  refine PE.imp (key_blt hK hc hu hg hm (L2.pa_cons h L2.pa_nil (st [])) st) fun s H Q q => ?_
  obtain ⟨Z, r, ow, S, env, fr, q⟩ := q
  simp only [evE] at q
  refine rdE.bind (P := PostE L xa Z r ow H env s Q (fun c d H' => W c d s H')) fr q (fun d1 S1 h1 v1 H1 r1 st1 fr1 p1 => ?_) (fun c d S' h => h) id
  cases e : bltB b [drf S1 d1] with
  | none => rw [e] at h1; exact h1.elim
  | some d =>
    rw [e] at h1
    exact blt_good fr1 (.cons (fr1.drf p1) .nil) e fun v H' r' st' fr' rp => h1 v H' r' (st1.trans st') fr' rp
/-- list(x), told as it is laid -/
theorem sndF_listC (hK : X.K = L.G.K) (hc : X.calm = true) (hu : X.A.units + 64 < cLine) (hg : L2.Gl X "list") (hm : X.mg "list" = none) (h : PE X e (rdE L xa W x)) (st : ∀ es, starEach (e :: es) X.env = (false, eval e X.env) :: starEach es X.env) : PE X (.Call (.Name "list" p) [e] [] pos) (rdF L xa W (.bltC .list x)) := by
  refine PE.imp (key_blt (b := .list) hK hc hu hg hm (L2.pa_cons h L2.pa_nil (st [])) st) fun s H Q q => ?_
  obtain ⟨Z, r, ow, S, env, fr, q⟩ := q
  simp only [evE] at q
  refine rdE.bind (P := PostF L xa Z r ow H env s Q (fun c d H' => W c d s H')) fr q (fun d1 S1 h1 v1 H1 r1 st1 fr1 p1 => ?_) (fun c d S' h => h) id
  have pc := fr1.drf p1
  cases e : bltB .list [drf S1 d1] with
  | none => rw [e] at h1; exact h1.elim
  | some d =>
    rw [e] at h1
    obtain ⟨ys, rfl, h1⟩ := h1
    generalize drf S1 d1 = dd at e pc
    cases dd <;> simp [bltB] at e
    · subst e
      obtain ⟨a, ws, e1, h2, q1⟩ := pc.tup
      exact ⟨a, ws, by rw [e1], .inr h2, fun p hp => h1 p _ H1 r1 st1 fr1 hp q1⟩
    · subst e
      obtain ⟨a, ws, e1, h2, q1⟩ := pc.lst
      exact ⟨a, ws, by rw [e1], .inl (.of h2), fun p hp => h1 p _ H1 r1 st1 fr1 hp q1⟩
/-- a new list becomes a cell -/
theorem new_read {s : L2.St} {H : Hp} {Q : VK} (q : rdE L xa W (.new x) s H Q) : rdF L xa W x s H Q := by
  obtain ⟨Z, r, ow, S, env, fr, q⟩ := q
  simp only [evE] at q
  refine ⟨Z, r, ow, S, env, fr, ?_⟩
  cases ee : evE L.F x env S with
  | stuck => rw [ee] at q; exact q.elim
  | exc c d S' => rw [ee] at q; exact q
  | ok d S1 =>
    rw [ee] at q
    simp only [Res.bind] at q
    cases d with
    | lst xs =>
      refine ⟨xs, rfl, fun p vs H' r' st fr' hp rp => ?_⟩
      have st2 : Stp H' r' (upd H' p (.lst vs)) (r' ++ [p]) := .cell hp
      exact q _ _ _ (st.trans st2) (fr'.cell hp ⟨vs, upd_same, st2.reps rp⟩) (rep_new fr')
    | _ => exact q.elim
theorem snd_new (h : PE X e (rdF L xa W x)) : PE X e (rdE L xa W (.new x)) := PE.imp h fun s H Q q => new_read q
theorem popB_some {zz : Bool} {S S' : Sto} {d y : D} (h : popB zz S d = some (y, S')) : ∃ n xs ys, d = .ref n ∧ S[n]? = some (.lst xs) ∧ S' = S.set n (.lst ys) ∧ ((zz = true ∧ xs = y :: ys) ∨ (zz = false ∧ xs.getLast? = some y ∧ ys = xs.dropLast)) := by
  unfold popB at h
  split at h
  · rename_i n
    split at h
    · rename_i xs e
      split at h
      · rename_i hz
        split at h
        · rename_i y' ys
          cases h
          exact ⟨n, _, ys, rfl, e, rfl, .inl ⟨hz, rfl⟩⟩
        · cases h
      · rename_i hz
        split at h
        · rename_i y' e2
          cases h
          exact ⟨n, xs, _, rfl, e, rfl, .inr ⟨by simpa using hz, e2, rfl⟩⟩
        · cases h
    · cases h
  · cases h
theorem snd_cpop (hK : X.K = L.G.K) (h : PE X e (rdE L xa W x)) (hb : attributeBase e "pop" X.env (eval e X.env) = eval e X.env) (hl : (apos.endLine == cpos.line) = true) :
    PE X (.Call (.Attribute e "pop" apos) [] [] cpos) (rdE L xa W (.cpop false x)) := by
  refine PE.imp (L2.pe_bm0 PySem.F.plainAttrs_list PySem.F.slot_list_pop PySem.F.type_list_pop L2.mt_pop h hb hl) fun s H Q q => ?_
  obtain ⟨Z, r, ow, S, env, fr, q⟩ := q
  simp only [evE] at q
  refine rdE.bind (P := PostE L xa Z r ow H env s Q (fun c d H' => W c d s H')) fr q (fun d S1 h1 v H1 r1 st1 fr1 p1 => ?_) (fun c d S' h => h) id
  cases ep : popB false S1 d with
  | none => rw [ep] at h1; exact h1.elim
  | some pr =>
    obtain ⟨y, S2⟩ := pr
    rw [ep] at h1
    obtain ⟨n, xs, ys, rfl, e1, rfl, (⟨z, _⟩ | ⟨_, e2, rfl⟩)⟩ := popB_some ep
    · cases z
    obtain ⟨a, rfl, hr, vs, ha, hp⟩ := fr1.at p1 e1
    rw [List.getLast?_eq_getElem?] at e2
    obtain ⟨w, hw, rw'⟩ := hp.at e2
    have pl := (fr1.sto.cell n a _ hr e1).plain
    have hm : a ∈ r1 := List.mem_of_getElem? hr
    obtain ⟨st2, fr2⟩ := fr1.wcell (o := .lst vs.dropLast) (c := .lst xs.dropLast) hr e1 ⟨_, upd_same, reps_wc hm pl hp.dropLast⟩
    exact ⟨.inl ⟨rfl, vs, .of ha⟩, a, vs, w, rfl, rfl, ha, by rw [hp.len]; exact hw, h1 _ _ _ (st1.trans st2) fr2 (rep_wc hm pl rw')⟩
theorem snd_cpop0 {j : Nat} {ip : Pos} (hK : X.K = L.G.K) (h : PE X e (rdE L xa W x)) (hb : attributeBase e "pop" X.env (eval e X.env) = eval e X.env) (hl : (apos.endLine == cpos.line) = true) :
    PE X (.Call (.Attribute e "pop" apos) [.Constant (.int 0) j ip] [] cpos) (rdE L xa W (.cpop true x)) := by
  refine PE.imp (L2.pe_bm PySem.F.plainAttrs_list PySem.F.slot_list_pop PySem.F.type_list_pop L2.mt_popAt h (L2.pa_cons L2.pe_int L2.pa_nil rfl) hb rfl hl rfl rfl) fun s H Q q => ?_
  obtain ⟨Z, r, ow, S, env, fr, q⟩ := q
  simp only [evE] at q
  refine rdE.bind (P := PostE L xa Z r ow H env s Q (fun c d H' => W c d s H')) fr q (fun d S1 h1 v H1 r1 st1 fr1 p1 => ?_) (fun c d S' h => h) id
  cases ep : popB true S1 d with
  | none => rw [ep] at h1; exact h1.elim
  | some pr =>
    obtain ⟨y, S2⟩ := pr
    rw [ep] at h1
    obtain ⟨n, xs, ys, rfl, e1, rfl, (⟨_, rfl⟩ | ⟨z, _⟩)⟩ := popB_some ep
    case inr => cases z
    obtain ⟨a, rfl, hr, vs, ha, hp⟩ := fr1.at p1 e1
    rw [Reps] at hp
    obtain ⟨w, ws, rfl, rw', hp⟩ := hp
    have pl := (fr1.sto.cell n a _ hr e1).plain
    have hm : a ∈ r1 := List.mem_of_getElem? hr
    obtain ⟨st2, fr2⟩ := fr1.wcell (o := .lst ws) (c := .lst ys) hr e1 ⟨_, upd_same, reps_wc hm pl hp⟩
    exact ⟨.inl ⟨rfl, _, .of ha⟩, a, w :: ws, 0, 0, w, rfl, rfl, ha, by decide, by decide, (by unfold seqIndex?; simp), rfl, h1 _ _ _ (st1.trans st2) fr2 (rep_wc hm pl rw')⟩
theorem len_ins {pins : List (Addr × Obj)} {σ : L2.St} {H : Hp} {s : Shared} {a C dx f : Addr} {fs : List (Str × V)} {Q : Value → Shared → Prop} (I : L2.Inv X pins σ H s) (ea : H a = some (.ins C dx fs)) (hm : L2.Meth X.K C "__len__" f)
    (hc : wpAny (model X.prog X.w) X.A.in1 (call (.ref f) [.ref a]) (fun r s' => ∃ n u, r = .int n u ∧ 0 ≤ n ∧ n < 2 ^ 63 ∧ Q (.int n s'.toks) { s' with toks := s'.toks + 1 }) X.xe s) : wpAny (model X.prog X.w) X.A (call (.builtin "len") [.ref a]) Q X.xe s := by
  obtain ⟨mA, O, _⟩ := L2.ins_get I.hok ea
  have ty : PySem.W.Looks (model X.prog X.w) s.heap (typeOf (.ref a)) (.ref C) := NwA.type_at O.obj rfl
  have sp : PySem.W.Looks (model X.prog X.w) s.heap (specialOf (.ref a) "__len__") (some (.ref f)) := ty.andThen (PySem.W.looks_findIn I.kIn hm.at_)
  refine Calls.call_function_entry kind_len plain_len entry_len (args_len1 _) ?_
  unfold Builtin.«len»
  refine wpAny_bind (m := oneArg "len" _) (wpAny_pure ?_)
  have cs : wpAny (model X.prog X.w) X.A.in1 (callSpecial? (.ref a) (Str.ofString "__len__")) (fun o s' => ∃ n u, o = some (.int n u) ∧ 0 ≤ n ∧ n < 2 ^ 63 ∧ Q (.int n s'.toks) { s' with toks := s'.toks + 1 }) X.xe s := by
    unfold callSpecial?
    refine wpAny_bind (sp.here ?_)
    refine wpAny_holding ?_
    unfold bindSpecial
    refine wpAny_bind (wpAny_bind ((PySem.W.looks_typeIn I.kIn (beq_iff_eq.mp hm.fn)).here ?_))
    rw [if_pos (by decide)]
    refine wpAny_pure (wpAny_bind (wpAny_mono hc (fun v s' h => ?_) fun _ _ y => y))
    obtain ⟨n, u, rfl, h0, h1, hq⟩ := h
    exact wpAny_pure ⟨n, u, rfl, h0, h1, hq⟩
  refine wpAny_bind (m := callSpecial? (.ref a) (Str.ofString "__len__")) (wpAny_mono cs (fun o s' h => ?_) fun _ _ y => y)
  obtain ⟨n, u, rfl, h0, h1, hq⟩ := h
  refine wpAny_bind (wpAny_holding (wpAny_pure ?_))
  refine wpAny_bind (wpAny_letGo ?_)
  show wpAny _ _ (if n < 0 then _ else _) _ _ _
  rw [if_neg (by omega)]
  show wpAny _ _ (if n ≥ 2 ^ 63 then _ else _) _ _ _
  rw [if_neg (by omega)]
  exact wpAny_bind (wpAny_mkInt (wpAny_pure ⟨_, rfl, hq⟩))
theorem snd_ilen {c f : Nat} (tk : L2.Takes X W) (ok : MethOk L X ⟨c, "__len__", f, 0, [], [.inl 0]⟩) (hg : L2.Gl X "len") (hm : X.mg "len" = none) (h : PE X e (rdE L xa W x)) (st : ∀ es, starEach (e :: es) X.env = (false, eval e X.env) :: starEach es X.env) :
    PE X (.Call (.Name "len" p) [e] [] pos) (rdE L xa W (.ilen c f x)) := by
  obtain ⟨nf, hc, ok⟩ := ok
  refine ⟨fun pins s σ H Q I q => ?_⟩
  refine wpAny_Call_Name_kw (L2.ld_blt I hg hm (u := .builtin "len") rfl ?_ (by decide) (by decide))
  obtain ⟨Z, r, ow, S, env, fr, q⟩ := q
  simp only [evE] at q
  have hr : rdE L xa W x σ H fun v H1 => ∃ a C dx fs, [v] = [V.ref a] ∧ H1 a = some (.ins C dx fs) ∧ (c, C) ∈ L.G.cl ∧ spF L f 1 [.ref a] H1 (fun v H2 => ∃ n, v = .int n ∧ 0 ≤ n ∧ n < 2 ^ 63 ∧ Q (.int n) H2) (L2.WE W σ) := by
    refine rdE.bind (P := PostE L xa Z r ow H env σ Q (fun c d H' => W c d σ H')) fr q (fun d S1 h1 v H1 r1 st1 fr1 p1 => ?_) (fun c d S' h => h) id
    cases d with
    | ref n =>
      simp only at h1
      split at h1
      · rename_i hi
        obtain ⟨fs, ei⟩ := isIns_some hi
        obtain ⟨a, rfl, hr, C, dx, us, hcl, hha, hp⟩ := fr1.at p1 ei
        refine ⟨a, C, dx, us, rfl, hha, hcl, rfl, Zc Z ow, r1, S1, [.ref n], fr1.base, .cons (by rw [Rep]; exact ⟨a, hr, rfl⟩) Reps.nil, PostE.call fr1 st1 (Q := fun v H2 => ∃ n, v = .int n ∧ 0 ≤ n ∧ n < 2 ^ 63 ∧ Q (.int n) H2) ?_⟩
        cases ec : L.F.call f [.ref n] S1 with
        | stuck => rw [ec] at h1; exact h1
        | exc c d S' => rw [ec] at h1; exact h1
        | ok d S' =>
          rw [ec] at h1
          simp only [Res.bind] at h1
          cases d with
          | int i =>
            simp only at h1
            split at h1
            · rename_i hi
              intro v H' r' st' fr' rp
              rw [Rep] at rp
              exact ⟨i, rp, hi.1, by omega, h1 _ H' r' st' fr' (by rw [Rep])⟩
            · exact h1.elim
          | _ => exact h1.elim
      · exact h1.elim
    | _ => exact h1.elim
  have hr' : L2.tCons (rdE L xa W x) L2.tNil σ H (fun vs H1 => ∃ a C dx fs, vs = [V.ref a] ∧ H1 a = some (.ins C dx fs) ∧ (c, C) ∈ L.G.cl ∧ spF L f 1 [.ref a] H1 (fun v H2 => ∃ n, v = .int n ∧ 0 ≤ n ∧ n < 2 ^ 63 ∧ Q (.int n) H2) (L2.WE W σ)) := hr
  refine PyProof.Rows.callWith_builtin1 (L2.thn ((L2.pa_cons h L2.pa_nil (st [])).run pos pins s σ H _ I hr') fun us s1 ⟨vs, H1, I1, r1, a, C, dx, fs, ev, ea, hcl, q1⟩ => ?_) (st []) rfl
  subst ev
  cases r1 with
  | cons ra rt =>
    cases rt
    cases ra
    obtain ⟨ad, fd, ps, k, g, hme, F, hr, hbn⟩ := ok C hcl
    refine len_ins I1 ea hme ?_
    have rr : L2.Vals [V.ref a] [Value.ref a] := .cons rfl .nil
    refine wpAny_call (codeAny_mono (F.run X.A.in1 X.stack s1 H1 ⟨[.ref a], []⟩ (g [.ref a] []) [.ref a] _ (L2.WE W σ) hr.in1 I1.env0.in1 (hbn.to s1 [.ref a] [] I1.kIn rfl rfl) (hbn.rel (zs := []) (ws := []) rr .nil) q1) fun w s' hq => ?_)
    cases w with
    | error e => exact L2.passAt tk σ pins H1 s1 e s' I1 hq
    | ok fl =>
      cases fl with
      | ret u =>
        obtain ⟨v, H', I', rv, n, ev, h0, h1, q⟩ := I1.after hq
        subst ev
        obtain ⟨t, rfl⟩ := (show ∃ t, u = Value.int n t from rv)
        exact ⟨n, t, rfl, h0, h1, .int n, H', I'.tok _, ⟨_, rfl⟩, q⟩
      | next => exact False.elim hq
      | brk => exact False.elim hq
      | cont => exact False.elim hq
end
end Mi

set_option maxRecDepth 100000
set_option maxHeartbeats 4000000
namespace Mi
open PySem PySem.Spec PyProof.Rows
open L2 (V Hp HO upd upd_same upd_ne Same SqL SqT Rd VK XK WX PE PT PA OpR CallR IxR SlR TE TT TA tOp Dp DpAll PI TI PG PGs TG TGs)
section
variable {G : Gd} {H : Hp} {B : Addr → Prop} {r : List Addr}
theorem key_rep {k : D} {v : V} (hk : keyS k = true) (h : Rep G H B r k v) : ∃ kk, KeyR k kk ∧ v = L2.kV kk := by
  cases k <;> simp [keyS] at hk
  · rw [Rep] at h
    exact ⟨.inl _, rfl, h⟩
  · rw [Rep] at h
    exact ⟨.inr _, ⟨rfl, h.2⟩, h.1⟩
theorem key_eqv : ∀ {x y : D} {a b : L2.Key}, KeyR x a → KeyR y b → D.eqv x y = decide (a = b)
  | .int i, .int j, .inl a, .inl b, h, k => by
    cases (show i = a from h)
    cases (show j = b from k)
    by_cases e : i = j <;> simp [D.eqv, e]
  | .int i, .str z, .inl a, .inr b, h, k => by simp [D.eqv]
  | .str z, .int i, .inr a, .inl b, h, k => by simp [D.eqv]
  | .str y, .str z, .inr a, .inr b, h, k => by
    obtain ⟨rfl, _⟩ := (show a = toStr y ∧ okStr y from h)
    obtain ⟨rfl, _⟩ := (show b = toStr z ∧ okStr z from k)
    by_cases e : y = z
    · subst e; simp [D.eqv]
    · have : toStr y ≠ toStr z := fun q => e (toStr_inj q)
      simp [D.eqv, e, this]
  | .int _, .int _, .inl _, .inr _, _, k => k.elim
  | .int _, .int _, .inr _, _, h, _ => h.elim
  | .int _, .str _, .inl _, .inl _, _, k => k.elim
  | .int _, .str _, .inr _, _, h, _ => h.elim
  | .str _, .int _, .inr _, .inr _, _, k => k.elim
  | .str _, .int _, .inl _, _, h, _ => h.elim
  | .str _, .str _, .inr _, .inl _, _, k => k.elim
  | .str _, .str _, .inl _, _, h, _ => h.elim
  | .non, _, _, _, h, _ => h.elim
  | .bl _, _, _, _, h, _ => h.elim
  | .tup _, _, _, _, h, _ => h.elim
  | .lst _, _, _, _, h, _ => h.elim
  | .scr, _, _, _, h, _ => h.elim
  | .ref _, _, _, _, h, _ => h.elim
  | .int _, .non, _, _, _, k => k.elim
  | .int _, .bl _, _, _, _, k => k.elim
  | .int _, .tup _, _, _, _, k => k.elim
  | .int _, .lst _, _, _, _, k => k.elim
  | .int _, .scr, _, _, _, k => k.elim
  | .int _, .ref _, _, _, _, k => k.elim
  | .str _, .non, _, _, _, k => k.elim
  | .str _, .bl _, _, _, _, k => k.elim
  | .str _, .tup _, _, _, _, k => k.elim
  | .str _, .lst _, _, _, _, k => k.elim
  | .str _, .scr, _, _, _, k => k.elim
  | .str _, .ref _, _, _, _, k => k.elim
theorem dk_look {k : D} {kk : L2.Key} (hk : KeyR k kk) : ∀ {kvs : List (D × D)} {us : List (L2.Key × V)}, Paired (DKR G H B r) kvs us → (dLook k kvs = none ∧ L2.valV us kk = none) ∨ ∃ d v, dLook k kvs = some d ∧ L2.valV us kk = some v ∧ Rep G H B r d v
  | _, _, .nil => .inl ⟨rfl, rfl⟩
  | _, _, .cons (a := (x, d)) (b := (y, v)) (l₁ := kvs) (l₂ := us) h t => by
    have e := key_eqv h.1 hk
    by_cases q : y = kk
    · refine .inr ⟨d, v, ?_, ?_, h.2⟩
      · unfold dLook
        rw [List.find?_cons]
        simp [e, q]
      · unfold L2.valV
        rw [List.find?_cons]
        simp [q]
    · have e1 : dLook k ((x, d) :: kvs) = dLook k kvs := by
        unfold dLook
        rw [List.find?_cons]
        simp [e, q]
      have e2 : L2.valV ((y, v) :: us) kk = L2.valV us kk := by
        unfold L2.valV
        rw [List.find?_cons]
        simp [q]
      rw [e1, e2]
      exact dk_look hk t
theorem paired_map {α β α' β' : Type} {F : α → β → Prop} {F' : α' → β' → Prop} {f : α → α'} {g : β → β'} (h : ∀ a b, F a b → F' (f a) (g b)) : ∀ {xs : List α} {ys : List β}, Paired F xs ys → Paired F' (xs.map f) (ys.map g)
  | _, _, .nil => .nil
  | _, _, .cons a t => .cons (h _ _ a) (paired_map h t)
theorem paired_app {α β : Type} {F : α → β → Prop} : ∀ {xs xs' : List α} {ys ys' : List β}, Paired F xs ys → Paired F xs' ys' → Paired F (xs ++ xs') (ys ++ ys')
  | _, _, _, _, .nil, h => h
  | _, _, _, _, .cons a t, h => .cons a (paired_app t h)
theorem dk_any {k : D} {kk : L2.Key} (hk : KeyR k kk) : ∀ {kvs : List (D × D)} {us : List (L2.Key × V)}, Paired (DKR G H B r) kvs us → (kvs.any fun p => D.eqv p.1 k) = us.any fun q => decide (q.1 = kk)
  | _, _, .nil => rfl
  | _, _, .cons h t => by
    rw [List.any_cons, List.any_cons, key_eqv h.1 hk, dk_any hk t]
theorem dk_put {k : D} {kk : L2.Key} (hk : KeyR k kk) {d : D} {v : V} (rp : Rep G H B r d v) {kvs : List (D × D)} {us : List (L2.Key × V)} (h : Paired (DKR G H B r) kvs us) : Paired (DKR G H B r) (dPut k d kvs) (L2.putK us kk v) := by
  unfold dPut L2.putK
  rw [dk_any hk h]
  by_cases q : (us.any fun q => decide (q.1 = kk)) = true
  · rw [if_pos q, if_pos q]
    refine paired_map (fun a b hab => ?_) h
    rw [key_eqv hab.1 hk]
    by_cases e : b.1 = kk
    · simp only [e, decide_true, if_true]
      exact ⟨by rw [← e]; exact hab.1, rp⟩
    · simp only [e, decide_false, Bool.false_eq_true, if_false]
      exact hab
  · rw [if_neg q, if_neg q]
    exact paired_app h (.cons ⟨hk, rp⟩ .nil)
theorem dk_mrg : ∀ {more : List (D × D)} {ms : List (L2.Key × V)} {kvs : List (D × D)} {us : List (L2.Key × V)}, Paired (DKR G H B r) more ms → Paired (DKR G H B r) kvs us → Paired (DKR G H B r) (dMrg kvs more) (L2.mergeK us ms)
  | _, _, _, _, .nil, h => h
  | _, _, _, _, .cons (a := (k, d)) (b := (kk, v)) a t, h => by
    have := dk_mrg t (dk_put a.1 a.2 h)
    exact this
end
section
variable {L : Lt} {xa : XA} {X : L2.Cx} {W : WX} {e e1 e2 e3 o : Expr} {x y z : Ex} {pos p apos cpos : Pos}
theorem dgetB_some {S : Sto} {a k d : D} (h : dgetB S a k = some d) : ∃ n t kvs, a = .ref n ∧ S[n]? = some (.dct t kvs) ∧ keyB t k = true ∧ dLook k kvs = some d := by
  unfold dgetB at h
  split at h
  · rename_i n
    split at h
    · rename_i t kvs e
      split at h
      · rename_i hk
        exact ⟨n, t, kvs, rfl, e, hk, h⟩
      · cases h
    · cases h
  · cases h
theorem dinB_some {S : Sto} {a k : D} {b : Bool} (h : dinB S a k = some b) : ∃ n t kvs, a = .ref n ∧ S[n]? = some (.dct t kvs) ∧ keyB t k = true ∧ b = (dLook k kvs).isSome := by
  unfold dinB at h
  split at h
  · rename_i n
    split at h
    · rename_i t kvs e
      split at h
      · rename_i hk
        cases h
        exact ⟨n, t, kvs, rfl, e, hk, rfl⟩
      · cases h
    · cases h
  · cases h
theorem snd_dget (hu : X.A.units + 1 < cLine) (h1 : PE X e1 (rdE L xa W x)) (h2 : PE X e2 (rdE L xa W y)) (hs : L2.NoSl e2) : PE X (.Subscript e1 e2 pos) (rdE L xa W (.dget x y)) := by
  refine PE.imp (L2.pe_dget hu h1 h2 hs) fun s H Q q => ?_
  obtain ⟨Z, r, ow, S, env, fr, q⟩ := q
  simp only [evE] at q
  refine rdE.bind (P := PostE L xa Z r ow H env s Q (fun c d H' => W c d s H')) fr q (fun d1 S1 h1 v1 H1 r1 st1 fr1 p1 => ?_) (fun c d S' h => h) id
  refine rdE.bind (P := PostE L xa Z r ow H env s Q (fun c d H' => W c d s H')) fr1 h1 (fun d2 S2 h2 v2 H2 r2 st2 fr2 p2 => ?_) (fun c d S' h cls dd H' r' st => h cls dd H' r' (st1.trans st)) id
  cases e : dgetB S2 d1 d2 with
  | none => rw [e] at h2; exact h2.elim
  | some d =>
    rw [e] at h2
    obtain ⟨n, t, kvs, rfl, e1, e2, e3⟩ := dgetB_some e
    have p1 := st2.rep p1
    cases t with
    | true =>
      obtain ⟨a, _, _, z⟩ := fr2.at p1 e1
      exact z.elim
    | false =>
      obtain ⟨a, rfl, hr, us, ha, hp⟩ := fr2.at p1 e1
      obtain ⟨kk, hk, rfl⟩ := key_rep (by simpa [keyB] using e2) p2
      rcases dk_look hk hp with ⟨z, _⟩ | ⟨d', v, z1, z2, rp⟩
      · rw [e3] at z; cases z
      · rw [e3] at z1; cases z1
        refine ⟨a, v, rfl, ?_, h2 v H2 r2 (st1.trans st2) fr2 rp⟩
        have := L2.DGet.k (k := kk) ha
        rw [z2] at this
        exact this
theorem din_ok {neg : Bool} {s : L2.St} {H : Hp} {Q : VK} (q : rdE L xa W (.din neg y x) s H Q) : (rdE L xa W y) s H fun k H1 => (rdE L xa W x) s H1 fun v H2 => ∃ a o, v = .ref a ∧ L2.DGet H2 a k o ∧ Q (.bl (if neg = true then !o.isSome else o.isSome)) H2 := by
  obtain ⟨Z, r, ow, S, env, fr, q⟩ := q
  simp only [evE] at q
  refine rdE.bind (P := PostE L xa Z r ow H env s Q (fun c d H' => W c d s H')) fr q (fun d1 S1 h1 v1 H1 r1 st1 fr1 p1 => ?_) (fun c d S' h => h) id
  refine rdE.bind (P := PostE L xa Z r ow H env s Q (fun c d H' => W c d s H')) fr1 h1 (fun d2 S2 h2 v2 H2 r2 st2 fr2 p2 => ?_) (fun c d S' h cls dd H' r' st => h cls dd H' r' (st1.trans st)) id
  cases e : dinB S2 d2 d1 with
  | none => rw [e] at h2; exact h2.elim
  | some b =>
    rw [e] at h2
    obtain ⟨n, t, kvs, rfl, e1, e2, rfl⟩ := dinB_some e
    have p1 := st2.rep p1
    cases t with
    | true =>
      obtain ⟨a, _, _, z⟩ := fr2.at p2 e1
      exact z.elim
    | false =>
      obtain ⟨a, rfl, hr, us, ha, hp⟩ := fr2.at p2 e1
      obtain ⟨kk, hk, rfl⟩ := key_rep (by simpa [keyB] using e2) p1
      refine ⟨a, _, rfl, L2.DGet.k (k := kk) ha, ?_⟩
      have hs : (L2.valV us kk).isSome = (dLook d1 kvs).isSome := by
        rcases dk_look hk hp with ⟨z1, z2⟩ | ⟨d', v, z1, z2, rp⟩
        · rw [z1, z2]; rfl
        · rw [z1, z2]; rfl
      rw [hs]
      exact h2 _ H2 r2 (st1.trans st2) fr2 (by rw [Rep])
theorem snd_din {neg : Bool} (hu : X.A.units + 1 < cLine) (h1 : PE X e1 (rdE L xa W y)) (h2 : PE X e2 (rdE L xa W x)) (hm : ∀ op, behindInMarks op e2 = false) : PE X (.Compare e1 [if neg = true then .NotIn else .In] [e2] pos) (rdE L xa W (.din neg y x)) := by
  cases neg with
  | false => exact PE.imp (L2.pe_cmp (L2.pc_din hu h1 h2) (hm _)) fun s H Q q => din_ok q
  | true => exact PE.imp (L2.pe_cmp (L2.pc_dnotin hu h1 h2) (hm _)) fun s H Q q => din_ok q
theorem sndT_din {neg : Bool} (hu : X.A.units + 1 < cLine) (h1 : PE X e1 (rdE L xa W y)) (h2 : PE X e2 (rdE L xa W x)) (hm : ∀ op, behindInMarks op e2 = false) : PT X (.Compare e1 [if neg = true then .NotIn else .In] [e2] pos) (rdT L xa W (.din neg y x)) := by
  cases neg with
  | false => exact PT.imp (L2.pt_cmp (L2.pc_din hu h1 h2) (hm _)) fun s H Q q => din_ok (neg := false) q
  | true => exact PT.imp (L2.pt_cmp (L2.pc_dnotin hu h1 h2) (hm _)) fun s H Q q => din_ok (neg := true) q
theorem snd_dnew : PE X (.Dict [] [] pos) (rdE L xa W (.dnew false)) := by
  refine PE.imp L2.pe_dnewK fun s H Q q => ?_
  obtain ⟨Z, r, ow, S, env, fr, q⟩ := q
  simp only [evE] at q
  intro p hp
  exact q _ _ _ (.cell hp) (fr.cell hp ⟨[], upd_same, .nil⟩) (rep_new fr)
theorem snd_dcp (hg : L2.Gl X "dict") (hm : X.mg "dict" = none) (h : PE X e (rdE L xa W x)) (st : ∀ es, starEach (e :: es) X.env = (false, eval e X.env) :: starEach es X.env) : PE X (.Call (.Name "dict" p) [e] [] pos) (rdE L xa W (.dcp x)) := by
  refine PE.imp (L2.pe_callTy L2.call_dictD hg hm rfl (L2.pa_cons h L2.pa_nil (st [])) (by decide) (by decide) (st []) rfl) fun s H Q q => ?_
  obtain ⟨Z, r, ow, S, env, fr, q⟩ := q
  simp only [evE] at q
  refine rdE.bind (P := PostE L xa Z r ow H env s Q (fun c d H' => W c d s H')) fr q (fun d1 S1 h1 v1 H1 r1 st1 fr1 p1 => ?_) (fun c d S' h => h) id
  cases d1 with
  | ref n =>
    simp only at h1
    split at h1
    · rename_i t kvs e1
      split at h1
      · cases t with
        | true =>
          obtain ⟨a, _, _, z⟩ := fr1.at p1 e1
          exact z.elim
        | false =>
          obtain ⟨a, rfl, hr, us, ha, hp⟩ := fr1.at p1 e1
          refine ⟨a, us, rfl, .inl ha, fun p hp0 => ?_⟩
          have st2 : Stp H1 r1 (upd H1 p (.dK us)) (r1 ++ [p]) := .cell hp0
          exact h1 _ _ _ (st1.trans st2) (fr1.cell hp0 ⟨us, upd_same, paired_imp (fun _ _ z => ⟨z.1, st2.rep z.2⟩) hp⟩) (rep_new fr1)
      · exact h1.elim
    · exact h1.elim
  | _ => exact h1.elim
/-- the pairs of a display, by trees -/
def prsX : List Ex → List (Ex × Ex)
  | k :: v :: r => (k, v) :: prsX r
  | _ => []
theorem prs_keys {H : Hp} {B : Addr → Prop} {r : List Addr} : ∀ {ds : List D} {vs : List V} {kvs : List (D × D)}, Reps L.G H B r ds vs → prsD ds = some kvs → ∃ us : List (L2.Key × V), Paired (DKR L.G H B r) kvs us ∧ us.length = kvs.length ∧ vs = (us.flatMap fun q => [L2.kV q.1, q.2])
  | [], vs, kvs, h, e => by
    rw [Reps] at h
    subst h
    simp [prsD] at e
    subst e
    exact ⟨[], .nil, rfl, rfl⟩
  | [_], vs, kvs, h, e => by simp [prsD] at e
  | k :: d :: ds, vs, kvs, h, e => by
    rw [Reps] at h
    obtain ⟨v1, vs1, rfl, p1, h⟩ := h
    rw [Reps] at h
    obtain ⟨v2, vs2, rfl, p2, h⟩ := h
    simp only [prsD] at e
    split at e
    · rename_i hk
      obtain ⟨kvs', e', rfl⟩ := Option.map_eq_some_iff.mp e
      obtain ⟨us, q1, q2, q3⟩ := prs_keys h e'
      obtain ⟨kk, k1, rfl⟩ := key_rep hk p1
      exact ⟨(kk, v2) :: us, .cons ⟨k1, p2⟩ q1, by simp [q2], by simp [q3]⟩
    · cases e
theorem pairs_read {s : L2.St} : ∀ (xs : List Ex) {Z : Addr → Prop} {r : List Addr} {ow : Nat → Option Addr} {H : Hp} {S : Sto} {env : Env} {Q : List (V × V) → Hp → Prop}, Fr L.G L.xc xa Z r ow H S env s → xs.length % 2 = 0 →
    PostEs L xa Z r ow H env s (fun vs H' => ∀ ps : List (V × V), vs = (ps.flatMap fun q => [q.1, q.2]) → Q ps H') (fun c d H' => W c d s H') (evEs L.F xs env S) → L2.tPairs ((prsX xs).map fun q => (rdE L xa W q.1, rdE L xa W q.2)) s H Q
  | [], Z, r, ow, H, S, env, Q, fr, _, q => by
    simp only [evEs] at q
    exact q [] H r .refl fr Reps.nil [] rfl
  | [_], _, _, _, _, _, _, _, _, h, _ => by simp at h
  | k :: v :: xs, Z, r, ow, H, S, env, Q, fr, hl, q => by
    simp only [evEs] at q
    show rdE L xa W k s H _
    refine rdE.bind (P := PostEs L xa Z r ow H env s (fun vs H' => ∀ ps : List (V × V), vs = (ps.flatMap fun q => [q.1, q.2]) → Q ps H') (fun c d H' => W c d s H')) fr q (fun d1 S1 h1 v1 H1 r1 st1 fr1 p1 => ?_) (fun c d S' h => h) id
    have h1' : PostEs L xa Z r ow H env s (fun vs H' => ∀ ps : List (V × V), vs = (ps.flatMap fun q => [q.1, q.2]) → Q ps H') (fun c d H' => W c d s H') ((evE L.F v env S1).bind fun d S => (evEs L.F xs env S).bind fun ds S => .ok (d1 :: d :: ds) S) := by
      cases ev : evE L.F v env S1 with
      | stuck => rw [ev] at h1; exact h1
      | exc c d S' => rw [ev] at h1; exact h1
      | ok d S' =>
        rw [ev] at h1
        simp only [Res.bind] at h1 ⊢
        cases ev2 : evEs L.F xs env S' with
        | stuck => rw [ev2] at h1; exact h1
        | exc c d S' => rw [ev2] at h1; exact h1
        | ok ds S'' => rw [ev2] at h1; exact h1
    refine rdE.bind (P := PostEs L xa Z r ow H env s (fun vs H' => ∀ ps : List (V × V), vs = (ps.flatMap fun q => [q.1, q.2]) → Q ps H') (fun c d H' => W c d s H')) fr1 h1' (fun d2 S2 h2 v2 H2 r2 st2 fr2 p2 => ?_) (fun c d S' h cls dd H' r' st => h cls dd H' r' (st1.trans st)) id
    refine pairs_read xs fr2 (by simp at hl; omega) ?_
    cases ev2 : evEs L.F xs env S2 with
    | stuck => rw [ev2] at h2; exact h2
    | exc c d S' => rw [ev2] at h2; exact fun cls dd H' r' st => h2 cls dd H' r' ((st1.trans st2).trans st)
    | ok ds S3 =>
      rw [ev2] at h2
      intro vs H' r' st fr' rp ps eps
      exact h2 (v1 :: v2 :: vs) H' r' ((st1.trans st2).trans st) fr' (.cons (st.rep (st2.rep p1)) (.cons (st.rep p2) rp)) ((v1, v2) :: ps) (by simp [eps])
theorem flat_inj : ∀ {us ps : List (V × V)}, (us.flatMap fun q => [q.1, q.2]) = (ps.flatMap fun q => [q.1, q.2]) → ps = us
  | [], [], _ => rfl
  | [], _ :: _, h => by simp at h
  | _ :: _, [], h => by simp at h
  | (a, b) :: us, (c, d) :: ps, h => by
    simp at h
    obtain ⟨rfl, rfl, h⟩ := h
    rw [flat_inj (us := us) (ps := ps) (by simpa using h)]
end
section
variable {G : Gd} {xc : Xc} {xa : XA} {Z : Addr → Prop} {r : List Addr} {ow : Nat → Option Addr} {H : Hp} {S : Sto} {env : Env} {s : L2.St} {p : Addr}
theorem reps_delD (hp : H p = some (.dK [])) {ds : List D} {vs : List V} (h : Reps G H (BB Z r ow) r ds vs) : Reps G (del H p) (BB Z r ow) r ds vs := by
  refine Reps.mono (fun a u e n => ?_) (fun a u e => ?_) (fun a u w e => ?_) (fun a z => .inl z) (fun _ _ e => e) h
  · rw [del_ne (L2.ne_of e hp (by intro z; cases z))]; exact e
  · rw [del_ne (L2.ne_of e hp (by intro z; cases z))]; exact e
  · rw [del_ne (L2.ne_of e hp (by intro z; cases z))]; exact e
theorem rep_delD (hp : H p = some (.dK [])) {d : D} {v : V} (h : Rep G H (BB Z r ow) r d v) : Rep G (del H p) (BB Z r ow) r d v := by
  have := reps_delD hp (.cons h Reps.nil)
  rw [Reps] at this
  obtain ⟨v', ws, e, q, _⟩ := this
  cases e
  exact q
theorem Fr.delD (fr : Fr G xc xa Z r ow H S env s) (hp : H p = some (.dK [])) (hb : ¬ BB Z r ow p) : Fr G xc xa Z r ow (Mi.del H p) S env s := by
  refine ⟨fun i q e => ?_, fr.out, fr.inj, fr.dis, fr.zr, fun a z => ?_, StoR.mono (fun a u e n => by rw [del_ne (L2.ne_of e hp (by intro z; cases z))]; exact e) (fun a u e => by rw [del_ne (L2.ne_of e hp (by intro z; cases z))]; exact e) (fun a u w e => by rw [del_ne (L2.ne_of e hp (by intro z; cases z))]; exact e) (fun a z => .inl z) (fun a ha u e => by rw [del_ne fun z => hb (.inr (.inl (by rw [← z]; exact ha)))]; exact e) fr.sto, fr.len, SqL.frz fr.scf (fun a u w e => ?_) fr.scr, ?_⟩
  · have k := fr.slot i q e
    cases q with
    | un => exact k
    | fz d =>
      obtain ⟨h0, v, h1, h2⟩ := k
      exact ⟨h0, v, h1, rep_delD hp h2⟩
    | own xs =>
      obtain ⟨a, vs, h1, h2, h3, h4⟩ := k
      exact ⟨a, vs, h1, h2, by rw [del_ne fun z => hb (.inr (.inr ⟨i, by rw [← z]; exact h1⟩))]; exact h3, reps_delD hp h4⟩
    | exn c d =>
      obtain ⟨h0, a, cls, dd, h1, h2, C, e1, e2, h3⟩ := k
      refine ⟨h0, a, cls, dd, h1, h2, C, e1, e2, ?_⟩
      cases ef : xc.fld c with
      | none => rw [ef] at h3; exact h3
      | some f =>
        rw [ef] at h3
        obtain ⟨da, v, g1, g2, g3, g4⟩ := h3
        exact ⟨da, v, g1, g2, by rw [del_ne (L2.ne_of g3 hp (by intro z; cases z))]; exact g3, rep_delD hp g4⟩
  · rw [del_ne fun z2 => hb (by rw [← z2]; exact z)]
    exact fr.al a z
  · rw [del_ne (L2.ne_of e hp (by intro z; cases z))]; exact e
  · rcases fr.scf with ⟨o', u, e⟩ | k
    · exact .inl ⟨o', u, by rw [del_ne (L2.ne_of e hp (by intro z; cases z))]; exact e⟩
    · exact .inr k
theorem upd_del2 {o : HO} : upd (del H p) p o = upd H p o := funext fun a => by
  by_cases e : a = p
  · rw [e, upd_same, upd_same]
  · rw [upd_ne e, upd_ne e, del_ne e]
theorem Stp.cell2 {H0 : Hp} {r0 : List Addr} {o : HO} (st : Stp H0 r0 H r) (h0 : H0 p = none) : Stp H0 r0 (upd H p o) (r ++ [p]) where
  pre := fun n a e => by
    have := st.pre n a e
    rw [List.getElem?_append_left (List.getElem?_eq_some_iff.mp this).1]; exact this
  keep := fun a u e n => by rw [upd_ne (L2.ne_of_none e h0)]; exact st.keep a u e n
  tups := fun a u e => by rw [upd_ne (L2.ne_of_none e h0)]; exact st.tups a u e
  frzs := fun a u w e => by rw [upd_ne (L2.ne_of_none e h0)]; exact st.frzs a u w e
  new := fun a h => by
    rcases List.mem_append.mp h with h | h
    · exact st.new a h
    · rw [List.mem_singleton.mp h]; exact .inr h0
  some_ := fun a u e => by rw [upd_ne (L2.ne_of_none e h0)]; exact st.some_ a u e
end
section
variable {L : Lt} {xa : XA} {X : L2.Cx} {W : WX} {e e1 e2 e3 o : Expr} {x y z : Ex} {pos p apos cpos : Pos}
theorem snd_ddsp {keys : List (Option Expr)} {values : List Expr} {es : List Ex} (h : L2.PPs X pos keys values ((prsX es).map fun q => (rdE L xa W q.1, rdE L xa W q.2))) (hall : keys.all (·.isSome) = true) (hl : keys.length = values.length) (h0 : keys ≠ []) (h15 : keys.length ≤ 15) (hev : es.length % 2 = 0) :
    PE X (.Dict keys values pos) (rdE L xa W (.ddsp es)) := by
  refine PE.imp (L2.pe_disp h hall hl h0 h15) fun s H Q q => ?_
  obtain ⟨Z, r, ow, S, env, fr, q⟩ := q
  simp only [evE] at q
  intro p hp
  have hb : ¬ BB Z r ow p := fr.fresh hp
  refine pairs_read es (fr.laid hp) hev ?_
  cases ee : evEs L.F es env S with
  | stuck => rw [ee] at q; exact q.elim
  | exc c d S' =>
    rw [ee] at q
    exact fun cls dd H' r' st fr' ex => q cls dd H' r' ((Stp.laid hp).trans st) fr' ex
  | ok ds S2 =>
    rw [ee] at q
    simp only [Res.bind] at q
    intro vs H' r' st fr' rp ps eps
    cases ek : prsD ds with
    | none => rw [ek] at q; exact q.elim
    | some kvs =>
      rw [ek] at q
      simp only at q
      split at q
      · rename_i hle
        have hp' : H' p = some (.dK []) := st.keep p _ upd_same (fr.notin hp)
        have hnr : p ∉ r' := fun z => by
          rcases st.new p z with z | z
          · exact fr.notin hp z
          · rw [upd_same] at z; cases z
        have hb' : ¬ BB Z r' ow p := by
          rintro (z | z | z)
          · exact hb (.inl z)
          · exact hnr z
          · exact hb (.inr (.inr z))
        obtain ⟨us, q1, q2, q3⟩ := prs_keys rp ek
        have eq : ps = us.map fun q => (L2.kV q.1, q.2) := by
          refine flat_inj (us := us.map fun q => (L2.kV q.1, q.2)) ?_
          rw [← eps, q3, List.flatMap_map]
        refine ⟨hp', us, eq, by rw [q2]; exact hle, ?_⟩
        have st2 : Stp H r (upd H' p (.dK (L2.mergeK [] us))) (r' ++ [p]) := ((Stp.laid hp).trans st).cell2 hp
        have stc : Stp (del H' p) r' (upd (del H' p) p (.dK (L2.mergeK [] us))) (r' ++ [p]) := .cell del_same
        have q4 : Paired (DKR L.G (upd (del H' p) p (.dK (L2.mergeK [] us))) (BB Z (r' ++ [p]) ow) (r' ++ [p])) kvs us := paired_imp (fun a b z => ⟨z.1, stc.rep (rep_delD hp' z.2)⟩) q1
        have fr2 := (fr'.delD hp' hb').cell (c := .dct false (dMrg [] kvs)) (o := .dK (L2.mergeK [] us)) del_same ⟨_, upd_same, dk_mrg q4 .nil⟩
        rw [upd_del2] at fr2
        exact q _ _ _ st2 fr2 (rep_new fr')
      · exact q.elim
end
end Mi

set_option maxRecDepth 100000
set_option maxHeartbeats 4000000
namespace Mi
open PySem PySem.Spec PyProof.Rows
open L2 (V Hp HO upd upd_same upd_ne Same SqL SqT Rd VK XK WX PE PT PA OpR CallR IxR SlR TE TT TA tOp Dp DpAll PI TI PG PGs TG TGs)

section
variable {L : Lt} {xa : XA} {X : L2.Cx} {W : WX}
theorem lc_read {e : Ex} {t : Tg} {it c : Ex} {n : Nat} (hn : n = 0 → c = .cst (.bl true)) {s : L2.St} {H : Hp} {Q : VK} (q : rdE L xa W (.lc e t it c) s H Q) : L2.tLc (rdI L xa W true it) (rdG L xa t) (rdC L xa WN n c) (rdE L xa WN e) (slots t) s H Q := by
  obtain ⟨Z, r, ow, S, env, fr, q⟩ := q
  simp only [evE] at q
  refine ⟨Z, r, ow, S, env, fr, ?_⟩
  unfold evP
  rw [if_pos rfl]
  cases ee : rd it env S (evE L.F it env S) with
  | stuck => rw [ee] at q; exact q
  | exc c d S' => rw [ee] at q; exact q
  | ok d S1 =>
    rw [ee] at q
    simp only [Res.bind] at q
    cases ei : itB d with
    | none => rw [ei] at q; exact q.elim
    | some xs =>
      rw [ei] at q
      dsimp only at q
      split at q
      · rename_i hz
        simp only [Bool.and_eq_true, decide_eq_true_eq] at hz
        refine ⟨xs, ei, fun J H' r' P As ds ws st fr' src hP hr hA => ?_⟩
        refine lc_ok (Pq := PostE L xa Z r ow H env s Q (fun c d H' => W c d s H')) fr' src hP hr (fun a ha => ⟨(hA a ha).1, (hA a ha).2.1⟩) hz.1 hz.2 hn id (fun D acc accV S' Hc r2 hD qc stc frc hDc hacc => ?_) q
        refine qc (.ref D) Hc r2 (st.trans stc) (frc.unban fun a z => .inl z) ?_
        rw [Rep]
        refine ⟨D, accV, rfl, fun z => ?_, hDc, Reps.ban (fun a z => ?_) hacc⟩
        · rcases z with z | z | ⟨j, z⟩
          · exact fr'.fresh hD (.inl z)
          · exact frc.zr D z (.inr rfl)
          · exact (frc.dis j D z).1 (.inr rfl)
        · rcases z with z | z
          · exact .inl (.inl z)
          · exact .inr z
      · exact q.elim
theorem lc_readF {e : Ex} {t : Tg} {it c : Ex} {n : Nat} (hn : n = 0 → c = .cst (.bl true)) {s : L2.St} {H : Hp} {Q : VK} (q : rdF L xa W (.lc e t it c) s H Q) : L2.tLc (rdI L xa W true it) (rdG L xa t) (rdC L xa WN n c) (rdE L xa WN e) (slots t) s H Q := by
  obtain ⟨Z, r, ow, S, env, fr, q⟩ := q
  simp only [evE] at q
  refine ⟨Z, r, ow, S, env, fr, ?_⟩
  unfold evP
  rw [if_pos rfl]
  cases ee : rd it env S (evE L.F it env S) with
  | stuck => rw [ee] at q; exact q
  | exc c d S' => rw [ee] at q; exact q
  | ok d S1 =>
    rw [ee] at q
    simp only [Res.bind] at q
    cases ei : itB d with
    | none => rw [ei] at q; exact q.elim
    | some xs =>
      rw [ei] at q
      dsimp only at q
      split at q
      · rename_i hz
        simp only [Bool.and_eq_true, decide_eq_true_eq] at hz
        refine ⟨xs, ei, fun J H' r' P As ds ws st fr' src hP hr hA => ?_⟩
        refine lc_ok (Pq := PostF L xa Z r ow H env s Q (fun c d H' => W c d s H')) fr' src hP hr (fun a ha => ⟨(hA a ha).1, (hA a ha).2.1⟩) hz.1 hz.2 hn id (fun D acc accV S' Hc r2 hD qc stc frc hDc hacc => ?_) q
        obtain ⟨ds, e0, qc⟩ := qc
        cases e0
        have hzD : ¬ Z D := fun z => fr'.fresh hD (.inl z)
        have std : Stp H r (del Hc D) r2 := by
          have s0 := st.trans stc
          have hHD : H D = none := by
            cases e1 : H D with
            | none => rfl
            | some o =>
              obtain ⟨o', e2⟩ := st.some_ D o e1
              rw [hD] at e2; cases e2
          exact ⟨s0.pre, fun a o e1 n1 => by rw [del_ne (L2.ne_of_none e1 hHD)]; exact s0.keep a o e1 n1, fun a u e1 => by rw [del_ne (L2.ne_of_none e1 hHD)]; exact s0.tups a u e1, fun a u w e1 => by rw [del_ne (L2.ne_of_none e1 hHD)]; exact s0.frzs a u w e1, s0.new, fun a o e1 => by rw [del_ne (L2.ne_of_none e1 hHD)]; exact s0.some_ a o e1⟩
        have := qc D accV (del Hc D) r2 std (frc.del hDc hzD) del_same (reps_del hDc hacc)
        rw [upd_del hDc] at this
        exact this
      · exact q.elim
theorem snd_pts {n : Nat} {ifs : List Expr} {c : Ex} (h : (ifs = [] ∧ n = 0) ∨ ∃ e, ifs = [e] ∧ n = 1 ∧ PT X e (rdT L xa W c)) : L2.PTs X ifs (rdC L xa W n c) := by
  rcases h with ⟨rfl, rfl⟩ | ⟨e, rfl, rfl, h⟩
  · refine ⟨fun pins s σ H Q I q => L2.pts_nil.run pins s σ H Q I ?_⟩
    exact q.2
  · exact L2.pts_one h
end

structure Mc where
  names : List (Str × NameKind)
  N : List Str
  cns : List (Str × D)
  shp : List Shp
  xcl : List (Str × Nat)
  fnl : Option (List (Str × NameKind))
  fd : List Str
  msh : List MShp
  ksh : List MShp

/-- no star, slice or set display -/
def nos : Expr → Bool
  | .Starred .. => false
  | .Slice .. => false
  | .Set .. => false
  | _ => true
/-- a test by its value -/
def plainT : Expr → Bool
  | .UnaryOp .Not _ _ => false
  | .BoolOp .. => false
  | .IfExp .. => false
  | .Compare .. => false
  | _ => true
def Mc.vis (M : Mc) (x : Str) : Bool := (match M.names.lookup x with | some .local => true | some .cell => true | some .free => true | _ => false) && !(x == ("__debug__" : Str)) && !(x == ("__classdict__" : Str))
def Mc.glb (M : Mc) (x : Str) : Bool := (match M.names.lookup x with | some .globalImplicit => true | _ => false) && !(x == ("__debug__" : Str))
def Mc.sto (M : Mc) (x : Str) : Bool := match M.names.lookup x with
  | some .local => true
  | some .cell => match M.fnl with
    | none => true
    | some l => (match l.lookup x with | some .cell => true | _ => false)
  | _ => false
def mCst : D → Const → Bool
  | .non, .none => true
  | .bl a, .bool b => a == b
  | .int a, .int b => a == b
  | .str s, .str z => decide (z.cps.toList = s) && s.all (· < 0x110000)
  | _, _ => false
mutual
def D.same : D → D → Bool
  | .non, .non => true
  | .bl a, .bl b => a == b
  | .int i, .int j => i == j
  | .str x, .str y => x == y
  | .tup xs, .tup ys => D.sames xs ys
  | _, _ => false
def D.sames : List D → List D → Bool
  | [], [] => true
  | x :: xs, y :: ys => D.same x y && D.sames xs ys
  | _, _ => false
end
def bsEq : List (Nat ⊕ D) → List (Nat ⊕ D) → Bool
  | [], [] => true
  | .inl i :: r, .inl j :: s => i == j && bsEq r s
  | .inr d :: r, .inr e :: s => D.same d e && bsEq r s
  | _, _ => false
def kwNames : List Keyword → Option (List Str)
  | [] => some []
  | ⟨some n, _, _⟩ :: r => (kwNames r).map (n :: ·)
  | ⟨none, _, _⟩ :: _ => none
def kwVals : List Keyword → List Expr
  | [] => []
  | ⟨_, e, _⟩ :: r => e :: kwVals r
def Mc.shape (M : Mc) (g : Str) (f n : Nat) (ks : List Str) (bs : List (Nat ⊕ D)) : Bool := M.shp.any fun s => s.nm == g && s.f == f && s.n == n && s.ks == ks && bsEq s.bs bs
def shIn (l : List MShp) (c : Nat) (m : Str) (f n : Nat) (ks : List Str) (bs : List (Nat ⊕ D)) : Bool := l.any fun s => s.c == c && s.nm == m && s.f == f && s.n == n && s.ks == ks && bsEq s.bs bs
def isTT : Ex → Bool
  | .cst (.bl true) => true
  | _ => false
theorem isTT_eq {c : Ex} (h : isTT c = true) : c = .cst (.bl true) := by
  unfold isTT at h
  split at h
  · rfl
  · cases h
def newOk : Ex → Bool
  | .lst _ => true
  | .lc _ _ _ _ => true
  | .bltC .list _ => true
  | _ => false
/-- keys and values of a display, one behind the other -/
def flatE : List (Option Expr) → List Expr → Option (List Expr)
  | [], [] => some []
  | some k :: ks, v :: vs => (flatE ks vs).map fun r => k :: v :: r
  | _, _ => none
mutual
def mG (M : Mc) : Tg → Expr → Bool
  | .v i, .Name x _ => (match M.N[i]? with | some y => y == x | none => false) && M.sto x
  | .t ts, .Tuple es _ _ => mGs M ts es
  | _, _ => false
def mGs (M : Mc) : List Tg → List Expr → Bool
  | [], [] => true
  | t :: ts, e :: es => mG M t e && mGs M ts es
  | _, _ => false
end
def isTup : Expr → Bool
  | .Tuple .. => true
  | _ => false
def Mc.inner (M : Mc) (scope : Scope) : Mc := { M with names := scope.names.map (fun (n, k) => if (k == .free && M.names.lookup n == some .cell) = true then (n, .cell) else (n, k)), fnl := some scope.names }
def scOf (names : List (Str × NameKind)) : Scope := { kind := .function, names := names, isGenerator := false, isCoroutine := false, more := [] }
def ownOf (N : List Str) (is : List Nat) : List (Str × Nat) := is.map fun i => ((N[i]?).getD "", i)
def isFun (s : Scope) : Bool := match s.kind with
  | .function => true
  | _ => false
def oneLoc (s : Scope) (x : Str) : Bool := match s.names with
  | [(a, .local), (z, .local)] => a == (".0" : Str) && z == x
  | _ => false
theorem isFun_of {s : Scope} (h : isFun s = true) : s.kind = .function := by
  unfold isFun at h
  split at h
  · assumption
  · cases h
theorem oneLoc_of {s : Scope} {x : Str} (h : oneLoc s x = true) : s.names = [((".0" : Str), NameKind.local), (x, NameKind.local)] := by
  unfold oneLoc at h
  split at h
  · rename_i a z e
    simp only [Bool.and_eq_true] at h
    rw [e, eq_of_beq h.1, eq_of_beq h.2]
  · cases h
mutual
/-- may stand as a test -/
def tOk : Ex → Bool
  | .ite _ _ _ => false
  | .not a => tOk a
  | .and es => tOks es
  | .or es => tOks es
  | _ => true
def tOks : List Ex → Bool
  | [] => true
  | e :: es => tOk e && tOks es
end
mutual
def mE : Ex → Mc → Expr → Bool
  | .var i, M, e => match e with
    | .Name x _ => (match M.N[i]? with | some y => y == x | none => false) && M.vis x
    | _ => false
  | .cst d, M, e => match e with
    | .Constant c _ _ => mCst d c
    | .Name x _ => M.glb x && (match M.cns.lookup x with | some d' => D.same d' d | none => false)
    | _ => false
  | .tup es, M, e => match e with
    | .Tuple xs _ _ => mEs es M xs
    | _ => false
  | .lst es, M, e => match e with
    | .List xs _ => mEs es M xs
    | _ => false
  | .bin o a b, M, e => match e with
    | .BinOp x op y _ => op == opOf o && mE a M x && mE b M y
    | _ => false
  | .neg a, M, e => match e with
    | .UnaryOp .USub x _ => mE a M x
    | _ => false
  | .not a, M, e => match e with
    | .UnaryOp .Not x _ => mE a M x
    | _ => false
  | .cmp o a b, M, e => match e with
    | .Compare x [op] [y] _ => op == copOf o && mE a M x && mE b M y && nos y
    | _ => false
  | .chn o p a b c, M, e => match e with
    | .Compare x [op, op'] [y, z] _ => op == copOf o && op' == copOf p && mE a M x && mE b M y && mE c M z && nos y && nos z
    | _ => false
  | .and es, M, e => match e with
    | .BoolOp .And xs _ => mEs es M xs && decide (2 ≤ xs.length)
    | _ => false
  | .or es, M, e => match e with
    | .BoolOp .Or xs _ => mEs es M xs && decide (2 ≤ xs.length)
    | _ => false
  | .ite c a b, M, e => match e with
    | .IfExp t x y _ => mE c M t && tOk c && mE a M x && mE b M y
    | _ => false
  | .idx a i, M, e => match e with
    | .Subscript x y _ => mE a M x && mE i M y && nos y
    | _ => false
  | .slc a lo hi, M, e => match e with
    | .Subscript x (.Slice l h none _) _ => mE a M x && (match l with | none => isOut lo | some l => !isOut lo && mE lo M l) && (match h with | none => isOut hi | some h => !isOut hi && mE hi M h)
    | _ => false
  | .isi a k, M, e => match e with
    | .Call (.Name f _) [x, .Name T _] [] _ => f == ("isinstance" : Str) && M.glb f && T == Str.ofString (kdName k) && M.glb T && mE a M x && nos x
    | _ => false
  | .call f es ks bs, M, e => match e with
    | .Call (.Name g _) (x :: xs) kws _ => M.glb g && mEs es M (x :: xs) && mEs ks M (kwVals kws) && (match kwNames kws with | some ns => M.shape g f (xs.length + 1) ns bs | none => false)
    | _ => false
  | .drawn i k m, M, e => match e with
    | .Call (.Name g _) [.Name x _, y, z] [] _ => g == ("_law_drawn" : Str) && M.glb g && (match M.N[i]? with | some n => n == x | none => false) && M.vis x && mE k M y && mE m M z && nos y && nos z
    | _ => false
  | .blt b es, M, e => match e with
    | .Call (.Name f _) (x :: xs) [] _ => f == bltName b && M.glb f && mEs es M (x :: xs)
    | _ => false
  | .rng _, _, _ => false
  | .zip _ _, _, _ => false
  | .enm _, _, _ => false
  | .lc el t it c, M, e => match e with
    | .ListComp elt [⟨tg, iter, ifs, 0⟩] scope _ => L2.blkC M.N (scOf M.names) scope (ownOf M.N (slots t)) && nos iter && mG (M.inner scope) t tg && mE el (M.inner scope) elt &&
        (match ifs with | [] => isTT c | [c'] => mE c (M.inner scope) c' && tOk c | _ => false) &&
        (match it with
          | .rng es => (match iter with | .Call (.Name f _) xs [] _ => f == ("range" : Str) && M.glb f && mEs es M xs && decide (1 ≤ xs.length ∧ xs.length ≤ 3) | _ => false)
          | .zip a b => (match iter with | .Call (.Name f _) [x, y] [] _ => f == ("zip" : Str) && M.glb f && mE a M x && mE b M y && nos x && nos y && isTup tg | _ => false)
          | .enm a => (match iter with | .Call (.Name f _) [x] [] _ => f == ("enumerate" : Str) && M.glb f && mE a M x && nos x && isTup tg | _ => false)
          | it => mE it M iter)
    | _ => false
  | .efld _ _, _, _ => false
  | .eis _ _, _, _ => false
  | .rev a, M, e => match e with
    | .Subscript x (.Slice none none (some (.UnaryOp .USub (.Constant (.int 1) _ _) _)) _) _ => mE a M x
    | _ => false
  | .lrng es, M, e => match es with
    | [a] => (match e with
      | .Call (.Name f _) [.Call (.Name g _) [x] [] _] [] _ => f == ("list" : Str) && g == ("range" : Str) && M.glb f && M.glb g && mE a M x && nos x
      | _ => false)
    | _ => false
  | .mth m a b, M, e => match e with
    | .Call (.Attribute x f ap) [y] [] cp => f == mthName m && abOk x && (ap.endLine == cp.line) && mE a M x && mE b M y && nos y
    | _ => false
  | .sset a, M, e => match e with
    | .Call (.Name f _) [.Call (.Name g _) [x] [] _] [] _ => f == ("sorted" : Str) && g == ("set" : Str) && M.glb f && M.glb g && mE a M x && nos x
    | _ => false
  | .lset a, M, e => match e with
    | .Call (.Name f _) [.SetComp (.Name x _) [⟨.Name y _, it, [], 0⟩] scope _] [] _ => f == ("len" : Str) && M.glb f && x == y && !(x == ("__debug__" : Str)) && isFun scope && oneLoc scope x && mE a M it && nos it
    | _ => false
  | .lc2 el t1 it1 t2 it2 c, M, e => match e with
    | .ListComp elt [⟨tg, iter, [], 0⟩, ⟨tg1, iter1, ifs, 0⟩] scope _ => L2.blkC M.N (scOf M.names) scope (ownOf M.N (slots t1 ++ slots t2)) && nos iter && nos iter1 && mG (M.inner scope) t1 tg && mG (M.inner scope) t2 tg1 && mE el (M.inner scope) elt && mE it2 (M.inner scope) iter1 &&
        (match ifs with | [] => isTT c | [c'] => mE c (M.inner scope) c' && tOk c | _ => false) &&
        (match it1 with
          | .enm a => (match iter with | .Call (.Name f _) [x] [] _ => f == ("enumerate" : Str) && M.glb f && mE a M x && nos x && isTup tg | _ => false)
          | it => mE it M iter)
    | _ => false
  | .fld i a, M, e => match e with
    | .Attribute x f _ => (match M.fd[i]? with | some y => y == f | none => false) && abOk x && mE a M x
    | _ => false
  | .meth c f a es ks bs, M, e => match e with
    | .Call (.Attribute x m ap) xs kws cp => abOk x && (ap.endLine == cp.line) && mE a M x && mEs es M xs && mEs ks M (kwVals kws) && decide (xs.length + kws.length < 29) && (match kwNames kws with | some ns => shIn M.msh c m f xs.length ns bs | none => false)
    | _ => false
  | .mk c f es ks bs, M, e => match e with
    | .Call (.Name g _) xs kws _ => M.glb g && mEs es M xs && mEs ks M (kwVals kws) && (match kwNames kws with | some ns => shIn M.ksh c g f xs.length ns bs | none => false)
    | _ => false
  | .new a, M, e => newOk a && mE a M e
  | .cpop z a, M, e => match e with
    | .Call (.Attribute x m ap) xs [] cp => m == ("pop" : Str) && abOk x && (ap.endLine == cp.line) && mE a M x && (match z, xs with | false, [] => true | true, [.Constant (.int 0) _ _] => true | _, _ => false)
    | _ => false
  | .cmpC o a b, M, e => match e with
    | .Compare x [op] [y] _ => op == copOf o && mE a M x && mE b M y && nos y
    | _ => false
  | .binC o a b, M, e => match e with
    | .BinOp x op y _ => op == opOf o && mE a M x && mE b M y
    | _ => false
  | .idxC a i, M, e => match e with
    | .Subscript x y _ => mE a M x && mE i M y && nos y
    | _ => false
  | .slcC a lo hi, M, e => match e with
    | .Subscript x (.Slice l h none _) _ => mE a M x && (match l with | none => isOut lo | some l => !isOut lo && mE lo M l) && (match h with | none => isOut hi | some h => !isOut hi && mE hi M h)
    | _ => false
  | .bltC b a, M, e => match e with
    | .Call (.Name f _) [x] [] _ => f == bltName b && M.glb f && mE a M x && nos x
    | _ => false
  | .ilen c f a, M, e => match e with
    | .Call (.Name g _) [x] [] _ => g == ("len" : Str) && M.glb g && mE a M x && nos x && shIn M.msh c "__len__" f 0 [] [.inl 0]
    | _ => false
  | .dget a k, M, e => match e with
    | .Subscript x y _ => mE a M x && mE k M y && nos y
    | _ => false
  | .din neg k a, M, e => match e with
    | .Compare x [op] [y] _ => op == (if neg = true then .NotIn else .In) && mE k M x && mE a M y && nos y
    | _ => false
  | .dnew t, _, e => match e with
    | .Dict [] [] _ => !t
    | _ => false
  | .ddsp es, M, e => match e with
    | .Dict ks vs _ => (match flatE ks vs with | some xs => mEs es M xs | none => false) && decide (1 ≤ ks.length ∧ ks.length ≤ 15)
    | _ => false
  | .dcp a, M, e => match e with
    | .Call (.Name f _) [x] [] _ => f == ("dict" : Str) && M.glb f && mE a M x && nos x
    | _ => false
def mEs : List Ex → Mc → List Expr → Bool
  | [], _, es => es.isEmpty
  | x :: xs, M, es => match es with
    | e :: es => mE x M e && nos e && mEs xs M es
    | [] => false
end

/-- what is known of a context -/
def bnames : List Str := ["isinstance", "int", "bool", "str", "tuple", "list", "len", "abs", "max", "min", "sum", "all", "sorted", "range", "zip", "enumerate", "set", "dict"]
structure CxOk (L : Lt) (M : Mc) (X : L2.Cx) : Prop where
  hK : X.K = L.G.K
  hN : X.N = M.N
  nd : X.N.Nodup
  nm : X.env.scope.names = M.names
  sk : X.env.scope.kind = .function
  calm : X.calm = true
  un : X.A.units + 200 < cLine
  bn : ∀ x ∈ bnames, X.mg x = none
  cn : ∀ x d, M.cns.lookup x = some d → ∃ u v, X.mg x = some u ∧ L2.RelV v u ∧ ∀ H B r, Rep L.G H B r d v
  sh : ∀ s ∈ M.shp, CallOk L X s
  dw : DrawOk L X
  fdh : L.G.fd = M.fd
  ck : ClsOk L X
  mh : ∀ s ∈ M.msh, MethOk L X s
  kh : ∀ s ∈ M.ksh, MakeOk L X s
  fn : ∀ x, (match M.fnl with | none => true | some l => (match l.lookup x with | some .cell => true | _ => false)) = true → X.fn x = true

section
variable {L : Lt} {M : Mc} {X : L2.Cx} {W : WX} {xa : XA}
theorem star_of {e : Expr} (h : nos e = true) (es : List Expr) (env : PySem.Env) : starEach (e :: es) env = (false, eval e env) :: starEach es env := by
  cases e <;> first | rfl | (simp [nos] at h)
theorem ix_of {e : Expr} (h : nos e = true) : L2.PlainIx e := fun o i => by
  cases e <;> first | rfl | (simp [nos] at h)
theorem mark_of {e : Expr} (h : nos e = true) (op : CmpOp) : behindInMarks op e = false := by
  cases e <;> first | rfl | (simp [nos] at h)
theorem fold_of {e : Expr} (h : nos e = true) (env : PySem.Env) (x : Value) : foldedSetIterable e env x = pure x := by
  cases e <;> first | rfl | (simp [nos] at h)
theorem true_of {e : Expr} {env : PySem.Env} (h : plainT e = true) (whole : Sem Value) : isTrue e env whole = (do let v ← whole; standAt e.pos; holding [v] (truthy v)) := by
  cases e <;> first | rfl | (simp [plainT] at h; done) | skip
  rename_i op x pos
  cases op <;> first | rfl | (simp [plainT] at h)
theorem CxOk.vis (C : CxOk L M X) {x : Str} (h : M.vis x = true) : L2.Vis X.env.scope x ∧ (x == ("__debug__" : Str)) = false ∧ (x == ("__classdict__" : Str)) = false := by
  unfold Mc.vis at h
  simp only [Bool.and_eq_true, Bool.not_eq_true'] at h
  refine ⟨?_, h.1.2, h.2⟩
  unfold L2.Vis
  rw [C.nm]
  cases e : M.names.lookup x with
  | none => rw [e] at h; exact absurd h.1.1 (by decide)
  | some k => cases k <;> first | exact .inl rfl | exact .inr (.inl rfl) | exact .inr (.inr rfl) | (rw [e] at h; exact absurd h.1.1 (by decide))
theorem CxOk.glb (C : CxOk L M X) {x : Str} (h : M.glb x = true) : L2.Gl X x ∧ (x == ("__debug__" : Str)) = false := by
  unfold Mc.glb at h
  simp only [Bool.and_eq_true, Bool.not_eq_true'] at h
  refine ⟨?_, h.2⟩
  show X.env.scope.names.lookup x = _
  rw [C.nm]
  cases e : M.names.lookup x with
  | none => rw [e] at h; exact absurd h.1 (by decide)
  | some k => cases k <;> first | rfl | (rw [e] at h; exact absurd h.1 (by decide))
theorem CxOk.sto (C : CxOk L M X) {x : Str} (h : M.sto x = true) : L2.Loc X.env.scope x ∧ (X.fn x = true ∨ X.env.scope.names.lookup x = some .local) := by
  unfold Mc.sto at h
  unfold L2.Loc
  rw [C.nm]
  cases e : M.names.lookup x with
  | none => rw [e] at h; exact absurd h (by simp)
  | some k =>
    cases k with
    | «local» => exact ⟨.inl rfl, .inr rfl⟩
    | cell =>
      rw [e] at h
      exact ⟨.inr rfl, .inl (C.fn x h)⟩
    | _ => rw [e] at h; exact absurd h (by simp)
theorem at_of {N : List Str} {i : Nat} {x : Str} (h : (match N[i]? with | some y => y == x | none => false) = true) : N[i]? = some x := by
  cases e : N[i]? with
  | none => rw [e] at h; cases h
  | some y =>
    rw [e] at h
    rw [eq_of_beq h]
theorem bmg (C : CxOk L M X) {x : Str} (h : x ∈ bnames) : X.mg x = none := C.bn x h
mutual
theorem same_eq : ∀ {d e : D}, D.same d e = true → d = e
  | .non, e, h => by cases e <;> simp [D.same] at h; rfl
  | .bl _, e, h => by cases e <;> simp [D.same] at h; rw [h]
  | .int _, e, h => by cases e <;> simp [D.same] at h; rw [h]
  | .str _, e, h => by cases e <;> simp [D.same] at h; rw [h]
  | .tup xs, e, h => by
    cases e <;> simp [D.same] at h
    rw [sames_eq h]
  | .lst _, e, h => by simp [D.same] at h
  | .scr, e, h => by simp [D.same] at h
  | .ref _, e, h => by simp [D.same] at h
theorem sames_eq : ∀ {d e : List D}, D.sames d e = true → d = e
  | [], [], _ => rfl
  | [], _ :: _, h => by simp [D.sames] at h
  | _ :: _, [], h => by simp [D.sames] at h
  | x :: xs, y :: ys, h => by
    simp only [D.sames, Bool.and_eq_true] at h
    rw [same_eq h.1, sames_eq h.2]
end
theorem bsEq_eq : ∀ {a b : List (Nat ⊕ D)}, bsEq a b = true → a = b
  | [], [], _ => rfl
  | [], _ :: _, h => by simp [bsEq] at h
  | .inl _ :: _, [], h => by simp [bsEq] at h
  | .inr _ :: _, [], h => by simp [bsEq] at h
  | .inl _ :: _, .inr _ :: _, h => by simp [bsEq] at h
  | .inr _ :: _, .inl _ :: _, h => by simp [bsEq] at h
  | .inl i :: r, .inl j :: s, h => by
    simp only [bsEq, Bool.and_eq_true, beq_iff_eq] at h
    rw [h.1, bsEq_eq h.2]
  | .inr i :: r, .inr j :: s, h => by
    simp only [bsEq, Bool.and_eq_true] at h
    rw [same_eq h.1, bsEq_eq h.2]
theorem shape_of (C : CxOk L M X) {g : Str} {f n : Nat} {ks : List Str} {bs : List (Nat ⊕ D)} (h : M.shape g f n ks bs = true) : CallOk L X ⟨g, f, n, ks, bs⟩ := by
  unfold Mc.shape at h
  obtain ⟨s, hs, h⟩ := List.any_eq_true.mp h
  simp only [Bool.and_eq_true, beq_iff_eq] at h
  obtain ⟨⟨⟨⟨h1, h2⟩, h3⟩, h4⟩, h5⟩ := h
  have := C.sh s hs
  obtain ⟨nm, f', n', ks', bs'⟩ := s
  simp only at h1 h2 h3 h4 h5
  rw [bsEq_eq h5] at this
  subst h1 h2 h3 h4
  exact this
theorem shIn_of {l : List MShp} {c : Nat} {m : Str} {f n : Nat} {ks : List Str} {bs : List (Nat ⊕ D)} (h : shIn l c m f n ks bs = true) : (⟨c, m, f, n, ks, bs⟩ : MShp) ∈ l := by
  unfold shIn at h
  obtain ⟨s, hs, h⟩ := List.any_eq_true.mp h
  simp only [Bool.and_eq_true, beq_iff_eq] at h
  obtain ⟨⟨⟨⟨⟨h1, h2⟩, h3⟩, h4⟩, h5⟩, h6⟩ := h
  obtain ⟨c', m', f', n', ks', bs'⟩ := s
  simp only at h1 h2 h3 h4 h5 h6
  rw [← bsEq_eq h6]
  subst h1 h2 h3 h4 h5
  exact hs
/-- the block of a comprehension -/
theorem CxOk.blk (C : CxOk L M X) {scope : Scope} (hk : scope.kind = .function) (s : Shared) (H : Hp) (Ca : Addr) (cl : List (Str × Addr)) (fp : List Addr) : CxOk L (M.inner scope) (X.blk s H scope (compEnvC scope cl Ca X.env) fp) where
  hK := C.hK
  hN := C.hN
  nd := C.nd
  nm := by
    show (L2.relS scope X.env.scope).names = _
    unfold L2.relS Mc.inner
    simp only [C.sk, C.nm, beq_self_eq_true, Bool.and_true]
  sk := hk
  calm := C.calm
  un := C.un
  bn := C.bn
  cn := C.cn
  sh := C.sh
  dw := C.dw
  fdh := C.fdh
  ck := C.ck
  mh := C.mh
  kh := C.kh
  fn := fun x h => by
    show (scope.names.lookup x == some .cell) = true
    simp only [Mc.inner] at h
    cases e : scope.names.lookup x with
    | none => rw [e] at h; exact absurd h (by decide)
    | some k => cases k <;> first | rfl | (rw [e] at h; exact absurd h (by decide))
end
end Mi

set_option maxRecDepth 100000
set_option maxHeartbeats 4000000
namespace Mi
open PySem PySem.Spec PyProof.Rows
theorem mE_var (i : Nat) (M : Mc) (e : Expr) : mE (.var i) M e = (match e with
    | .Name x _ => (match M.N[i]? with | some y => y == x | none => false) && M.vis x
    | _ => false) := rfl
theorem mE_cst (d : D) (M : Mc) (e : Expr) : mE (.cst d) M e = (match e with
    | .Constant c _ _ => mCst d c
    | .Name x _ => M.glb x && (match M.cns.lookup x with | some d' => D.same d' d | none => false)
    | _ => false) := rfl
theorem mE_tup (es : List Ex) (M : Mc) (e : Expr) : mE (.tup es) M e = (match e with
    | .Tuple xs _ _ => mEs es M xs
    | _ => false) := rfl
theorem mE_lst (es : List Ex) (M : Mc) (e : Expr) : mE (.lst es) M e = (match e with
    | .List xs _ => mEs es M xs
    | _ => false) := rfl
theorem mE_bin (o : Bop) (a : Ex) (b : Ex) (M : Mc) (e : Expr) : mE (.bin o a b) M e = (match e with
    | .BinOp x op y _ => op == opOf o && mE a M x && mE b M y
    | _ => false) := rfl
theorem mE_neg (a : Ex) (M : Mc) (e : Expr) : mE (.neg a) M e = (match e with
    | .UnaryOp .USub x _ => mE a M x
    | _ => false) := rfl
theorem mE_not (a : Ex) (M : Mc) (e : Expr) : mE (.not a) M e = (match e with
    | .UnaryOp .Not x _ => mE a M x
    | _ => false) := rfl
theorem mE_cmp (o : Cop) (a : Ex) (b : Ex) (M : Mc) (e : Expr) : mE (.cmp o a b) M e = (match e with
    | .Compare x [op] [y] _ => op == copOf o && mE a M x && mE b M y && nos y
    | _ => false) := rfl
theorem mE_chn (o : Cop) (p : Cop) (a : Ex) (b : Ex) (c : Ex) (M : Mc) (e : Expr) : mE (.chn o p a b c) M e = (match e with
    | .Compare x [op, op'] [y, z] _ => op == copOf o && op' == copOf p && mE a M x && mE b M y && mE c M z && nos y && nos z
    | _ => false) := rfl
theorem mE_and (es : List Ex) (M : Mc) (e : Expr) : mE (.and es) M e = (match e with
    | .BoolOp .And xs _ => mEs es M xs && decide (2 ≤ xs.length)
    | _ => false) := rfl
theorem mE_or (es : List Ex) (M : Mc) (e : Expr) : mE (.or es) M e = (match e with
    | .BoolOp .Or xs _ => mEs es M xs && decide (2 ≤ xs.length)
    | _ => false) := rfl
theorem mE_ite (c : Ex) (a : Ex) (b : Ex) (M : Mc) (e : Expr) : mE (.ite c a b) M e = (match e with
    | .IfExp t x y _ => mE c M t && tOk c && mE a M x && mE b M y
    | _ => false) := rfl
theorem mE_idx (a : Ex) (i : Ex) (M : Mc) (e : Expr) : mE (.idx a i) M e = (match e with
    | .Subscript x y _ => mE a M x && mE i M y && nos y
    | _ => false) := rfl
theorem mE_slc (a : Ex) (lo : Ex) (hi : Ex) (M : Mc) (e : Expr) : mE (.slc a lo hi) M e = (match e with
    | .Subscript x (.Slice l h none _) _ => mE a M x && (match l with | none => isOut lo | some l => !isOut lo && mE lo M l) && (match h with | none => isOut hi | some h => !isOut hi && mE hi M h)
    | _ => false) := rfl
theorem mE_isi (a : Ex) (k : Kd) (M : Mc) (e : Expr) : mE (.isi a k) M e = (match e with
    | .Call (.Name f _) [x, .Name T _] [] _ => f == ("isinstance" : Str) && M.glb f && T == Str.ofString (kdName k) && M.glb T && mE a M x && nos x
    | _ => false) := rfl
theorem mE_call (f : Nat) (es : List Ex) (ks : List Ex) (bs : List (Nat ⊕ D)) (M : Mc) (e : Expr) : mE (.call f es ks bs) M e = (match e with
    | .Call (.Name g _) (x :: xs) kws _ => M.glb g && mEs es M (x :: xs) && mEs ks M (kwVals kws) && (match kwNames kws with | some ns => M.shape g f (xs.length + 1) ns bs | none => false)
    | _ => false) := rfl
theorem mE_drawn (i : Nat) (k : Ex) (m : Ex) (M : Mc) (e : Expr) : mE (.drawn i k m) M e = (match e with
    | .Call (.Name g _) [.Name x _, y, z] [] _ => g == ("_law_drawn" : Str) && M.glb g && (match M.N[i]? with | some n => n == x | none => false) && M.vis x && mE k M y && mE m M z && nos y && nos z
    | _ => false) := rfl
theorem mE_blt (b : Blt) (es : List Ex) (M : Mc) (e : Expr) : mE (.blt b es) M e = (match e with
    | .Call (.Name f _) (x :: xs) [] _ => f == bltName b && M.glb f && mEs es M (x :: xs)
    | _ => false) := rfl
theorem mE_rng (u0 : List Ex) (M : Mc) (e : Expr) : mE (.rng u0) M e = (false) := rfl
theorem mE_zip (u0 : Ex) (u1 : Ex) (M : Mc) (e : Expr) : mE (.zip u0 u1) M e = (false) := rfl
theorem mE_enm (u0 : Ex) (M : Mc) (e : Expr) : mE (.enm u0) M e = (false) := rfl
theorem mE_lc (el : Ex) (t : Tg) (it : Ex) (c : Ex) (M : Mc) (e : Expr) : mE (.lc el t it c) M e = (match e with
    | .ListComp elt [⟨tg, iter, ifs, 0⟩] scope _ => L2.blkC M.N (scOf M.names) scope (ownOf M.N (slots t)) && nos iter && mG (M.inner scope) t tg && mE el (M.inner scope) elt &&
        (match ifs with | [] => isTT c | [c'] => mE c (M.inner scope) c' && tOk c | _ => false) &&
        (match it with
          | .rng es => (match iter with | .Call (.Name f _) xs [] _ => f == ("range" : Str) && M.glb f && mEs es M xs && decide (1 ≤ xs.length ∧ xs.length ≤ 3) | _ => false)
          | .zip a b => (match iter with | .Call (.Name f _) [x, y] [] _ => f == ("zip" : Str) && M.glb f && mE a M x && mE b M y && nos x && nos y && isTup tg | _ => false)
          | .enm a => (match iter with | .Call (.Name f _) [x] [] _ => f == ("enumerate" : Str) && M.glb f && mE a M x && nos x && isTup tg | _ => false)
          | it => mE it M iter)
    | _ => false) := by
  cases e <;> first | rfl | skip
  rename_i elt gens scope pos
  match gens with
  | [] => rfl
  | ⟨_, _, _, .ofNat 0⟩ :: _ :: _ => rfl
  | ⟨_, _, _, .ofNat (_ + 1)⟩ :: _ :: _ => rfl
  | ⟨_, _, _, .negSucc _⟩ :: _ :: _ => rfl
  | [⟨_, _, _, .ofNat (_ + 1)⟩] => rfl
  | [⟨_, _, _, .negSucc _⟩] => rfl
  | [⟨tg, iter, ifs, .ofNat 0⟩] => cases it <;> rfl
theorem mE_efld (u0 : Nat) (u1 : Nat) (M : Mc) (e : Expr) : mE (.efld u0 u1) M e = (false) := rfl
theorem mE_eis (u0 : Nat) (u1 : Nat) (M : Mc) (e : Expr) : mE (.eis u0 u1) M e = (false) := rfl
theorem mE_rev (a : Ex) (M : Mc) (e : Expr) : mE (.rev a) M e = (match e with
    | .Subscript x (.Slice none none (some (.UnaryOp .USub (.Constant (.int 1) _ _) _)) _) _ => mE a M x
    | _ => false) := rfl
theorem mE_lrng (es : List Ex) (M : Mc) (e : Expr) : mE (.lrng es) M e = (match es with
    | [a] => (match e with
      | .Call (.Name f _) [.Call (.Name g _) [x] [] _] [] _ => f == ("list" : Str) && g == ("range" : Str) && M.glb f && M.glb g && mE a M x && nos x
      | _ => false)
    | _ => false) := by
  match es with
  | [] => rfl
  | [_] => rfl
  | _ :: _ :: _ => rfl
theorem mE_mth (m : Mth) (a : Ex) (b : Ex) (M : Mc) (e : Expr) : mE (.mth m a b) M e = (match e with
    | .Call (.Attribute x f ap) [y] [] cp => f == mthName m && abOk x && (ap.endLine == cp.line) && mE a M x && mE b M y && nos y
    | _ => false) := rfl
theorem mE_sset (a : Ex) (M : Mc) (e : Expr) : mE (.sset a) M e = (match e with
    | .Call (.Name f _) [.Call (.Name g _) [x] [] _] [] _ => f == ("sorted" : Str) && g == ("set" : Str) && M.glb f && M.glb g && mE a M x && nos x
    | _ => false) := rfl
theorem mE_lset (a : Ex) (M : Mc) (e : Expr) : mE (.lset a) M e = (match e with
    | .Call (.Name f _) [.SetComp (.Name x _) [⟨.Name y _, it, [], 0⟩] scope _] [] _ => f == ("len" : Str) && M.glb f && x == y && !(x == ("__debug__" : Str)) && isFun scope && oneLoc scope x && mE a M it && nos it
    | _ => false) := rfl
theorem mE_lc2 (el : Ex) (t1 : Tg) (it1 : Ex) (t2 : Tg) (it2 : Ex) (c : Ex) (M : Mc) (e : Expr) : mE (.lc2 el t1 it1 t2 it2 c) M e = (match e with
    | .ListComp elt [⟨tg, iter, [], 0⟩, ⟨tg1, iter1, ifs, 0⟩] scope _ => L2.blkC M.N (scOf M.names) scope (ownOf M.N (slots t1 ++ slots t2)) && nos iter && nos iter1 && mG (M.inner scope) t1 tg && mG (M.inner scope) t2 tg1 && mE el (M.inner scope) elt && mE it2 (M.inner scope) iter1 &&
        (match ifs with | [] => isTT c | [c'] => mE c (M.inner scope) c' && tOk c | _ => false) &&
        (match it1 with
          | .enm a => (match iter with | .Call (.Name f _) [x] [] _ => f == ("enumerate" : Str) && M.glb f && mE a M x && nos x && isTup tg | _ => false)
          | it => mE it M iter)
    | _ => false) := by
  cases e <;> first | rfl | skip
  rename_i elt gens scope pos
  match gens with
  | [] => rfl
  | [⟨_, _, [], .ofNat 0⟩] => rfl
  | [⟨_, _, [], .ofNat (_ + 1)⟩] => rfl
  | ⟨_, _, [], .ofNat (_ + 1)⟩ :: _ :: _ => rfl
  | [⟨_, _, [], .negSucc _⟩] => rfl
  | ⟨_, _, [], .negSucc _⟩ :: _ :: _ => rfl
  | [⟨_, _, _ :: _, .ofNat 0⟩] => rfl
  | ⟨_, _, _ :: _, .ofNat 0⟩ :: _ :: _ => rfl
  | [⟨_, _, _ :: _, .ofNat (_ + 1)⟩] => rfl
  | ⟨_, _, _ :: _, .ofNat (_ + 1)⟩ :: _ :: _ => rfl
  | [⟨_, _, _ :: _, .negSucc _⟩] => rfl
  | ⟨_, _, _ :: _, .negSucc _⟩ :: _ :: _ => rfl
  | ⟨_, _, [], .ofNat 0⟩ :: ⟨_, _, _, .ofNat 0⟩ :: _ :: _ => rfl
  | ⟨_, _, [], .ofNat 0⟩ :: ⟨_, _, _, .ofNat (_ + 1)⟩ :: _ :: _ => rfl
  | ⟨_, _, [], .ofNat 0⟩ :: ⟨_, _, _, .negSucc _⟩ :: _ :: _ => rfl
  | [⟨_, _, [], .ofNat 0⟩, ⟨_, _, _, .ofNat (_ + 1)⟩] => rfl
  | [⟨_, _, [], .ofNat 0⟩, ⟨_, _, _, .negSucc _⟩] => rfl
  | [⟨tg, iter, [], .ofNat 0⟩, ⟨tg1, iter1, ifs, .ofNat 0⟩] => cases it1 <;> rfl
theorem mE_fld (i : Nat) (a : Ex) (M : Mc) (e : Expr) : mE (.fld i a) M e = (match e with
    | .Attribute x f _ => (match M.fd[i]? with | some y => y == f | none => false) && abOk x && mE a M x
    | _ => false) := rfl
theorem mE_meth (c : Nat) (f : Nat) (a : Ex) (es : List Ex) (ks : List Ex) (bs : List (Nat ⊕ D)) (M : Mc) (e : Expr) : mE (.meth c f a es ks bs) M e = (match e with
    | .Call (.Attribute x m ap) xs kws cp => abOk x && (ap.endLine == cp.line) && mE a M x && mEs es M xs && mEs ks M (kwVals kws) && decide (xs.length + kws.length < 29) && (match kwNames kws with | some ns => shIn M.msh c m f xs.length ns bs | none => false)
    | _ => false) := rfl
theorem mE_mk (c : Nat) (f : Nat) (es : List Ex) (ks : List Ex) (bs : List (Nat ⊕ D)) (M : Mc) (e : Expr) : mE (.mk c f es ks bs) M e = (match e with
    | .Call (.Name g _) xs kws _ => M.glb g && mEs es M xs && mEs ks M (kwVals kws) && (match kwNames kws with | some ns => shIn M.ksh c g f xs.length ns bs | none => false)
    | _ => false) := rfl
theorem mE_new (a : Ex) (M : Mc) (e : Expr) : mE (.new a) M e = (newOk a && mE a M e) := rfl
theorem mE_cpop (z : Bool) (a : Ex) (M : Mc) (e : Expr) : mE (.cpop z a) M e = (match e with
    | .Call (.Attribute x m ap) xs [] cp => m == ("pop" : Str) && abOk x && (ap.endLine == cp.line) && mE a M x && (match z, xs with | false, [] => true | true, [.Constant (.int 0) _ _] => true | _, _ => false)
    | _ => false) := rfl
theorem mE_cmpC (o : Cop) (a : Ex) (b : Ex) (M : Mc) (e : Expr) : mE (.cmpC o a b) M e = (match e with
    | .Compare x [op] [y] _ => op == copOf o && mE a M x && mE b M y && nos y
    | _ => false) := rfl
theorem mE_binC (o : Bop) (a : Ex) (b : Ex) (M : Mc) (e : Expr) : mE (.binC o a b) M e = (match e with
    | .BinOp x op y _ => op == opOf o && mE a M x && mE b M y
    | _ => false) := rfl
theorem mE_idxC (a : Ex) (i : Ex) (M : Mc) (e : Expr) : mE (.idxC a i) M e = (match e with
    | .Subscript x y _ => mE a M x && mE i M y && nos y
    | _ => false) := rfl
theorem mE_slcC (a : Ex) (lo : Ex) (hi : Ex) (M : Mc) (e : Expr) : mE (.slcC a lo hi) M e = (match e with
    | .Subscript x (.Slice l h none _) _ => mE a M x && (match l with | none => isOut lo | some l => !isOut lo && mE lo M l) && (match h with | none => isOut hi | some h => !isOut hi && mE hi M h)
    | _ => false) := rfl
theorem mE_bltC (b : Blt) (a : Ex) (M : Mc) (e : Expr) : mE (.bltC b a) M e = (match e with
    | .Call (.Name f _) [x] [] _ => f == bltName b && M.glb f && mE a M x && nos x
    | _ => false) := rfl
theorem mE_ilen (c : Nat) (f : Nat) (a : Ex) (M : Mc) (e : Expr) : mE (.ilen c f a) M e = (match e with
    | .Call (.Name g _) [x] [] _ => g == ("len" : Str) && M.glb g && mE a M x && nos x && shIn M.msh c "__len__" f 0 [] [.inl 0]
    | _ => false) := rfl
theorem mE_dget (a : Ex) (k : Ex) (M : Mc) (e : Expr) : mE (.dget a k) M e = (match e with
    | .Subscript x y _ => mE a M x && mE k M y && nos y
    | _ => false) := rfl
theorem mE_din (neg : Bool) (k : Ex) (a : Ex) (M : Mc) (e : Expr) : mE (.din neg k a) M e = (match e with
    | .Compare x [op] [y] _ => op == (if neg = true then .NotIn else .In) && mE k M x && mE a M y && nos y
    | _ => false) := rfl
theorem mE_dnew (t : Bool) (M : Mc) (e : Expr) : mE (.dnew t) M e = (match e with
    | .Dict [] [] _ => !t
    | _ => false) := rfl
theorem mE_ddsp (es : List Ex) (M : Mc) (e : Expr) : mE (.ddsp es) M e = (match e with
    | .Dict ks vs _ => (match flatE ks vs with | some xs => mEs es M xs | none => false) && decide (1 ≤ ks.length ∧ ks.length ≤ 15)
    | _ => false) := rfl
theorem mE_dcp (a : Ex) (M : Mc) (e : Expr) : mE (.dcp a) M e = (match e with
    | .Call (.Name f _) [x] [] _ => f == ("dict" : Str) && M.glb f && mE a M x && nos x
    | _ => false) := rfl
theorem mEs_nil (M : Mc) (es : List Expr) : mEs [] M es = es.isEmpty := rfl
theorem mEs_cons (x : Ex) (xs : List Ex) (M : Mc) (es : List Expr) : mEs (x :: xs) M es = (match es with
    | e :: es => mE x M e && nos e && mEs xs M es
    | [] => false) := rfl
end Mi

set_option maxRecDepth 100000
set_option maxHeartbeats 4000000
namespace Mi
open PySem PySem.Spec PyProof.Rows
open L2 (V Hp HO upd upd_same upd_ne Same SqL SqT Rd VK XK WX PE PT PA OpR CallR IxR SlR TE TT TA tOp Dp DpAll PI TI PG PGs TG TGs)

section
variable {L : Lt} {M : Mc} {X : L2.Cx} {W : WX} {xa : XA}
theorem sndR_help (C : CxOk L M X) {x : Ex} {e : Expr} (h : mE x M e = true) (k : PE X e (rdE L xa W x)) : PE X e (rdR L xa W x) := by
  cases x with
  | var i =>
    cases e <;> simp [mE_var] at h
    rename_i n pos
    obtain ⟨h1, h2⟩ := h
    have hv := C.vis h2
    refine sndR_var ?_ hv.1 hv.2.1 hv.2.2
    rw [C.hN]
    exact at_of h1
  | _ => exact sndR_of (fun i z => nomatch z) k
theorem back_any {pos : Pos} : ∀ {es : List Expr} {env : PySem.Env}, (es.all nos) = true → (backTo pos (starEach es env)).any (·.1) = false
  | [], _, _ => rfl
  | e :: es, env, h => by
    simp only [List.all_cons, Bool.and_eq_true] at h
    rw [star_of h.1]
    show (false || (backTo pos (starEach es env)).any (·.1)) = false
    rw [back_any h.2]
    rfl
theorem mEs_nos : ∀ {xs : List Ex} {M : Mc} {es : List Expr}, mEs xs M es = true → es.all nos = true ∧ es.length = xs.length
  | [], _, [], _ => ⟨rfl, rfl⟩
  | [], _, _ :: _, h => by simp [mEs_nil, mEs_cons] at h
  | _ :: _, _, [], h => by simp [mEs_nil, mEs_cons] at h
  | x :: xs, M, e :: es, h => by
    simp only [mEs_nil, mEs_cons, Bool.and_eq_true] at h
    obtain ⟨a, b⟩ := mEs_nos h.2
    simp [h.1.2, a, b]
theorem kw_all {pos : Pos} {env : PySem.Env} : ∀ {kws : List Keyword} {ns : List Str}, kwNames kws = some ns → (backToKw pos (keywordEach kws env)).all (·.1.isSome) = true ∧ (backToKw pos (keywordEach kws env)).filterMap (·.1) = ns ∧ (backToKw pos (keywordEach kws env)).any (·.1.isNone) = false ∧ (kwVals kws).length = ns.length
  | [], ns, h => by
    simp only [kwNames] at h
    cases h
    exact ⟨rfl, rfl, rfl, rfl⟩
  | ⟨none, e, p⟩ :: r, ns, h => by simp [kwNames] at h
  | ⟨some n, e, p⟩ :: r, ns, h => by
    simp only [kwNames] at h
    obtain ⟨ms, h1, rfl⟩ := Option.map_eq_some_iff.mp h
    obtain ⟨a, b, c, d⟩ := kw_all (pos := pos) (env := env) h1
    refine ⟨?_, ?_, ?_, ?_⟩
    · show (true && (backToKw pos (keywordEach r env)).all (·.1.isSome)) = true
      rw [a]; rfl
    · show n :: (backToKw pos (keywordEach r env)).filterMap (·.1) = n :: ms
      rw [b]
    · show (false || (backToKw pos (keywordEach r env)).any (·.1.isNone)) = false
      rw [c]; rfl
    · simp [kwVals, d]
theorem mCst_ok {d : D} {c : Const} {j : Nat} {pos : Pos} (h : mCst d c = true) : ∃ v, PE X (.Constant c j pos) (L2.tC v) ∧ ∀ H B r, Rep L.G H B r d v := by
  cases d <;> cases c <;> simp [mCst] at h
  · exact ⟨_, L2.pe_non, fun H B r => by rw [Rep]⟩
  · subst h; exact ⟨_, L2.pe_bl, fun H B r => by rw [Rep]⟩
  · subst h; exact ⟨_, L2.pe_int, fun H B r => by rw [Rep]⟩
  · rename_i s z
    obtain ⟨h1, h2⟩ := h
    have ez : z = toStr s := by
      subst h1
      obtain ⟨z⟩ := z
      simp [toStr]
    subst ez
    exact ⟨_, L2.pe_str, fun H B r => by rw [Rep]; exact ⟨rfl, fun c hc => h2 c hc⟩⟩
theorem CxOk.blkOk (C : CxOk L M X) {scope : Scope} {own : List (Str × Nat)} (h : L2.blkC M.N (scOf M.names) scope own = true) : L2.BlkOk X.N X.env.scope scope own := by
  have k := L2.blkOk_by h
  refine ⟨k.kind, k.uniq, fun p hp => by rw [C.hN]; exact k.ix p hp, fun y hy e => ?_, fun y hy e => by rw [C.hN]; exact k.own y hy e⟩
  rw [C.nm]
  exact k.free y hy e
theorem ownOf_snd (N : List Str) : ∀ is : List Nat, (ownOf N is).map (·.2) = is
  | [] => rfl
  | i :: is => by
    show i :: (ownOf N is).map (·.2) = _
    rw [ownOf_snd N is]
theorem assignEach_cons {e : Expr} {es : List Expr} {env : PySem.Env} (h : nos e = true) : assignEach (e :: es) env = (false, assign e env) :: assignEach es env := by
  cases e <;> first | rfl | (simp [nos] at h)
mutual
theorem sndG : ∀ (t : Tg) {M : Mc} {X : L2.Cx} {e : Expr}, CxOk L M X → mG M t e = true → PG X e (rdG L xa t) ∧ nos e = true
  | .v i, M, X, e, C, h => by
    cases e <;> simp [mG] at h
    have hs := C.sto h.2
    exact ⟨snd_gv C.nd (by rw [C.hN]; exact at_of h.1) hs.1 hs.2, rfl⟩
  | .t ts, M, X, e, C, h => by
    cases e <;> simp [mG] at h
    obtain ⟨a, b, c⟩ := sndGs ts C h
    exact ⟨snd_gt C.hK C.calm a b c, rfl⟩
theorem sndGs : ∀ (ts : List Tg) {M : Mc} {X : L2.Cx} {es : List Expr}, CxOk L M X → mGs M ts es = true → PGs X es (rdGs L xa ts) ∧ (assignEach es X.env).length = ts.length ∧ (assignEach es X.env).findIdx? (·.1) = none
  | [], M, X, [], C, h => ⟨snd_gs_nil, rfl, rfl⟩
  | [], M, X, _ :: _, C, h => by simp [mGs] at h
  | _ :: _, M, X, [], C, h => by simp [mGs] at h
  | t :: ts, M, X, e :: es, C, h => by
    simp only [mGs, Bool.and_eq_true] at h
    obtain ⟨a, n⟩ := sndG t C h.1
    obtain ⟨b, c, d⟩ := sndGs ts C h.2
    have ha := assignEach_cons (es := es) (env := X.env) n
    refine ⟨snd_gs_cons a b (by rw [ha]; rfl), by rw [ha]; simp [c], ?_⟩
    rw [ha, List.findIdx?_cons]
    simp [d]
end
theorem tOk_plain {x : Ex} {e : Expr} (h : mE x M e = true) (ht : tOk x = true) (hx : ∀ a, x ≠ .not a) (h1 : ∀ es, x ≠ .and es) (h2 : ∀ es, x ≠ .or es) (h3 : ∀ o a b, x ≠ .cmp o a b) (h4 : ∀ o p a b c, x ≠ .chn o p a b c) (h5 : ∀ o a b, x ≠ .cmpC o a b) (h6 : ∀ n a b, x ≠ .din n a b) : plainT e = true := by
  cases x with
  | ite c a b => simp [tOk] at ht
  | not a => exact absurd rfl (hx a)
  | and es => exact absurd rfl (h1 es)
  | or es => exact absurd rfl (h2 es)
  | cmp o a b => exact absurd rfl (h3 o a b)
  | chn o p a b c => exact absurd rfl (h4 o p a b c)
  | neg a =>
    cases e <;> simp [mE_neg] at h
    rename_i op y pos
    cases op <;> simp at h <;> rfl
  | rev a =>
    rw [mE_rev] at h
    split at h
    · rfl
    · cases h
  | lrng es =>
    rw [mE_lrng] at h
    split at h
    · split at h
      · rfl
      · cases h
    · cases h
  | mth m a b =>
    rw [mE_mth] at h
    split at h
    · rfl
    · cases h
  | sset a =>
    rw [mE_sset] at h
    split at h
    · rfl
    · cases h
  | lset a =>
    rw [mE_lset] at h
    split at h
    · rfl
    · cases h
  | lc2 e t1 i1 t2 i2 c =>
    rw [mE_lc2] at h
    split at h
    · rfl
    · cases h
  | cmpC o a b => exact absurd rfl (h5 o a b)
  | din n a b => exact absurd rfl (h6 n a b)
  | fld i a =>
    rw [mE_fld] at h
    split at h
    · rfl
    · cases h
  | meth c f a es ks bs =>
    rw [mE_meth] at h
    split at h
    · rfl
    · cases h
  | mk c f es ks bs =>
    rw [mE_mk] at h
    split at h
    · rfl
    · cases h
  | cpop z a =>
    rw [mE_cpop] at h
    split at h
    · rfl
    · cases h
  | binC o a b =>
    rw [mE_binC] at h
    split at h
    · rfl
    · cases h
  | idxC a i =>
    rw [mE_idxC] at h
    split at h
    · rfl
    · cases h
  | slcC a lo hi =>
    rw [mE_slcC] at h
    split at h
    · rfl
    · cases h
  | bltC b a =>
    rw [mE_bltC] at h
    split at h
    · rfl
    · cases h
  | ilen c f a =>
    rw [mE_ilen] at h
    split at h
    · rfl
    · cases h
  | dget a k =>
    rw [mE_dget] at h
    split at h
    · rfl
    · cases h
  | dnew t =>
    rw [mE_dnew] at h
    split at h
    · rfl
    · cases h
  | ddsp es =>
    rw [mE_ddsp] at h
    split at h
    · rfl
    · cases h
  | dcp a =>
    rw [mE_dcp] at h
    split at h
    · rfl
    · cases h
  | new a =>
    rw [mE_new] at h
    simp only [Bool.and_eq_true] at h
    obtain ⟨h0, h⟩ := h
    cases a <;> simp only [newOk] at h0 <;> (try (cases h0; done))
    all_goals
      first | rw [mE_lst] at h | rw [mE_lc] at h | rw [mE_bltC] at h
      split at h
      · rfl
      · cases h
  | _ => cases e <;> first | rfl | (simp [mE_var, mE_cst, mE_tup, mE_lst, mE_bin, mE_neg, mE_not, mE_cmp, mE_chn, mE_and, mE_or, mE_ite, mE_idx, mE_slc, mE_isi, mE_call, mE_drawn, mE_blt, mE_rng, mE_zip, mE_enm, mE_lc, mE_efld, mE_eis, mE_rev, mE_lrng, mE_mth, mE_sset, mE_lset, mE_lc2, mE_fld, mE_meth, mE_mk, mE_new, mE_cpop, mE_cmpC, mE_binC, mE_idxC, mE_slcC, mE_bltC, mE_ilen, mE_dget, mE_din, mE_dnew, mE_ddsp, mE_dcp] at h)
/-- a range, by its arguments -/
theorem snd_rng (C : CxOk L M X) {pk : Bool} {es : List Ex} {xs : List Expr} {tg : Expr} {p pos : Pos} (g1 : M.glb "range" = true) (g2 : mEs es M xs = true) (g3 : 1 ≤ xs.length ∧ xs.length ≤ 3) (pa : PA X xs (rdEs L xa W es)) : PI X tg (.Call (.Name "range" p) xs [] pos) (rdI L xa W pk (.rng es)) := by
  obtain ⟨n1, n2⟩ := mEs_nos g2
  match es, xs, n1, n2, g3, pa with
  | [a], [x], n1, _, _, pa =>
    simp only [List.all_cons, List.all_nil, Bool.and_true] at n1
    exact snd_pi_rng1 (C.glb g1).1 (C.bn _ (by simp [bnames])) pa (star_of n1 [] _)
  | [a, b], [x, y], n1, _, _, pa =>
    simp only [List.all_cons, List.all_nil, Bool.and_true, Bool.and_eq_true] at n1
    exact snd_pi_rng2 (C.glb g1).1 (C.bn _ (by simp [bnames])) pa (by rw [star_of n1.1, star_of n1.2]; rfl) (star_of n1.2 [] _)
  | [a, b, c], [x, y, z], n1, _, _, pa =>
    simp only [List.all_cons, List.all_nil, Bool.and_true, Bool.and_eq_true] at n1
    exact snd_pi_rng3 (C.glb g1).1 (C.bn _ (by simp [bnames])) pa (star_of n1.1 _ _) (back_any (by simp [n1.2.1, n1.2.2]))
  | _, [], _, _, g3, _ => simp at g3
  | _ :: _ :: _ :: _ :: _, [_], _, n2, _, _ => simp at n2
  | _ :: _ :: _ :: _ :: _, [_, _], _, n2, _, _ => simp at n2
  | _ :: _ :: _ :: _ :: _, [_, _, _], _, n2, _, _ => simp at n2
  | _, _ :: _ :: _ :: _ :: _, _, _, g3, _ => exact absurd g3.2 (by simp)
  | [], _ :: _, _, n2, _, _ => simp at n2
  | [_], _ :: _ :: _, _, n2, _, _ => simp at n2
  | [_, _], [_], _, n2, _, _ => simp at n2
  | [_, _], _ :: _ :: _ :: _, _, n2, _, _ => simp at n2
  | [_, _, _], [_], _, n2, _, _ => simp at n2
  | [_, _, _], [_, _], _, n2, _, _ => simp at n2
theorem tup_of {tg : Expr} (h : isTup tg = true) : ∃ elts kk tpos, tg = .Tuple elts kk tpos := by
  cases tg <;> simp [isTup] at h
  exact ⟨_, _, _, rfl⟩
end
end Mi

set_option maxRecDepth 100000
set_option maxHeartbeats 4000000
namespace Mi
open PySem PySem.Spec PyProof.Rows
open L2 (V Hp HO upd upd_same upd_ne Same SqL SqT Rd VK XK WX PE PT PA OpR CallR IxR SlR TE TT TA tOp Dp DpAll PI TI PG PGs TG TGs)

section
variable {L : Lt}
theorem copOf_eq {op : CmpOp} {o : Cop} (h : (op == copOf o) = true) : op = copOf o := by
  cases o <;> cases op <;> first | rfl | (exact absurd h (by decide))
theorem opOf_eq {op : Operator} {o : Bop} (h : (op == opOf o) = true) : op = opOf o := by
  cases o <;> cases op <;> first | rfl | (exact absurd h (by decide))
theorem last_marks {op op' : CmpOp} {y z : Expr} (hz : nos z = true) : lastMarks [op, op'] [y, z] = false := by
  show lastMarks [op'] [z] = false
  exact mark_of hz op'
theorem CxOk.u64 {M : Mc} {X : L2.Cx} (C : CxOk L M X) : X.A.units + 65 < cLine := by have := C.un; omega
theorem inOp_eq {op : CmpOp} {neg : Bool} (h : (op == (if neg = true then CmpOp.NotIn else CmpOp.In)) = true) : op = (if neg = true then CmpOp.NotIn else CmpOp.In) := by
  cases neg <;> cases op <;> first | rfl | (exact absurd h (by decide))
theorem form_of {es : List Expr} {kws : List Keyword} {ns : List Str} {pos : Pos} {env : PySem.Env} (h1 : es.all nos = true) (h2 : kwNames kws = some ns) (h3 : es.length + kws.length < 29) : methodCallForm (es.length + kws.length) (backTo pos (starEach es env)) (backToKw pos (keywordEach kws env)) = true := by
  unfold methodCallForm
  have a := back_any (pos := pos) (env := env) h1
  obtain ⟨b, _, _, _⟩ := kw_all (pos := pos) (env := env) h2
  have a' : (backTo pos (starEach es env)).all (fun x => !x.1) = true := by
    rw [List.all_eq_true]
    intro x hx
    rw [List.any_eq_false] at a
    simpa using a x hx
  rw [a', b]
  simp only [Bool.true_and, decide_eq_true_eq]
  split <;> omega
theorem star_cons {es : List Expr} {env : PySem.Env} (h : es.all nos = true) : ∀ e es', es = e :: es' → starEach (e :: es') env = (false, eval e env) :: starEach es' env := by
  intro e es' q
  subst q
  simp only [List.all_cons, Bool.and_eq_true] at h
  exact star_of h.1 es' env
theorem prs_pps {M : Mc} {X : L2.Cx} {W : WX} {xa : XA} {pos : Pos} : ∀ {es : List Ex} {ks : List (Option Expr)} {vs : List Expr} {xs : List Expr}, flatE ks vs = some xs → mEs es M xs = true → (∀ x ∈ es, ∀ e, mE x M e = true → PE X e (rdE L xa W x)) →
    L2.PPs X pos ks vs ((prsX es).map fun q => (rdE L xa W q.1, rdE L xa W q.2)) ∧ ks.all (·.isSome) = true ∧ ks.length = vs.length ∧ es.length % 2 = 0
  | es, [], [], xs, hf, hm, _ => by
    simp [flatE] at hf
    subst hf
    cases es with
    | nil => exact ⟨L2.pps_nil, rfl, rfl, rfl⟩
    | cons a b => simp [mEs_nil, mEs_cons] at hm
  | es, [], _ :: _, xs, hf, hm, _ => by simp [flatE] at hf
  | es, none :: _, _, xs, hf, hm, _ => by simp [flatE] at hf
  | es, some _ :: _, [], xs, hf, hm, _ => by simp [flatE] at hf
  | es, some k :: ks, v :: vs, xs, hf, hm, hh => by
    simp only [flatE] at hf
    obtain ⟨r, hr, rfl⟩ := Option.map_eq_some_iff.mp hf
    match es, hm, hh with
    | [], hm, _ => simp [mEs_nil, mEs_cons] at hm
    | [a], hm, _ => simp [mEs_nil, mEs_cons] at hm
    | a :: b :: es, hm, hh =>
      simp only [mEs_nil, mEs_cons, Bool.and_eq_true] at hm
      obtain ⟨⟨m1, _⟩, ⟨m2, _⟩, m3⟩ := hm
      obtain ⟨i1, i2, i3, i4⟩ := prs_pps (es := es) (pos := pos) hr m3 fun x hx => hh x (List.mem_cons_of_mem _ (List.mem_cons_of_mem _ hx))
      exact ⟨L2.pps_cons (hh a (by simp) k m1) (hh b (by simp) v m2) i1, by simp [i2], by simp [i3], by simp; omega⟩
mutual
theorem sndE : ∀ (x : Ex) {M : Mc} {X : L2.Cx} {W : WX} {xa : XA} {e : Expr}, CxOk L M X → L2.Takes X W → mE x M e = true → PE X e (rdE L xa W x)
  | .var i, M, X, W, xa, e, C, tk, h => by
    cases e <;> simp [mE_var] at h
    have hv := C.vis h.2
    exact snd_var (by rw [C.hN]; exact at_of h.1) hv.1 hv.2.1 hv.2.2
  | .cst d, M, X, W, xa, e, C, tk, h => by
    cases e <;> simp [mE_cst] at h
    · rename_i c j pos
      obtain ⟨v, h1, h2⟩ := mCst_ok (X := X) (L := L) (j := j) (pos := pos) h
      exact snd_cst h1 h2
    · rename_i n pos
      obtain ⟨g, hd⟩ := C.glb h.1
      cases ec : M.cns.lookup n with
      | none => rw [ec] at h; exact absurd h.2 (by simp)
      | some d' =>
        rw [ec] at h
        have := same_eq h.2
        subst this
        obtain ⟨u, v, h1, h2, h3⟩ := C.cn n _ ec
        exact snd_cst (L2.pe_glob g h1 h2 hd) h3
  | .tup es, M, X, W, xa, e, C, tk, h => by
    cases e <;> simp [mE_tup] at h
    exact snd_tup (sndEs es C tk h)
  | .lst es, M, X, W, xa, e, C, tk, h => by
    cases e <;> simp [mE_lst] at h
    exact snd_lst (sndEs es C tk h)
  | .bin o a b, M, X, W, xa, e, C, tk, h => by
    cases e <;> simp only [mE_bin, Bool.and_eq_true] at h <;> (try (cases h; done))
    obtain ⟨⟨h0, h1⟩, h2⟩ := h
    rw [opOf_eq h0]
    exact snd_bin C.hK (sndR_help C h1 (sndE a C tk h1)) (sndR_help C h2 (sndE b C tk h2))
  | .neg a, M, X, W, xa, e, C, tk, h => by
    cases e <;> simp [mE_neg] at h
    rename_i op y pos
    cases op <;> simp at h
    exact snd_neg (sndE a C tk h)
  | .not a, M, X, W, xa, e, C, tk, h => by
    cases e <;> simp [mE_not] at h
    rename_i op y pos
    cases op <;> simp at h
    exact snd_not (sndE a C tk h)
  | .cmp o a b, M, X, W, xa, e, C, tk, h => by
    cases e <;> simp only [mE_cmp] at h <;> (try (cases h; done))
    rename_i l ops cs pos
    match ops, cs, h with
    | [op], [y], h =>
      simp only [Bool.and_eq_true] at h
      obtain ⟨⟨⟨h0, h1⟩, h2⟩, h3⟩ := h
      rw [copOf_eq h0]
      exact snd_cmp C.hK C.u64 (sndR_help C h1 (sndE a C tk h1)) (sndR_help C h2 (sndE b C tk h2)) (mark_of h3 _)
    | [], _, h => simp at h
    | [_], [], h => simp at h
    | [_], _ :: _ :: _, h => simp at h
    | _ :: _ :: _, _, h => simp at h
  | .chn o p a b c, M, X, W, xa, e, C, tk, h => by
    cases e <;> simp only [mE_chn] at h <;> (try (cases h; done))
    rename_i l ops cs pos
    match ops, cs, h with
    | [op, op'], [y, z], h =>
      simp only [Bool.and_eq_true] at h
      obtain ⟨⟨⟨⟨⟨⟨h0, h1⟩, h2⟩, h3⟩, h4⟩, h5⟩, h6⟩ := h
      rw [copOf_eq h0, copOf_eq h1]
      exact snd_chn C.hK C.u64 (sndE a C tk h2) (sndE b C tk h3) (sndE c C tk h4) (last_marks h6)
    | [], _, h => simp at h
    | [_], _, h => simp at h
    | [_, _], [], h => simp at h
    | [_, _], [_], h => simp at h
    | [_, _], _ :: _ :: _ :: _, h => simp at h
    | _ :: _ :: _ :: _, _, h => simp at h
  | .and es, M, X, W, xa, e, C, tk, h => by
    cases e <;> simp only [mE_and] at h <;> (try (cases h; done))
    rename_i op cs pos
    cases op <;> simp only [Bool.and_eq_true, decide_eq_true_eq] at h <;> (try (cases h; done))
    have k := sndAnd es C tk (xa := xa) (pos := pos) h.1 (by
      have := (mEs_nos h.1).2
      omega)
    refine PE.imp k fun s H Q q => ?_
    obtain ⟨Z, r, ow, S, env, fr, q⟩ := q
    simp only [evE] at q
    exact ⟨Z, r, ow, S, env, fr, q⟩
  | .or es, M, X, W, xa, e, C, tk, h => by
    cases e <;> simp only [mE_or] at h <;> (try (cases h; done))
    rename_i op cs pos
    cases op <;> simp only [Bool.and_eq_true, decide_eq_true_eq] at h <;> (try (cases h; done))
    have k := sndOr es C tk (xa := xa) (pos := pos) h.1 (by
      have := (mEs_nos h.1).2
      omega)
    refine PE.imp k fun s H Q q => ?_
    obtain ⟨Z, r, ow, S, env, fr, q⟩ := q
    simp only [evE] at q
    exact ⟨Z, r, ow, S, env, fr, q⟩
  | .ite c a b, M, X, W, xa, e, C, tk, h => by
    cases e <;> simp only [mE_ite, Bool.and_eq_true] at h <;> (try (cases h; done))
    obtain ⟨⟨⟨h0, h1⟩, h2⟩, h3⟩ := h
    exact snd_ite (sndT c C tk h0 h1 (sndE c C tk h0)) (sndE a C tk h2) (sndE b C tk h3)
  | .idx a i, M, X, W, xa, e, C, tk, h => by
    cases e <;> simp only [mE_idx, Bool.and_eq_true] at h <;> (try (cases h; done))
    obtain ⟨⟨h0, h1⟩, h2⟩ := h
    exact snd_idx C.hK (sndR_help C h0 (sndE a C tk h0)) (sndE i C tk h1) (ix_of h2)
  | .slc a lo hi, M, X, W, xa, e, C, tk, h => by
    rw [mE_slc] at h
    split at h
    case h_2 => cases h
    rename_i y l u p2 pos
    simp only [Bool.and_eq_true] at h
    obtain ⟨⟨h0, h1⟩, h2⟩ := h
    have out : ∀ {x : Ex}, isOut x = true → x = .cst .non := fun {x} q => by
      cases x <;> simp [isOut] at q
      rename_i d
      cases d <;> simp [isOut] at q
      rfl
    refine snd_slc C.hK (sndR_help C h0 (sndE a C tk h0)) ?_ ?_
    · cases l with
      | none => rw [out h1]; exact snd_po_none
      | some l =>
        simp only [Bool.and_eq_true, Bool.not_eq_true'] at h1
        exact snd_po_some h1.1 (sndE lo C tk h1.2)
    · cases u with
      | none => rw [out h2]; exact snd_po_none
      | some l =>
        simp only [Bool.and_eq_true, Bool.not_eq_true'] at h2
        exact snd_po_some h2.1 (sndE hi C tk h2.2)
  | .isi a k, M, X, W, xa, e, C, tk, h => by
    rw [mE_isi] at h
    split at h
    · simp only [Bool.and_eq_true, beq_iff_eq] at h
      obtain ⟨⟨⟨⟨⟨rfl, h1⟩, rfl⟩, h3⟩, h4⟩, h5⟩ := h
      exact snd_isi C.hK (C.glb h1).1 (C.bn _ (by simp [bnames])) (C.glb h3).1 (C.bn _ (by cases k <;> simp [bnames, kdName])) (sndR_help C h4 (sndE a C tk h4)) (fun es => star_of h5 es _)
    · cases h
  | .call f es ks bs, M, X, W, xa, e, C, tk, h => by
    rw [mE_call] at h
    split at h
    · rename_i g p x xs kws pos
      simp only [Bool.and_eq_true] at h
      obtain ⟨⟨⟨h1, h2⟩, h3⟩, h4⟩ := h
      cases ek : kwNames kws with
      | none => rw [ek] at h4; cases h4
      | some ns =>
        rw [ek] at h4
        obtain ⟨a1, a2, a3, a4⟩ := kw_all (pos := pos) (env := X.env) ek
        obtain ⟨n1, n2⟩ := mEs_nos h2
        obtain ⟨n3, n4⟩ := mEs_nos h3
        have ok := shape_of C h4
        have hx : nos x = true := by
          simp only [List.all_cons, Bool.and_eq_true] at n1
          exact n1.1
        exact snd_call (sh := ⟨g, f, xs.length + 1, ns, bs⟩) tk ok (C.glb h1).1 (C.glb h1).2 (sndEs es C tk h2) (sndKs ks C tk h3) (by simpa using n2.symm) (by rw [← n4]; exact a4) a1 a2 (star_of hx xs _) (by rw [back_any n1, a3]; rfl)
    · cases h
  | .drawn i k m, M, X, W, xa, e, C, tk, h => by
    rw [mE_drawn] at h
    split at h
    · simp only [Bool.and_eq_true, beq_iff_eq] at h
      obtain ⟨⟨⟨⟨⟨⟨⟨rfl, h1⟩, h2⟩, h3⟩, h4⟩, h5⟩, h6⟩, h7⟩ := h
      have hv := C.vis h3
      exact snd_drawn (by rw [C.hN]; exact at_of h2) hv.1 hv.2.1 hv.2.2 tk C.dw (C.glb h1).1 (sndE k C tk h4) (sndE m C tk h5) (fun es => star_of h6 es _) (fun es => star_of h7 es _)
    · cases h
  | .blt b es, M, X, W, xa, e, C, tk, h => by
    rw [mE_blt] at h
    split at h
    · rename_i f p x xs pos
      simp only [Bool.and_eq_true, beq_iff_eq] at h
      obtain ⟨⟨rfl, h1⟩, h2⟩ := h
      obtain ⟨n1, n2⟩ := mEs_nos h2
      simp only [List.all_cons, Bool.and_eq_true] at n1
      exact snd_blt C.hK C.calm (by have := C.un; omega) (C.glb h1).1 (C.bn _ (by cases b <;> simp [bnames, bltName])) (sndRs es C tk h2) (fun es => star_of n1.1 es _) (back_any n1.2)
    · cases h
  | .rng es, M, X, W, xa, e, C, tk, h => by simp [mE_rng] at h
  | .zip a b, M, X, W, xa, e, C, tk, h => by simp [mE_zip] at h
  | .enm a, M, X, W, xa, e, C, tk, h => by simp [mE_enm] at h
  | .efld i _, M, X, W, xa, e, C, tk, h => by simp [mE_efld] at h
  | .eis i c, M, X, W, xa, e, C, tk, h => by simp [mE_eis] at h
  | .rev a, M, X, W, xa, e, C, tk, h => by
    rw [mE_rev] at h
    split at h
    · exact snd_rev C.hK (sndR_help C h (sndE a C tk h))
    · cases h
  | .lrng es, M, X, W, xa, e, C, tk, h => by
    rw [mE_lrng] at h
    split at h
    · split at h
      · simp only [Bool.and_eq_true, beq_iff_eq] at h
        obtain ⟨⟨⟨⟨⟨rfl, rfl⟩, h1⟩, h2⟩, h3⟩, h4⟩ := h
        exact snd_lrng C.calm (C.glb h1).1 (C.bn _ (by simp [bnames])) (C.glb h2).1 (C.bn _ (by simp [bnames])) (sndE _ C tk h3) (star_of h4 [] _)
      · cases h
    · cases h
  | .mth m a b, M, X, W, xa, e, C, tk, h => by
    rw [mE_mth] at h
    split at h
    · simp only [Bool.and_eq_true, beq_iff_eq] at h
      obtain ⟨⟨⟨⟨⟨rfl, h1⟩, h2⟩, h3⟩, h4⟩, h5⟩ := h
      exact snd_mth C.hK (sndR_help C h3 (sndE a C tk h3)) (sndE b C tk h4) (ab_of h1 _ _) (fun es => star_of h5 es _) (by simpa using h2)
    · cases h
  | .sset a, M, X, W, xa, e, C, tk, h => by
    rw [mE_sset] at h
    split at h
    · simp only [Bool.and_eq_true, beq_iff_eq] at h
      obtain ⟨⟨⟨⟨⟨rfl, rfl⟩, h1⟩, h2⟩, h3⟩, h4⟩ := h
      exact snd_sset C.hK C.calm (C.glb h1).1 (C.bn _ (by simp [bnames])) (C.glb h2).1 (C.bn _ (by simp [bnames])) (sndR_help C h3 (sndE a C tk h3)) (star_of h4 [] _)
    · cases h
  | .lset a, M, X, W, xa, e, C, tk, h => by
    rw [mE_lset] at h
    split at h
    · simp only [Bool.and_eq_true, beq_iff_eq, Bool.not_eq_true'] at h
      obtain ⟨⟨⟨⟨⟨⟨⟨rfl, h1⟩, rfl⟩, h2⟩, h3⟩, h4⟩, h5⟩, h6⟩ := h
      exact snd_lset C.hK C.calm (C.glb h1).1 (C.bn _ (by simp [bnames])) (sndR_help C h5 (sndE a C tk h5)) (isFun_of h3) (oneLoc_of h4) h2 (fun v => fold_of h6 _ v)
    · cases h
  | .lc2 el t1 it1 t2 it2 c, M, X, W, xa, e, C, tk, h => by
    rw [mE_lc2] at h
    split at h
    case h_2 => cases h
    rename_i elt tg iter tg1 iter1 ifs scope pos
    simp only [Bool.and_eq_true] at h
    obtain ⟨⟨⟨⟨⟨⟨⟨⟨h0, h1⟩, h1'⟩, h2⟩, h2'⟩, h3⟩, h3'⟩, h4⟩, h5⟩ := h
    have bo := C.blkOk h0
    have B := fun s H Ca cl fp => C.blk bo.kind s H Ca cl fp
    have tn : ∀ {Y : L2.Cx}, L2.Takes Y WN := fun {Y} => L2.takes_none5
    have hpi : PI X tg iter (rdI L xa W true it1) := by
      cases hit : it1 with
      | enm a =>
        rw [hit] at h5
        simp only at h5
        split at h5
        case h_2 => cases h5
        simp only [Bool.and_eq_true, beq_iff_eq] at h5
        obtain ⟨⟨⟨⟨rfl, g1⟩, g2⟩, g3⟩, g4⟩ := h5
        obtain ⟨elts, kk, tpos, rfl⟩ := tup_of g4
        have t1 : sizeOf a < sizeOf (Ex.lc2 el t1 it1 t2 it2 c) := by rw [hit]; simp; omega
        exact snd_pi_enm C.hK (C.glb g1).1 (C.bn _ (by simp [bnames])) (sndR_help C g2 (sndE a C tk g2)) (star_of g3 [] _)
      | rng es => rw [hit] at h5; simp [mE_rng] at h5
      | zip a b => rw [hit] at h5; simp [mE_zip] at h5
      | _ =>
        have h6 : mE it1 M iter = true := by rw [hit] at h5 ⊢; exact h5
        rw [← hit]
        exact snd_pi_pk C.hK (sndR_help C h6 (sndE it1 C tk h6))
    have hc : ∃ n, (n = 0 → c = .cst (.bl true)) ∧ ∀ s H Ca cl fp, L2.PTs (X.blk s H scope (compEnvC scope cl Ca X.env) fp) ifs (rdC L xa WN n c) := by
      match ifs, h4 with
      | [], h4 =>
        refine ⟨0, fun _ => ?_, fun s H Ca cl fp => snd_pts (.inl ⟨rfl, rfl⟩)⟩
        exact isTT_eq h4
      | [c'], h4 =>
        simp only [Bool.and_eq_true] at h4
        exact ⟨1, fun z => absurd z (by decide), fun s H Ca cl fp => snd_pts (.inr ⟨c', rfl, rfl, sndT c (B s H Ca cl fp) tn h4.1 h4.2 (sndE c (B s H Ca cl fp) tn h4.1)⟩)⟩
      | _ :: _ :: _, h4 => simp at h4
    obtain ⟨n, hn, hts⟩ := hc
    refine PE.imp (L2.pe_lc2 (own := ownOf M.N (slots t1 ++ slots t2)) (vs1 := slots t2) C.calm C.nd hpi bo (fun i hi => by rw [ownOf_snd]; exact List.mem_append_right _ hi) (fun s H Ca cl fp => (sndG (xa := xa) t1 (B s H Ca cl fp) h2).1) (fun s H Ca cl fp => snd_pts (L := L) (xa := xa) (n := 0) (c := .cst (.bl true)) (W := WN) (.inl ⟨rfl, rfl⟩)) (fun s H Ca cl fp => snd_pi_ev (B s H Ca cl fp).hK (sndE (xa := xa) it2 (B s H Ca cl fp) tn h3')) (fun s H Ca cl fp => (sndG (xa := xa) t2 (B s H Ca cl fp) h2').1) hts (fun s H Ca cl fp => sndE (xa := xa) el (B s H Ca cl fp) tn h3) (fun x => fold_of h1 _ x) (fun env x => fold_of h1' env x)) fun s H Q q => ?_
    rw [ownOf_snd]
    exact lc2_read hn q
  | .lc el t it c, M, X, W, xa, e, C, tk, h => by
    rw [mE_lc] at h
    split at h
    case h_2 => cases h
    rename_i elt tg iter ifs scope pos
    simp only [Bool.and_eq_true] at h
    obtain ⟨⟨⟨⟨⟨h0, h1⟩, h2⟩, h3⟩, h4⟩, h5⟩ := h
    have bo := C.blkOk h0
    have B := fun s H Ca cl fp => C.blk bo.kind s H Ca cl fp
    have tn : ∀ {Y : L2.Cx}, L2.Takes Y WN := fun {Y} => L2.takes_none5
    have hpi : PI X tg iter (rdI L xa W true it) := by
      cases it with
      | rng es =>
        simp only at h5
        split at h5
        case h_2 => cases h5
        simp only [Bool.and_eq_true, beq_iff_eq, decide_eq_true_eq] at h5
        obtain ⟨⟨⟨rfl, g1⟩, g2⟩, g3⟩ := h5
        exact snd_rng C g1 g2 g3 (sndEs es C tk g2)
      | zip a b =>
        simp only at h5
        split at h5
        case h_2 => cases h5
        simp only [Bool.and_eq_true, beq_iff_eq] at h5
        obtain ⟨⟨⟨⟨⟨⟨rfl, g1⟩, g2⟩, g3⟩, g4⟩, g5⟩, g6⟩ := h5
        obtain ⟨elts, kk, tpos, rfl⟩ := tup_of g6
        exact snd_pi_zip C.hK (C.glb g1).1 (C.bn _ (by simp [bnames])) (sndR_help C g2 (sndE a C tk g2)) (sndR_help C g3 (sndE b C tk g3)) (star_of g4 _ _) (star_of g5 [] _)
      | enm a =>
        simp only at h5
        split at h5
        case h_2 => cases h5
        simp only [Bool.and_eq_true, beq_iff_eq] at h5
        obtain ⟨⟨⟨⟨rfl, g1⟩, g2⟩, g3⟩, g4⟩ := h5
        obtain ⟨elts, kk, tpos, rfl⟩ := tup_of g4
        exact snd_pi_enm C.hK (C.glb g1).1 (C.bn _ (by simp [bnames])) (sndR_help C g2 (sndE a C tk g2)) (star_of g3 [] _)
      | var i => exact snd_pi_pk C.hK (sndR_help C h5 (sndE _ C tk h5))
      | cst d => exact snd_pi_pk C.hK (sndR_help C h5 (sndE _ C tk h5))
      | tup es => exact snd_pi_pk C.hK (sndR_help C h5 (sndE _ C tk h5))
      | lst es => exact snd_pi_pk C.hK (sndR_help C h5 (sndE _ C tk h5))
      | bin o a b => exact snd_pi_pk C.hK (sndR_help C h5 (sndE _ C tk h5))
      | neg a => exact snd_pi_pk C.hK (sndR_help C h5 (sndE _ C tk h5))
      | not a => exact snd_pi_pk C.hK (sndR_help C h5 (sndE _ C tk h5))
      | cmp o a b => exact snd_pi_pk C.hK (sndR_help C h5 (sndE _ C tk h5))
      | chn o p a b c => exact snd_pi_pk C.hK (sndR_help C h5 (sndE _ C tk h5))
      | and es => exact snd_pi_pk C.hK (sndR_help C h5 (sndE _ C tk h5))
      | or es => exact snd_pi_pk C.hK (sndR_help C h5 (sndE _ C tk h5))
      | ite c a b => exact snd_pi_pk C.hK (sndR_help C h5 (sndE _ C tk h5))
      | idx a i => exact snd_pi_pk C.hK (sndR_help C h5 (sndE _ C tk h5))
      | slc a lo hi => exact snd_pi_pk C.hK (sndR_help C h5 (sndE _ C tk h5))
      | isi a k => exact snd_pi_pk C.hK (sndR_help C h5 (sndE _ C tk h5))
      | call f es ks bs => exact snd_pi_pk C.hK (sndR_help C h5 (sndE _ C tk h5))
      | drawn i k m => exact snd_pi_pk C.hK (sndR_help C h5 (sndE _ C tk h5))
      | blt b es => exact snd_pi_pk C.hK (sndR_help C h5 (sndE _ C tk h5))
      | lc a b c d => exact snd_pi_pk C.hK (sndR_help C h5 (sndE _ C tk h5))
      | efld i j => exact snd_pi_pk C.hK (sndR_help C h5 (sndE _ C tk h5))
      | eis i c => exact snd_pi_pk C.hK (sndR_help C h5 (sndE _ C tk h5))
      | rev a => exact snd_pi_pk C.hK (sndR_help C h5 (sndE _ C tk h5))
      | lrng es => exact snd_pi_pk C.hK (sndR_help C h5 (sndE _ C tk h5))
      | mth m a b => exact snd_pi_pk C.hK (sndR_help C h5 (sndE _ C tk h5))
      | sset a => exact snd_pi_pk C.hK (sndR_help C h5 (sndE _ C tk h5))
      | lset a => exact snd_pi_pk C.hK (sndR_help C h5 (sndE _ C tk h5))
      | lc2 a1 a2 a3 a4 a5 a6 => exact snd_pi_pk C.hK (sndR_help C h5 (sndE _ C tk h5))
      | fld a b => exact snd_pi_pk C.hK (sndR_help C h5 (sndE _ C tk h5))
      | meth a1 a2 a3 a4 a5 a6 => exact snd_pi_pk C.hK (sndR_help C h5 (sndE _ C tk h5))
      | mk a1 a2 a3 a4 a5 => exact snd_pi_pk C.hK (sndR_help C h5 (sndE _ C tk h5))
      | new a => exact snd_pi_pk C.hK (sndR_help C h5 (sndE _ C tk h5))
      | cpop a b => exact snd_pi_pk C.hK (sndR_help C h5 (sndE _ C tk h5))
      | cmpC a b c => exact snd_pi_pk C.hK (sndR_help C h5 (sndE _ C tk h5))
      | binC a b c => exact snd_pi_pk C.hK (sndR_help C h5 (sndE _ C tk h5))
      | idxC a b => exact snd_pi_pk C.hK (sndR_help C h5 (sndE _ C tk h5))
      | slcC a b c => exact snd_pi_pk C.hK (sndR_help C h5 (sndE _ C tk h5))
      | bltC a b => exact snd_pi_pk C.hK (sndR_help C h5 (sndE _ C tk h5))
      | ilen a b c => exact snd_pi_pk C.hK (sndR_help C h5 (sndE _ C tk h5))
      | dget a b => exact snd_pi_pk C.hK (sndR_help C h5 (sndE _ C tk h5))
      | din a b c => exact snd_pi_pk C.hK (sndR_help C h5 (sndE _ C tk h5))
      | dnew a => exact snd_pi_pk C.hK (sndR_help C h5 (sndE _ C tk h5))
      | ddsp a => exact snd_pi_pk C.hK (sndR_help C h5 (sndE _ C tk h5))
      | dcp a => exact snd_pi_pk C.hK (sndR_help C h5 (sndE _ C tk h5))
    have hc : ∃ n, (n = 0 → c = .cst (.bl true)) ∧ ∀ s H Ca cl fp, L2.PTs (X.blk s H scope (compEnvC scope cl Ca X.env) fp) ifs (rdC L xa WN n c) := by
      match ifs, h4 with
      | [], h4 =>
        refine ⟨0, fun _ => ?_, fun s H Ca cl fp => snd_pts (.inl ⟨rfl, rfl⟩)⟩
        exact isTT_eq h4
      | [c'], h4 =>
        simp only [Bool.and_eq_true] at h4
        exact ⟨1, fun z => absurd z (by decide), fun s H Ca cl fp => snd_pts (.inr ⟨c', rfl, rfl, sndT c (B s H Ca cl fp) tn h4.1 h4.2 (sndE c (B s H Ca cl fp) tn h4.1)⟩)⟩
      | _ :: _ :: _, h4 => simp at h4
    obtain ⟨n, hn, hts⟩ := hc
    refine PE.imp (L2.pe_lc (own := ownOf M.N (slots t)) C.calm C.nd hpi bo (fun s H Ca cl fp => (sndG (xa := xa) t (B s H Ca cl fp) h2).1) hts (fun s H Ca cl fp => sndE (xa := xa) el (B s H Ca cl fp) tn h3) (fun x => fold_of h1 _ x)) fun s H Q q => ?_
    rw [ownOf_snd]
    exact lc_read hn q
  | .fld i a, M, X, W, xa, e, C, tk, h => by
    rw [mE_fld] at h
    split at h
    · simp only [Bool.and_eq_true] at h
      obtain ⟨⟨h0, h1⟩, h2⟩ := h
      exact snd_fld C.ck (by rw [C.fdh]; exact at_of h0) (sndE a C tk h2) (ab_of h1 _ _)
    · cases h
  | .meth c f a es ks bs, M, X, W, xa, e, C, tk, h => by
    rw [mE_meth] at h
    split at h
    · rename_i x m ap xs kws cp
      simp only [Bool.and_eq_true, decide_eq_true_eq] at h
      obtain ⟨⟨⟨⟨⟨⟨h1, h2⟩, h3⟩, h4⟩, h5⟩, h6⟩, h7⟩ := h
      cases ek : kwNames kws with
      | none => rw [ek] at h7; cases h7
      | some ns =>
        rw [ek] at h7
        obtain ⟨a1, a2, a3, a4⟩ := kw_all (pos := cp) (env := X.env) ek
        obtain ⟨n1, n2⟩ := mEs_nos h4
        obtain ⟨n3, n4⟩ := mEs_nos h5
        have ok := C.mh _ (shIn_of h7)
        exact snd_meth (sh := ⟨c, m, f, xs.length, ns, bs⟩) tk C.ck ok (sndE a C tk h3) (sndEs es C tk h4) (sndKs ks C tk h5) n2.symm n2 (by rw [← n4]; exact a4) a1 a2 (ab_of h1 _ _) (form_of n1 ek h6) (by simpa using h2) (star_cons n1) (by rw [back_any n1, a3]; rfl)
    · cases h
  | .mk c f es ks bs, M, X, W, xa, e, C, tk, h => by
    rw [mE_mk] at h
    split at h
    · rename_i g p xs kws pos
      simp only [Bool.and_eq_true] at h
      obtain ⟨⟨⟨h1, h2⟩, h3⟩, h4⟩ := h
      cases ek : kwNames kws with
      | none => rw [ek] at h4; cases h4
      | some ns =>
        rw [ek] at h4
        obtain ⟨a1, a2, a3, a4⟩ := kw_all (pos := pos) (env := X.env) ek
        obtain ⟨n1, n2⟩ := mEs_nos h2
        obtain ⟨n3, n4⟩ := mEs_nos h3
        have ok := C.kh _ (shIn_of h4)
        exact snd_mk (sh := ⟨c, g, f, xs.length, ns, bs⟩) tk ok (C.glb h1).1 (C.glb h1).2 (sndEs es C tk h2) (sndKs ks C tk h3) n2.symm n2 (by rw [← n4]; exact a4) a1 a2 (star_cons n1) (by rw [back_any n1, a3]; rfl)
    · cases h
  | .new (.lst es), M, X, W, xa, e, C, tk, h => by
    rw [mE_new] at h
    simp only [newOk, Bool.true_and] at h
    cases e <;> simp only [mE_lst] at h <;> (try (cases h; done))
    exact snd_new (sndF_lst (sndEs es C tk h))
  | .new (.bltC b a), M, X, W, xa, e, C, tk, h => by
    rw [mE_new] at h
    simp only [Bool.and_eq_true] at h
    obtain ⟨h0, h⟩ := h
    cases b <;> simp only [newOk] at h0 <;> (try (cases h0; done))
    rw [mE_bltC] at h
    split at h
    · simp only [Bool.and_eq_true, beq_iff_eq] at h
      obtain ⟨⟨⟨rfl, h1⟩, h2⟩, h3⟩ := h
      exact snd_new (sndF_listC C.hK C.calm (by have := C.un; omega) (C.glb h1).1 (C.bn _ (by simp [bnames, bltName])) (sndE a C tk h2) (fun es => star_of h3 es _))
    · cases h
  | .cpop z a, M, X, W, xa, e, C, tk, h => by
    rw [mE_cpop] at h
    split at h
    · rename_i x m ap xs cp
      simp only [Bool.and_eq_true, beq_iff_eq] at h
      obtain ⟨⟨⟨⟨rfl, h1⟩, h2⟩, h3⟩, h4⟩ := h
      split at h4
      · exact snd_cpop C.hK (sndE a C tk h3) (ab_of h1 _ _) (by simpa using h2)
      · exact snd_cpop0 C.hK (sndE a C tk h3) (ab_of h1 _ _) (by simpa using h2)
      · cases h4
    · cases h
  | .cmpC o a b, M, X, W, xa, e, C, tk, h => by
    rw [mE_cmpC] at h
    split at h
    · simp only [Bool.and_eq_true] at h
      obtain ⟨⟨⟨h0, h1⟩, h2⟩, h3⟩ := h
      rw [copOf_eq h0]
      exact snd_cmpC C.hK C.u64 (sndE a C tk h1) (sndE b C tk h2) (mark_of h3 _)
    · cases h
  | .binC o a b, M, X, W, xa, e, C, tk, h => by
    rw [mE_binC] at h
    split at h
    · simp only [Bool.and_eq_true] at h
      obtain ⟨⟨h0, h1⟩, h2⟩ := h
      rw [opOf_eq h0]
      exact snd_binC C.hK (sndE a C tk h1) (sndE b C tk h2)
    · cases h
  | .idxC a i, M, X, W, xa, e, C, tk, h => by
    rw [mE_idxC] at h
    split at h
    · simp only [Bool.and_eq_true] at h
      obtain ⟨⟨h0, h1⟩, h2⟩ := h
      exact snd_idxC C.hK (sndE a C tk h0) (sndE i C tk h1) (ix_of h2)
    · cases h
  | .slcC a lo hi, M, X, W, xa, e, C, tk, h => by
    rw [mE_slcC] at h
    split at h
    case h_2 => cases h
    rename_i y l u p2 pos
    simp only [Bool.and_eq_true] at h
    obtain ⟨⟨h0, h1⟩, h2⟩ := h
    have out : ∀ {x : Ex}, isOut x = true → x = .cst .non := fun {x} q => by
      cases x <;> simp [isOut] at q
      rename_i d
      cases d <;> simp [isOut] at q
      rfl
    refine snd_slcC C.hK (sndE a C tk h0) ?_ ?_
    · cases l with
      | none => rw [out h1]; exact snd_po_none
      | some l =>
        simp only [Bool.and_eq_true, Bool.not_eq_true'] at h1
        exact snd_po_some h1.1 (sndE lo C tk h1.2)
    · cases u with
      | none => rw [out h2]; exact snd_po_none
      | some l =>
        simp only [Bool.and_eq_true, Bool.not_eq_true'] at h2
        exact snd_po_some h2.1 (sndE hi C tk h2.2)
  | .bltC b a, M, X, W, xa, e, C, tk, h => by
    rw [mE_bltC] at h
    split at h
    · simp only [Bool.and_eq_true, beq_iff_eq] at h
      obtain ⟨⟨⟨rfl, h1⟩, h2⟩, h3⟩ := h
      exact snd_bltC C.hK C.calm (by have := C.un; omega) (C.glb h1).1 (C.bn _ (by cases b <;> simp [bnames, bltName])) (sndE a C tk h2) (fun es => star_of h3 es _)
    · cases h
  | .ilen c f a, M, X, W, xa, e, C, tk, h => by
    rw [mE_ilen] at h
    split at h
    · simp only [Bool.and_eq_true, beq_iff_eq] at h
      obtain ⟨⟨⟨⟨rfl, h1⟩, h2⟩, h3⟩, h4⟩ := h
      exact snd_ilen tk (C.mh _ (shIn_of h4)) (C.glb h1).1 (C.bn _ (by simp [bnames])) (sndE a C tk h2) (fun es => star_of h3 es _)
    · cases h
  | .dget a k, M, X, W, xa, e, C, tk, h => by
    rw [mE_dget] at h
    split at h
    · simp only [Bool.and_eq_true] at h
      obtain ⟨⟨h0, h1⟩, h2⟩ := h
      exact snd_dget (by have := C.un; omega) (sndE a C tk h0) (sndE k C tk h1) (ix_of h2)
    · cases h
  | .din neg a b, M, X, W, xa, e, C, tk, h => by
    rw [mE_din] at h
    split at h
    · simp only [Bool.and_eq_true] at h
      obtain ⟨⟨⟨h0, h1⟩, h2⟩, h3⟩ := h
      rw [inOp_eq h0]
      exact snd_din (by have := C.un; omega) (sndE a C tk h1) (sndE b C tk h2) (fun op => mark_of h3 op)
    · cases h
  | .dnew t, M, X, W, xa, e, C, tk, h => by
    rw [mE_dnew] at h
    split at h
    · cases t
      · exact snd_dnew
      · cases h
    · cases h
  | .ddsp es, M, X, W, xa, e, C, tk, h => by
    rw [mE_ddsp] at h
    split at h
    · rename_i ks vs pos
      simp only [Bool.and_eq_true, decide_eq_true_eq] at h
      obtain ⟨h0, h1, h2⟩ := h
      split at h0
      · rename_i xs hf
        have hh : ∀ x ∈ es, ∀ e, mE x M e = true → PE X e (rdE L xa W x) := fun x hx e he => by
          have : sizeOf x < sizeOf (Ex.ddsp es) := by have := List.sizeOf_lt_of_mem hx; simp; omega
          exact sndE x C tk he
        obtain ⟨k1, k2, k3, k4⟩ := prs_pps (pos := pos) hf h0 hh
        exact snd_ddsp k1 k2 k3 (by intro z; rw [z] at h1; simp at h1) h2 k4
      · cases h0
    · cases h
  | .dcp a, M, X, W, xa, e, C, tk, h => by
    rw [mE_dcp] at h
    split at h
    · simp only [Bool.and_eq_true, beq_iff_eq] at h
      obtain ⟨⟨⟨rfl, h1⟩, h2⟩, h3⟩ := h
      exact snd_dcp (C.glb h1).1 (C.bn _ (by simp [bnames])) (sndE a C tk h2) (fun es => star_of h3 es _)
    · cases h
  | .new (.var _), M, X, W, xa, e, C, tk, h => by simp [mE_new, mE_var, newOk] at h
  | .new (.cst _), M, X, W, xa, e, C, tk, h => by simp [mE_new, mE_cst, newOk] at h
  | .new (.tup _), M, X, W, xa, e, C, tk, h => by simp [mE_new, mE_tup, newOk] at h
  | .new (.bin _ _ _), M, X, W, xa, e, C, tk, h => by simp [mE_new, mE_bin, newOk] at h
  | .new (.neg _), M, X, W, xa, e, C, tk, h => by simp [mE_new, mE_neg, newOk] at h
  | .new (.not _), M, X, W, xa, e, C, tk, h => by simp [mE_new, mE_not, newOk] at h
  | .new (.cmp _ _ _), M, X, W, xa, e, C, tk, h => by simp [mE_new, mE_cmp, newOk] at h
  | .new (.chn _ _ _ _ _), M, X, W, xa, e, C, tk, h => by simp [mE_new, mE_chn, newOk] at h
  | .new (.and _), M, X, W, xa, e, C, tk, h => by simp [mE_new, mE_and, newOk] at h
  | .new (.or _), M, X, W, xa, e, C, tk, h => by simp [mE_new, mE_or, newOk] at h
  | .new (.ite _ _ _), M, X, W, xa, e, C, tk, h => by simp [mE_new, mE_ite, newOk] at h
  | .new (.idx _ _), M, X, W, xa, e, C, tk, h => by simp [mE_new, mE_idx, newOk] at h
  | .new (.slc _ _ _), M, X, W, xa, e, C, tk, h => by simp [mE_new, mE_slc, newOk] at h
  | .new (.isi _ _), M, X, W, xa, e, C, tk, h => by simp [mE_new, mE_isi, newOk] at h
  | .new (.call _ _ _ _), M, X, W, xa, e, C, tk, h => by simp [mE_new, mE_call, newOk] at h
  | .new (.drawn _ _ _), M, X, W, xa, e, C, tk, h => by simp [mE_new, mE_drawn, newOk] at h
  | .new (.blt _ _), M, X, W, xa, e, C, tk, h => by simp [mE_new, mE_blt, newOk] at h
  | .new (.rng _), M, X, W, xa, e, C, tk, h => by simp [mE_new, mE_rng, newOk] at h
  | .new (.zip _ _), M, X, W, xa, e, C, tk, h => by simp [mE_new, mE_zip, newOk] at h
  | .new (.enm _), M, X, W, xa, e, C, tk, h => by simp [mE_new, mE_enm, newOk] at h
  | .new (.efld _ _), M, X, W, xa, e, C, tk, h => by simp [mE_new, mE_efld, newOk] at h
  | .new (.eis _ _), M, X, W, xa, e, C, tk, h => by simp [mE_new, mE_eis, newOk] at h
  | .new (.rev _), M, X, W, xa, e, C, tk, h => by simp [mE_new, mE_rev, newOk] at h
  | .new (.lrng _), M, X, W, xa, e, C, tk, h => by simp [mE_new, mE_lrng, newOk] at h
  | .new (.mth _ _ _), M, X, W, xa, e, C, tk, h => by simp [mE_new, mE_mth, newOk] at h
  | .new (.sset _), M, X, W, xa, e, C, tk, h => by simp [mE_new, mE_sset, newOk] at h
  | .new (.lset _), M, X, W, xa, e, C, tk, h => by simp [mE_new, mE_lset, newOk] at h
  | .new (.lc2 _ _ _ _ _ _), M, X, W, xa, e, C, tk, h => by simp [mE_new, mE_lc2, newOk] at h
  | .new (.fld _ _), M, X, W, xa, e, C, tk, h => by simp [mE_new, mE_fld, newOk] at h
  | .new (.meth _ _ _ _ _ _), M, X, W, xa, e, C, tk, h => by simp [mE_new, mE_meth, newOk] at h
  | .new (.mk _ _ _ _ _), M, X, W, xa, e, C, tk, h => by simp [mE_new, mE_mk, newOk] at h
  | .new (.new _), M, X, W, xa, e, C, tk, h => by simp [mE_new, mE_new, newOk] at h
  | .new (.cpop _ _), M, X, W, xa, e, C, tk, h => by simp [mE_new, mE_cpop, newOk] at h
  | .new (.cmpC _ _ _), M, X, W, xa, e, C, tk, h => by simp [mE_new, mE_cmpC, newOk] at h
  | .new (.binC _ _ _), M, X, W, xa, e, C, tk, h => by simp [mE_new, mE_binC, newOk] at h
  | .new (.idxC _ _), M, X, W, xa, e, C, tk, h => by simp [mE_new, mE_idxC, newOk] at h
  | .new (.slcC _ _ _), M, X, W, xa, e, C, tk, h => by simp [mE_new, mE_slcC, newOk] at h
  | .new (.ilen _ _ _), M, X, W, xa, e, C, tk, h => by simp [mE_new, mE_ilen, newOk] at h
  | .new (.dget _ _), M, X, W, xa, e, C, tk, h => by simp [mE_new, mE_dget, newOk] at h
  | .new (.din _ _ _), M, X, W, xa, e, C, tk, h => by simp [mE_new, mE_din, newOk] at h
  | .new (.dnew _), M, X, W, xa, e, C, tk, h => by simp [mE_new, mE_dnew, newOk] at h
  | .new (.ddsp _), M, X, W, xa, e, C, tk, h => by simp [mE_new, mE_ddsp, newOk] at h
  | .new (.dcp _), M, X, W, xa, e, C, tk, h => by simp [mE_new, mE_dcp, newOk] at h
  | .new (.lc el t it c), M, X, W, xa, e, C, tk, h => by
    rw [mE_new] at h
    simp only [newOk, Bool.true_and] at h
    rw [mE_lc] at h
    split at h
    case h_2 => cases h
    rename_i elt tg iter ifs scope pos
    simp only [Bool.and_eq_true] at h
    obtain ⟨⟨⟨⟨⟨h0, h1⟩, h2⟩, h3⟩, h4⟩, h5⟩ := h
    have bo := C.blkOk h0
    have B := fun s H Ca cl fp => C.blk bo.kind s H Ca cl fp
    have tn : ∀ {Y : L2.Cx}, L2.Takes Y WN := fun {Y} => L2.takes_none5
    have hpi : PI X tg iter (rdI L xa W true it) := by
      cases it with
      | rng es =>
        simp only at h5
        split at h5
        case h_2 => cases h5
        simp only [Bool.and_eq_true, beq_iff_eq, decide_eq_true_eq] at h5
        obtain ⟨⟨⟨rfl, g1⟩, g2⟩, g3⟩ := h5
        exact snd_rng C g1 g2 g3 (sndEs es C tk g2)
      | zip a b =>
        simp only at h5
        split at h5
        case h_2 => cases h5
        simp only [Bool.and_eq_true, beq_iff_eq] at h5
        obtain ⟨⟨⟨⟨⟨⟨rfl, g1⟩, g2⟩, g3⟩, g4⟩, g5⟩, g6⟩ := h5
        obtain ⟨elts, kk, tpos, rfl⟩ := tup_of g6
        exact snd_pi_zip C.hK (C.glb g1).1 (C.bn _ (by simp [bnames])) (sndR_help C g2 (sndE a C tk g2)) (sndR_help C g3 (sndE b C tk g3)) (star_of g4 _ _) (star_of g5 [] _)
      | enm a =>
        simp only at h5
        split at h5
        case h_2 => cases h5
        simp only [Bool.and_eq_true, beq_iff_eq] at h5
        obtain ⟨⟨⟨⟨rfl, g1⟩, g2⟩, g3⟩, g4⟩ := h5
        obtain ⟨elts, kk, tpos, rfl⟩ := tup_of g4
        exact snd_pi_enm C.hK (C.glb g1).1 (C.bn _ (by simp [bnames])) (sndR_help C g2 (sndE a C tk g2)) (star_of g3 [] _)
      | var i => exact snd_pi_pk C.hK (sndR_help C h5 (sndE _ C tk h5))
      | cst d => exact snd_pi_pk C.hK (sndR_help C h5 (sndE _ C tk h5))
      | tup es => exact snd_pi_pk C.hK (sndR_help C h5 (sndE _ C tk h5))
      | lst es => exact snd_pi_pk C.hK (sndR_help C h5 (sndE _ C tk h5))
      | bin o a b => exact snd_pi_pk C.hK (sndR_help C h5 (sndE _ C tk h5))
      | neg a => exact snd_pi_pk C.hK (sndR_help C h5 (sndE _ C tk h5))
      | not a => exact snd_pi_pk C.hK (sndR_help C h5 (sndE _ C tk h5))
      | cmp o a b => exact snd_pi_pk C.hK (sndR_help C h5 (sndE _ C tk h5))
      | chn o p a b c => exact snd_pi_pk C.hK (sndR_help C h5 (sndE _ C tk h5))
      | and es => exact snd_pi_pk C.hK (sndR_help C h5 (sndE _ C tk h5))
      | or es => exact snd_pi_pk C.hK (sndR_help C h5 (sndE _ C tk h5))
      | ite c a b => exact snd_pi_pk C.hK (sndR_help C h5 (sndE _ C tk h5))
      | idx a i => exact snd_pi_pk C.hK (sndR_help C h5 (sndE _ C tk h5))
      | slc a lo hi => exact snd_pi_pk C.hK (sndR_help C h5 (sndE _ C tk h5))
      | isi a k => exact snd_pi_pk C.hK (sndR_help C h5 (sndE _ C tk h5))
      | call f es ks bs => exact snd_pi_pk C.hK (sndR_help C h5 (sndE _ C tk h5))
      | drawn i k m => exact snd_pi_pk C.hK (sndR_help C h5 (sndE _ C tk h5))
      | blt b es => exact snd_pi_pk C.hK (sndR_help C h5 (sndE _ C tk h5))
      | lc a b c d => exact snd_pi_pk C.hK (sndR_help C h5 (sndE _ C tk h5))
      | efld i j => exact snd_pi_pk C.hK (sndR_help C h5 (sndE _ C tk h5))
      | eis i c => exact snd_pi_pk C.hK (sndR_help C h5 (sndE _ C tk h5))
      | rev a => exact snd_pi_pk C.hK (sndR_help C h5 (sndE _ C tk h5))
      | lrng es => exact snd_pi_pk C.hK (sndR_help C h5 (sndE _ C tk h5))
      | mth m a b => exact snd_pi_pk C.hK (sndR_help C h5 (sndE _ C tk h5))
      | sset a => exact snd_pi_pk C.hK (sndR_help C h5 (sndE _ C tk h5))
      | lset a => exact snd_pi_pk C.hK (sndR_help C h5 (sndE _ C tk h5))
      | lc2 a1 a2 a3 a4 a5 a6 => exact snd_pi_pk C.hK (sndR_help C h5 (sndE _ C tk h5))
      | fld a b => exact snd_pi_pk C.hK (sndR_help C h5 (sndE _ C tk h5))
      | meth a1 a2 a3 a4 a5 a6 => exact snd_pi_pk C.hK (sndR_help C h5 (sndE _ C tk h5))
      | mk a1 a2 a3 a4 a5 => exact snd_pi_pk C.hK (sndR_help C h5 (sndE _ C tk h5))
      | new a => exact snd_pi_pk C.hK (sndR_help C h5 (sndE _ C tk h5))
      | cpop a b => exact snd_pi_pk C.hK (sndR_help C h5 (sndE _ C tk h5))
      | cmpC a b c => exact snd_pi_pk C.hK (sndR_help C h5 (sndE _ C tk h5))
      | binC a b c => exact snd_pi_pk C.hK (sndR_help C h5 (sndE _ C tk h5))
      | idxC a b => exact snd_pi_pk C.hK (sndR_help C h5 (sndE _ C tk h5))
      | slcC a b c => exact snd_pi_pk C.hK (sndR_help C h5 (sndE _ C tk h5))
      | bltC a b => exact snd_pi_pk C.hK (sndR_help C h5 (sndE _ C tk h5))
      | ilen a b c => exact snd_pi_pk C.hK (sndR_help C h5 (sndE _ C tk h5))
      | dget a b => exact snd_pi_pk C.hK (sndR_help C h5 (sndE _ C tk h5))
      | din a b c => exact snd_pi_pk C.hK (sndR_help C h5 (sndE _ C tk h5))
      | dnew a => exact snd_pi_pk C.hK (sndR_help C h5 (sndE _ C tk h5))
      | ddsp a => exact snd_pi_pk C.hK (sndR_help C h5 (sndE _ C tk h5))
      | dcp a => exact snd_pi_pk C.hK (sndR_help C h5 (sndE _ C tk h5))
    have hc : ∃ n, (n = 0 → c = .cst (.bl true)) ∧ ∀ s H Ca cl fp, L2.PTs (X.blk s H scope (compEnvC scope cl Ca X.env) fp) ifs (rdC L xa WN n c) := by
      match ifs, h4 with
      | [], h4 =>
        refine ⟨0, fun _ => ?_, fun s H Ca cl fp => snd_pts (.inl ⟨rfl, rfl⟩)⟩
        exact isTT_eq h4
      | [c'], h4 =>
        simp only [Bool.and_eq_true] at h4
        exact ⟨1, fun z => absurd z (by decide), fun s H Ca cl fp => snd_pts (.inr ⟨c', rfl, rfl, sndT c (B s H Ca cl fp) tn h4.1 h4.2 (sndE c (B s H Ca cl fp) tn h4.1)⟩)⟩
      | _ :: _ :: _, h4 => simp at h4
    obtain ⟨n, hn, hts⟩ := hc
    refine snd_new (PE.imp (L2.pe_lc (own := ownOf M.N (slots t)) C.calm C.nd hpi bo (fun s H Ca cl fp => (sndG (xa := xa) t (B s H Ca cl fp) h2).1) hts (fun s H Ca cl fp => sndE (xa := xa) el (B s H Ca cl fp) tn h3) (fun x => fold_of h1 _ x)) fun s H Q q => ?_)
    rw [ownOf_snd]
    exact lc_readF hn q
termination_by x => sizeOf x
theorem sndT : ∀ (x : Ex) {M : Mc} {X : L2.Cx} {W : WX} {xa : XA} {e : Expr}, CxOk L M X → L2.Takes X W → mE x M e = true → tOk x = true → PE X e (rdE L xa W x) → PT X e (rdT L xa W x)
  | .not a, M, X, W, xa, e, C, tk, h, ht, k => by
    cases e <;> simp [mE_not] at h
    rename_i op y pos
    cases op <;> simp at h
    simp only [tOk] at ht
    exact sndT_not (sndT a C tk h ht (sndE a C tk h))
  | .and es, M, X, W, xa, e, C, tk, h, ht, k => by
    cases e <;> simp only [mE_and] at h <;> (try (cases h; done))
    rename_i op cs pos
    cases op <;> simp only [Bool.and_eq_true, decide_eq_true_eq] at h <;> (try (cases h; done))
    simp only [tOk] at ht
    have k := (sndAndT es C tk (xa := xa) (pos := pos) h.1 (by
      have := (mEs_nos h.1).2
      omega) ht).pt
    refine PT.imp k fun s H Q q => ?_
    obtain ⟨Z, r, ow, S, env, fr, q⟩ := q
    simp only [evE] at q
    exact ⟨Z, r, ow, S, env, fr, q⟩
  | .or es, M, X, W, xa, e, C, tk, h, ht, k => by
    cases e <;> simp only [mE_or] at h <;> (try (cases h; done))
    rename_i op cs pos
    cases op <;> simp only [Bool.and_eq_true, decide_eq_true_eq] at h <;> (try (cases h; done))
    simp only [tOk] at ht
    have k := (sndOrT es C tk (xa := xa) (pos := pos) h.1 (by
      have := (mEs_nos h.1).2
      omega) ht).pt
    refine PT.imp k fun s H Q q => ?_
    obtain ⟨Z, r, ow, S, env, fr, q⟩ := q
    simp only [evE] at q
    exact ⟨Z, r, ow, S, env, fr, q⟩
  | .cmp o a b, M, X, W, xa, e, C, tk, h, ht, k => by
    cases e <;> simp only [mE_cmp] at h <;> (try (cases h; done))
    rename_i l ops cs pos
    match ops, cs, h with
    | [op], [y], h =>
      simp only [Bool.and_eq_true] at h
      obtain ⟨⟨⟨h0, h1⟩, h2⟩, h3⟩ := h
      rw [copOf_eq h0]
      exact sndT_cmp C.hK C.u64 (sndR_help C h1 (sndE a C tk h1)) (sndR_help C h2 (sndE b C tk h2)) (mark_of h3 _)
    | [], _, h => simp at h
    | [_], [], h => simp at h
    | [_], _ :: _ :: _, h => simp at h
    | _ :: _ :: _, _, h => simp at h
  | .chn o p a b c, M, X, W, xa, e, C, tk, h, ht, k => by
    cases e <;> simp only [mE_chn] at h <;> (try (cases h; done))
    rename_i l ops cs pos
    match ops, cs, h with
    | [op, op'], [y, z], h =>
      simp only [Bool.and_eq_true] at h
      obtain ⟨⟨⟨⟨⟨⟨h0, h1⟩, h2⟩, h3⟩, h4⟩, h5⟩, h6⟩ := h
      rw [copOf_eq h0, copOf_eq h1]
      exact sndT_chn C.hK C.u64 (sndE a C tk h2) (sndE b C tk h3) (sndE c C tk h4) (last_marks h6)
    | [], _, h => simp at h
    | [_], _, h => simp at h
    | [_, _], [], h => simp at h
    | [_, _], [_], h => simp at h
    | [_, _], _ :: _ :: _ :: _, h => simp at h
    | _ :: _ :: _ :: _, _, h => simp at h
  | .var i, M, X, W, xa, e, C, tk, h, ht, k => sndT_val k (fun w => true_of (tOk_plain h ht (by simp) (by simp) (by simp) (by simp) (by simp) (by simp) (by simp)) w)
  | .cst i, M, X, W, xa, e, C, tk, h, ht, k => sndT_val k (fun w => true_of (tOk_plain h ht (by simp) (by simp) (by simp) (by simp) (by simp) (by simp) (by simp)) w)
  | .tup i, M, X, W, xa, e, C, tk, h, ht, k => sndT_val k (fun w => true_of (tOk_plain h ht (by simp) (by simp) (by simp) (by simp) (by simp) (by simp) (by simp)) w)
  | .lst i, M, X, W, xa, e, C, tk, h, ht, k => sndT_val k (fun w => true_of (tOk_plain h ht (by simp) (by simp) (by simp) (by simp) (by simp) (by simp) (by simp)) w)
  | .bin _ _ _, M, X, W, xa, e, C, tk, h, ht, k => sndT_val k (fun w => true_of (tOk_plain h ht (by simp) (by simp) (by simp) (by simp) (by simp) (by simp) (by simp)) w)
  | .neg _, M, X, W, xa, e, C, tk, h, ht, k => sndT_val k (fun w => true_of (tOk_plain h ht (by simp) (by simp) (by simp) (by simp) (by simp) (by simp) (by simp)) w)
  | .ite _ _ _, M, X, W, xa, e, C, tk, h, ht, k => by simp [tOk] at ht
  | .idx _ _, M, X, W, xa, e, C, tk, h, ht, k => sndT_val k (fun w => true_of (tOk_plain h ht (by simp) (by simp) (by simp) (by simp) (by simp) (by simp) (by simp)) w)
  | .slc _ _ _, M, X, W, xa, e, C, tk, h, ht, k => sndT_val k (fun w => true_of (tOk_plain h ht (by simp) (by simp) (by simp) (by simp) (by simp) (by simp) (by simp)) w)
  | .isi _ _, M, X, W, xa, e, C, tk, h, ht, k => sndT_val k (fun w => true_of (tOk_plain h ht (by simp) (by simp) (by simp) (by simp) (by simp) (by simp) (by simp)) w)
  | .call _ _ _ _, M, X, W, xa, e, C, tk, h, ht, k => sndT_val k (fun w => true_of (tOk_plain h ht (by simp) (by simp) (by simp) (by simp) (by simp) (by simp) (by simp)) w)
  | .drawn _ _ _, M, X, W, xa, e, C, tk, h, ht, k => sndT_val k (fun w => true_of (tOk_plain h ht (by simp) (by simp) (by simp) (by simp) (by simp) (by simp) (by simp)) w)
  | .blt _ _, M, X, W, xa, e, C, tk, h, ht, k => sndT_val k (fun w => true_of (tOk_plain h ht (by simp) (by simp) (by simp) (by simp) (by simp) (by simp) (by simp)) w)
  | .rng _, M, X, W, xa, e, C, tk, h, ht, k => sndT_val k (fun w => true_of (tOk_plain h ht (by simp) (by simp) (by simp) (by simp) (by simp) (by simp) (by simp)) w)
  | .zip _ _, M, X, W, xa, e, C, tk, h, ht, k => sndT_val k (fun w => true_of (tOk_plain h ht (by simp) (by simp) (by simp) (by simp) (by simp) (by simp) (by simp)) w)
  | .enm _, M, X, W, xa, e, C, tk, h, ht, k => sndT_val k (fun w => true_of (tOk_plain h ht (by simp) (by simp) (by simp) (by simp) (by simp) (by simp) (by simp)) w)
  | .lc _ _ _ _, M, X, W, xa, e, C, tk, h, ht, k => sndT_val k (fun w => true_of (tOk_plain h ht (by simp) (by simp) (by simp) (by simp) (by simp) (by simp) (by simp)) w)
  | .efld _ _, M, X, W, xa, e, C, tk, h, ht, k => sndT_val k (fun w => true_of (tOk_plain h ht (by simp) (by simp) (by simp) (by simp) (by simp) (by simp) (by simp)) w)
  | .eis _ _, M, X, W, xa, e, C, tk, h, ht, k => sndT_val k (fun w => true_of (tOk_plain h ht (by simp) (by simp) (by simp) (by simp) (by simp) (by simp) (by simp)) w)
  | .rev _, M, X, W, xa, e, C, tk, h, ht, k => sndT_val k (fun w => true_of (tOk_plain h ht (by simp) (by simp) (by simp) (by simp) (by simp) (by simp) (by simp)) w)
  | .lrng _, M, X, W, xa, e, C, tk, h, ht, k => sndT_val k (fun w => true_of (tOk_plain h ht (by simp) (by simp) (by simp) (by simp) (by simp) (by simp) (by simp)) w)
  | .mth _ _ _, M, X, W, xa, e, C, tk, h, ht, k => sndT_val k (fun w => true_of (tOk_plain h ht (by simp) (by simp) (by simp) (by simp) (by simp) (by simp) (by simp)) w)
  | .sset _, M, X, W, xa, e, C, tk, h, ht, k => sndT_val k (fun w => true_of (tOk_plain h ht (by simp) (by simp) (by simp) (by simp) (by simp) (by simp) (by simp)) w)
  | .lset _, M, X, W, xa, e, C, tk, h, ht, k => sndT_val k (fun w => true_of (tOk_plain h ht (by simp) (by simp) (by simp) (by simp) (by simp) (by simp) (by simp)) w)
  | .lc2 _ _ _ _ _ _, M, X, W, xa, e, C, tk, h, ht, k => sndT_val k (fun w => true_of (tOk_plain h ht (by simp) (by simp) (by simp) (by simp) (by simp) (by simp) (by simp)) w)
  | .fld _ _, M, X, W, xa, e, C, tk, h, ht, k => sndT_val k (fun w => true_of (tOk_plain h ht (by simp) (by simp) (by simp) (by simp) (by simp) (by simp) (by simp)) w)
  | .meth _ _ _ _ _ _, M, X, W, xa, e, C, tk, h, ht, k => sndT_val k (fun w => true_of (tOk_plain h ht (by simp) (by simp) (by simp) (by simp) (by simp) (by simp) (by simp)) w)
  | .mk _ _ _ _ _, M, X, W, xa, e, C, tk, h, ht, k => sndT_val k (fun w => true_of (tOk_plain h ht (by simp) (by simp) (by simp) (by simp) (by simp) (by simp) (by simp)) w)
  | .new _, M, X, W, xa, e, C, tk, h, ht, k => sndT_val k (fun w => true_of (tOk_plain h ht (by simp) (by simp) (by simp) (by simp) (by simp) (by simp) (by simp)) w)
  | .cpop _ _, M, X, W, xa, e, C, tk, h, ht, k => sndT_val k (fun w => true_of (tOk_plain h ht (by simp) (by simp) (by simp) (by simp) (by simp) (by simp) (by simp)) w)
  | .binC _ _ _, M, X, W, xa, e, C, tk, h, ht, k => sndT_val k (fun w => true_of (tOk_plain h ht (by simp) (by simp) (by simp) (by simp) (by simp) (by simp) (by simp)) w)
  | .idxC _ _, M, X, W, xa, e, C, tk, h, ht, k => sndT_val k (fun w => true_of (tOk_plain h ht (by simp) (by simp) (by simp) (by simp) (by simp) (by simp) (by simp)) w)
  | .slcC _ _ _, M, X, W, xa, e, C, tk, h, ht, k => sndT_val k (fun w => true_of (tOk_plain h ht (by simp) (by simp) (by simp) (by simp) (by simp) (by simp) (by simp)) w)
  | .bltC _ _, M, X, W, xa, e, C, tk, h, ht, k => sndT_val k (fun w => true_of (tOk_plain h ht (by simp) (by simp) (by simp) (by simp) (by simp) (by simp) (by simp)) w)
  | .ilen _ _ _, M, X, W, xa, e, C, tk, h, ht, k => sndT_val k (fun w => true_of (tOk_plain h ht (by simp) (by simp) (by simp) (by simp) (by simp) (by simp) (by simp)) w)
  | .dget _ _, M, X, W, xa, e, C, tk, h, ht, k => sndT_val k (fun w => true_of (tOk_plain h ht (by simp) (by simp) (by simp) (by simp) (by simp) (by simp) (by simp)) w)
  | .dnew _, M, X, W, xa, e, C, tk, h, ht, k => sndT_val k (fun w => true_of (tOk_plain h ht (by simp) (by simp) (by simp) (by simp) (by simp) (by simp) (by simp)) w)
  | .ddsp _, M, X, W, xa, e, C, tk, h, ht, k => sndT_val k (fun w => true_of (tOk_plain h ht (by simp) (by simp) (by simp) (by simp) (by simp) (by simp) (by simp)) w)
  | .dcp _, M, X, W, xa, e, C, tk, h, ht, k => sndT_val k (fun w => true_of (tOk_plain h ht (by simp) (by simp) (by simp) (by simp) (by simp) (by simp) (by simp)) w)
  | .cmpC o a b, M, X, W, xa, e, C, tk, h, ht, k => by
    rw [mE_cmpC] at h
    split at h
    · simp only [Bool.and_eq_true] at h
      obtain ⟨⟨⟨h0, h1⟩, h2⟩, h3⟩ := h
      rw [copOf_eq h0]
      exact sndT_cmpC C.hK C.u64 (sndE a C tk h1) (sndE b C tk h2) (mark_of h3 _)
    · cases h
  | .din neg a b, M, X, W, xa, e, C, tk, h, ht, k => by
    rw [mE_din] at h
    split at h
    · simp only [Bool.and_eq_true] at h
      obtain ⟨⟨⟨h0, h1⟩, h2⟩, h3⟩ := h
      rw [inOp_eq h0]
      exact sndT_din (by have := C.un; omega) (sndE a C tk h1) (sndE b C tk h2) (fun op => mark_of h3 op)
    · cases h
termination_by x => sizeOf x
theorem sndAndT : ∀ (xs : List Ex) {M : Mc} {X : L2.Cx} {W : WX} {xa : XA} {es : List Expr} {pos : Pos}, CxOk L M X → L2.Takes X W → mEs xs M es = true → 1 ≤ xs.length → tOks xs = true → L2.PW X (.BoolOp .And es pos) (rdAndT L xa W (evAnd L.F) xs)
  | [], M, X, W, xa, _, pos, C, tk, h, hl, ht => by simp at hl
  | _ :: _, M, X, W, xa, [], pos, C, tk, h, hl, ht => by simp [mEs_nil, mEs_cons] at h
  | [x], M, X, W, xa, [e], pos, C, tk, h, hl, ht => by
    simp only [mEs_nil, mEs_cons, Bool.and_eq_true] at h
    simp only [tOks, Bool.and_eq_true] at ht
    exact sndT_andone (by funext env S; simp [evAnd]) (sndT x C tk h.1.1 ht.1 (sndE x C tk h.1.1))
  | [x], M, X, W, xa, _ :: _ :: _, pos, C, tk, h, hl, ht => by simp [mEs_nil, mEs_cons] at h
  | _ :: _ :: _, M, X, W, xa, [_], pos, C, tk, h, hl, ht => by simp [mEs_nil, mEs_cons] at h
  | x :: y :: xs, M, X, W, xa, e :: e1 :: es, pos, C, tk, h, hl, ht => by
    simp only [mEs_nil, mEs_cons, Bool.and_eq_true] at h
    have ht1 : tOk x = true ∧ tOks (y :: xs) = true := by simpa only [tOks, Bool.and_eq_true] using ht
    exact sndT_and2 (sndT x C tk h.1.1 ht1.1 (sndE x C tk h.1.1)) (sndAndT (y :: xs) C tk (by simp only [mEs_nil, mEs_cons, Bool.and_eq_true]; exact h.2) (by simp) ht1.2)
termination_by xs => sizeOf xs
theorem sndOrT : ∀ (xs : List Ex) {M : Mc} {X : L2.Cx} {W : WX} {xa : XA} {es : List Expr} {pos : Pos}, CxOk L M X → L2.Takes X W → mEs xs M es = true → 1 ≤ xs.length → tOks xs = true → L2.PW X (.BoolOp .Or es pos) (rdAndT L xa W (evOr L.F) xs)
  | [], M, X, W, xa, _, pos, C, tk, h, hl, ht => by simp at hl
  | _ :: _, M, X, W, xa, [], pos, C, tk, h, hl, ht => by simp [mEs_nil, mEs_cons] at h
  | [x], M, X, W, xa, [e], pos, C, tk, h, hl, ht => by
    simp only [mEs_nil, mEs_cons, Bool.and_eq_true] at h
    simp only [tOks, Bool.and_eq_true] at ht
    exact sndT_orone (by funext env S; simp [evOr]) (sndT x C tk h.1.1 ht.1 (sndE x C tk h.1.1))
  | [x], M, X, W, xa, _ :: _ :: _, pos, C, tk, h, hl, ht => by simp [mEs_nil, mEs_cons] at h
  | _ :: _ :: _, M, X, W, xa, [_], pos, C, tk, h, hl, ht => by simp [mEs_nil, mEs_cons] at h
  | x :: y :: xs, M, X, W, xa, e :: e1 :: es, pos, C, tk, h, hl, ht => by
    simp only [mEs_nil, mEs_cons, Bool.and_eq_true] at h
    have ht1 : tOk x = true ∧ tOks (y :: xs) = true := by simpa only [tOks, Bool.and_eq_true] using ht
    exact sndT_or2 (sndT x C tk h.1.1 ht1.1 (sndE x C tk h.1.1)) (sndOrT (y :: xs) C tk (by simp only [mEs_nil, mEs_cons, Bool.and_eq_true]; exact h.2) (by simp) ht1.2)
termination_by xs => sizeOf xs
theorem sndEs : ∀ (xs : List Ex) {M : Mc} {X : L2.Cx} {W : WX} {xa : XA} {es : List Expr}, CxOk L M X → L2.Takes X W → mEs xs M es = true → PA X es (rdEs L xa W xs)
  | [], M, X, W, xa, [], C, tk, h => snd_es_nil
  | [], M, X, W, xa, _ :: _, C, tk, h => by simp [mEs_nil, mEs_cons] at h
  | _ :: _, M, X, W, xa, [], C, tk, h => by simp [mEs_nil, mEs_cons] at h
  | x :: xs, M, X, W, xa, e :: es, C, tk, h => by
    simp only [mEs_nil, mEs_cons, Bool.and_eq_true] at h
    exact snd_es_cons (sndE x C tk h.1.1) (sndEs xs C tk h.2) (star_of h.1.2 es _)
termination_by xs => sizeOf xs
theorem sndRs : ∀ (xs : List Ex) {M : Mc} {X : L2.Cx} {W : WX} {xa : XA} {es : List Expr}, CxOk L M X → L2.Takes X W → mEs xs M es = true → PA X es (rdRs L xa W xs)
  | [], M, X, W, xa, [], C, tk, h => snd_rs_nil
  | [], M, X, W, xa, _ :: _, C, tk, h => by simp [mEs_nil, mEs_cons] at h
  | _ :: _, M, X, W, xa, [], C, tk, h => by simp [mEs_nil, mEs_cons] at h
  | x :: xs, M, X, W, xa, e :: es, C, tk, h => by
    simp only [mEs_nil, mEs_cons, Bool.and_eq_true] at h
    exact snd_rs_cons (sndR_help C h.1.1 (sndE x C tk h.1.1)) (sndRs xs C tk h.2) (star_of h.1.2 es _)
termination_by xs => sizeOf xs
theorem sndKs : ∀ (xs : List Ex) {M : Mc} {X : L2.Cx} {W : WX} {xa : XA} {kws : List Keyword}, CxOk L M X → L2.Takes X W → mEs xs M (kwVals kws) = true → L2.PK X kws (rdEs L xa W xs)
  | [], M, X, W, xa, [], C, tk, h => snd_ks_nil
  | [], M, X, W, xa, ⟨_, _, _⟩ :: _, C, tk, h => by simp [mEs_nil, mEs_cons, kwVals] at h
  | _ :: _, M, X, W, xa, [], C, tk, h => by simp [mEs_nil, mEs_cons, kwVals] at h
  | x :: xs, M, X, W, xa, ⟨n, e, p⟩ :: es, C, tk, h => by
    simp only [mEs_nil, mEs_cons, kwVals, Bool.and_eq_true] at h
    exact snd_ks_cons (sndE x C tk h.1.1) (sndKs xs C tk h.2)
termination_by xs => sizeOf xs
theorem sndAnd : ∀ (xs : List Ex) {M : Mc} {X : L2.Cx} {W : WX} {xa : XA} {es : List Expr} {pos : Pos}, CxOk L M X → L2.Takes X W → mEs xs M es = true → 1 ≤ xs.length → PE X (.BoolOp .And es pos) (rdAnd L xa W (evAnd L.F) xs)
  | [], M, X, W, xa, _, pos, C, tk, h, hl => by simp at hl
  | _ :: _, M, X, W, xa, [], pos, C, tk, h, hl => by simp [mEs_nil, mEs_cons] at h
  | [x], M, X, W, xa, [e], pos, C, tk, h, hl => by
    simp only [mEs_nil, mEs_cons, Bool.and_eq_true] at h
    exact snd_one (by funext env S; simp [evAnd]) (sndE x C tk h.1.1)
  | [x], M, X, W, xa, _ :: _ :: _, pos, C, tk, h, hl => by simp [mEs_nil, mEs_cons] at h
  | _ :: _ :: _, M, X, W, xa, [_], pos, C, tk, h, hl => by simp [mEs_nil, mEs_cons] at h
  | x :: y :: xs, M, X, W, xa, e :: e1 :: es, pos, C, tk, h, hl => by
    have h' := h
    simp only [mEs_nil, mEs_cons, Bool.and_eq_true] at h
    exact snd_and2 (sndE x C tk h.1.1) (sndAnd (y :: xs) C tk (by simp only [mEs_nil, mEs_cons, Bool.and_eq_true]; exact h.2) (by simp))
termination_by xs => sizeOf xs
theorem sndOr : ∀ (xs : List Ex) {M : Mc} {X : L2.Cx} {W : WX} {xa : XA} {es : List Expr} {pos : Pos}, CxOk L M X → L2.Takes X W → mEs xs M es = true → 1 ≤ xs.length → PE X (.BoolOp .Or es pos) (rdAnd L xa W (evOr L.F) xs)
  | [], M, X, W, xa, _, pos, C, tk, h, hl => by simp at hl
  | _ :: _, M, X, W, xa, [], pos, C, tk, h, hl => by simp [mEs_nil, mEs_cons] at h
  | [x], M, X, W, xa, [e], pos, C, tk, h, hl => by
    simp only [mEs_nil, mEs_cons, Bool.and_eq_true] at h
    exact snd_one (by funext env S; simp [evOr]) (sndE x C tk h.1.1)
  | [x], M, X, W, xa, _ :: _ :: _, pos, C, tk, h, hl => by simp [mEs_nil, mEs_cons] at h
  | _ :: _ :: _, M, X, W, xa, [_], pos, C, tk, h, hl => by simp [mEs_nil, mEs_cons] at h
  | x :: y :: xs, M, X, W, xa, e :: e1 :: es, pos, C, tk, h, hl => by
    simp only [mEs_nil, mEs_cons, Bool.and_eq_true] at h
    exact snd_or2 (sndE x C tk h.1.1) (sndOr (y :: xs) C tk (by simp only [mEs_nil, mEs_cons, Bool.and_eq_true]; exact h.2) (by simp))
termination_by xs => sizeOf xs
end
end
end Mi

set_option maxRecDepth 100000
set_option maxHeartbeats 4000000
namespace Mi
open PySem PySem.Spec PyProof.Rows
open L2 (V Hp HO upd upd_same upd_ne Same SqL SqT Rd VK XK WX PE PT PA OpR CallR IxR SlR TE TT TA tOp Dp DpAll PI TI PG PGs TG TGs)

section
variable {L : Lt}
theorem lc_parts {el : Ex} {t : Tg} {it c : Ex} {M : Mc} {X : L2.Cx} {W : WX} {xa : XA} {e : Expr} (C : CxOk L M X) (tk : L2.Takes X W) (h : mE (.lc el t it c) M e = true) :
    ∃ n, (n = 0 → c = .cst (.bl true)) ∧ PE X e (L2.tLc (rdI L xa W true it) (rdG L xa t) (rdC L xa WN n c) (rdE L xa WN el) (slots t)) ∧
      ∀ (i : Nat) (y : Str) (py spos : Pos), X.N[i]? = some y → X.env.scope.names.lookup y = some .local → swapsWith e (some (.Name y py)) spos.line X.env = pure true →
        L2.PS X (.Assign [.Name y py] e spos) (L2.tAsg (L2.tLc (rdI L xa W true it) (rdG L xa t) (rdC L xa WN n c) (rdE L xa WN el) (slots t)) (L2.gName i)) := by
  rw [mE_lc] at h
  split at h
  case h_2 => cases h
  rename_i elt tg iter ifs scope pos
  simp only [Bool.and_eq_true] at h
  obtain ⟨⟨⟨⟨⟨h0, h1⟩, h2⟩, h3⟩, h4⟩, h5⟩ := h
  have bo := C.blkOk h0
  have B := fun s H Ca cl fp => C.blk bo.kind s H Ca cl fp
  have tn : ∀ {Y : L2.Cx}, L2.Takes Y WN := fun {Y} => L2.takes_none5
  have hpi : PI X tg iter (rdI L xa W true it) := by
    cases it with
    | rng es =>
      simp only at h5
      split at h5
      case h_2 => cases h5
      simp only [Bool.and_eq_true, beq_iff_eq, decide_eq_true_eq] at h5
      obtain ⟨⟨⟨rfl, g1⟩, g2⟩, g3⟩ := h5
      exact snd_rng C g1 g2 g3 (sndEs es C tk g2)
    | zip a b =>
      simp only at h5
      split at h5
      case h_2 => cases h5
      simp only [Bool.and_eq_true, beq_iff_eq] at h5
      obtain ⟨⟨⟨⟨⟨⟨rfl, g1⟩, g2⟩, g3⟩, g4⟩, g5⟩, g6⟩ := h5
      obtain ⟨elts, kk, tpos, rfl⟩ := tup_of g6
      exact snd_pi_zip C.hK (C.glb g1).1 (C.bn _ (by simp [bnames])) (sndR_help C g2 (sndE a C tk g2)) (sndR_help C g3 (sndE b C tk g3)) (star_of g4 _ _) (star_of g5 [] _)
    | enm a =>
      simp only at h5
      split at h5
      case h_2 => cases h5
      simp only [Bool.and_eq_true, beq_iff_eq] at h5
      obtain ⟨⟨⟨⟨rfl, g1⟩, g2⟩, g3⟩, g4⟩ := h5
      obtain ⟨elts, kk, tpos, rfl⟩ := tup_of g4
      exact snd_pi_enm C.hK (C.glb g1).1 (C.bn _ (by simp [bnames])) (sndR_help C g2 (sndE a C tk g2)) (star_of g3 [] _)
    | var i => exact snd_pi_pk C.hK (sndR_help C h5 (sndE _ C tk h5))
    | cst d => exact snd_pi_pk C.hK (sndR_help C h5 (sndE _ C tk h5))
    | tup es => exact snd_pi_pk C.hK (sndR_help C h5 (sndE _ C tk h5))
    | lst es => exact snd_pi_pk C.hK (sndR_help C h5 (sndE _ C tk h5))
    | bin o a b => exact snd_pi_pk C.hK (sndR_help C h5 (sndE _ C tk h5))
    | neg a => exact snd_pi_pk C.hK (sndR_help C h5 (sndE _ C tk h5))
    | not a => exact snd_pi_pk C.hK (sndR_help C h5 (sndE _ C tk h5))
    | cmp o a b => exact snd_pi_pk C.hK (sndR_help C h5 (sndE _ C tk h5))
    | chn o p a b c => exact snd_pi_pk C.hK (sndR_help C h5 (sndE _ C tk h5))
    | and es => exact snd_pi_pk C.hK (sndR_help C h5 (sndE _ C tk h5))
    | or es => exact snd_pi_pk C.hK (sndR_help C h5 (sndE _ C tk h5))
    | ite c a b => exact snd_pi_pk C.hK (sndR_help C h5 (sndE _ C tk h5))
    | idx a i => exact snd_pi_pk C.hK (sndR_help C h5 (sndE _ C tk h5))
    | slc a lo hi => exact snd_pi_pk C.hK (sndR_help C h5 (sndE _ C tk h5))
    | isi a k => exact snd_pi_pk C.hK (sndR_help C h5 (sndE _ C tk h5))
    | call f es ks bs => exact snd_pi_pk C.hK (sndR_help C h5 (sndE _ C tk h5))
    | drawn i k m => exact snd_pi_pk C.hK (sndR_help C h5 (sndE _ C tk h5))
    | blt b es => exact snd_pi_pk C.hK (sndR_help C h5 (sndE _ C tk h5))
    | lc a b c d => exact snd_pi_pk C.hK (sndR_help C h5 (sndE _ C tk h5))
    | efld i j => exact snd_pi_pk C.hK (sndR_help C h5 (sndE _ C tk h5))
    | eis i c => exact snd_pi_pk C.hK (sndR_help C h5 (sndE _ C tk h5))
    | rev a => exact snd_pi_pk C.hK (sndR_help C h5 (sndE _ C tk h5))
    | lrng es => exact snd_pi_pk C.hK (sndR_help C h5 (sndE _ C tk h5))
    | mth m a b => exact snd_pi_pk C.hK (sndR_help C h5 (sndE _ C tk h5))
    | sset a => exact snd_pi_pk C.hK (sndR_help C h5 (sndE _ C tk h5))
    | lset a => exact snd_pi_pk C.hK (sndR_help C h5 (sndE _ C tk h5))
    | lc2 a1 a2 a3 a4 a5 a6 => exact snd_pi_pk C.hK (sndR_help C h5 (sndE _ C tk h5))
    | fld a b => exact snd_pi_pk C.hK (sndR_help C h5 (sndE _ C tk h5))
    | meth a1 a2 a3 a4 a5 a6 => exact snd_pi_pk C.hK (sndR_help C h5 (sndE _ C tk h5))
    | mk a1 a2 a3 a4 a5 => exact snd_pi_pk C.hK (sndR_help C h5 (sndE _ C tk h5))
    | new a => exact snd_pi_pk C.hK (sndR_help C h5 (sndE _ C tk h5))
    | cpop a b => exact snd_pi_pk C.hK (sndR_help C h5 (sndE _ C tk h5))
    | cmpC a b c => exact snd_pi_pk C.hK (sndR_help C h5 (sndE _ C tk h5))
    | binC a b c => exact snd_pi_pk C.hK (sndR_help C h5 (sndE _ C tk h5))
    | idxC a b => exact snd_pi_pk C.hK (sndR_help C h5 (sndE _ C tk h5))
    | slcC a b c => exact snd_pi_pk C.hK (sndR_help C h5 (sndE _ C tk h5))
    | bltC a b => exact snd_pi_pk C.hK (sndR_help C h5 (sndE _ C tk h5))
    | ilen a b c => exact snd_pi_pk C.hK (sndR_help C h5 (sndE _ C tk h5))
    | dget a b => exact snd_pi_pk C.hK (sndR_help C h5 (sndE _ C tk h5))
    | din a b c => exact snd_pi_pk C.hK (sndR_help C h5 (sndE _ C tk h5))
    | dnew a => exact snd_pi_pk C.hK (sndR_help C h5 (sndE _ C tk h5))
    | ddsp a => exact snd_pi_pk C.hK (sndR_help C h5 (sndE _ C tk h5))
    | dcp a => exact snd_pi_pk C.hK (sndR_help C h5 (sndE _ C tk h5))
  have hc : ∃ n, (n = 0 → c = .cst (.bl true)) ∧ ∀ s H Ca cl fp, L2.PTs (X.blk s H scope (compEnvC scope cl Ca X.env) fp) ifs (rdC L xa WN n c) := by
    match ifs, h4 with
    | [], h4 =>
      refine ⟨0, fun _ => ?_, fun s H Ca cl fp => snd_pts (.inl ⟨rfl, rfl⟩)⟩
      exact isTT_eq h4
    | [c'], h4 =>
      simp only [Bool.and_eq_true] at h4
      exact ⟨1, fun z => absurd z (by decide), fun s H Ca cl fp => snd_pts (.inr ⟨c', rfl, rfl, sndT c (B s H Ca cl fp) tn h4.1 h4.2 (sndE c (B s H Ca cl fp) tn h4.1)⟩)⟩
    | _ :: _ :: _, h4 => simp at h4
  obtain ⟨n, hn, hts⟩ := hc
  refine ⟨n, hn, ?_⟩
  have := L2.pe_lc (own := ownOf M.N (slots t)) (pos := pos) C.calm C.nd hpi bo (fun s H Ca cl fp => (sndG (xa := xa) t (B s H Ca cl fp) h2).1) hts (fun s H Ca cl fp => sndE (xa := xa) el (B s H Ca cl fp) tn h3) (fun x => fold_of h1 _ x)
  rw [ownOf_snd] at this
  refine ⟨this, fun i y py spos hi hl hsw => ?_⟩
  have := L2.ps_setLc (own := ownOf M.N (slots t)) (pos := pos) (py := py) C.calm C.nd hi hl hsw hpi bo (fun s H Ca cl fp => (sndG (xa := xa) t (B s H Ca cl fp) h2).1) hts (fun s H Ca cl fp => sndE (xa := xa) el (B s H Ca cl fp) tn h3) (fun x => fold_of h1 _ x)
  rw [ownOf_snd] at this
  exact this
theorem sndF : ∀ (x : Ex) {M : Mc} {X : L2.Cx} {W : WX} {xa : XA} {e : Expr}, isFresh x = true → CxOk L M X → L2.Takes X W → mE x M e = true → PE X e (rdF L xa W x)
  | .lst es, M, X, W, xa, e, hf, C, tk, h => by
    cases e <;> simp only [mE_lst] at h <;> (try (cases h; done))
    exact sndF_lst (sndEs es C tk h)
  | .lc el t it c, M, X, W, xa, e, hf, C, tk, h => by
    obtain ⟨n, hn, k, _⟩ := lc_parts (xa := xa) C tk h
    exact PE.imp k fun s H Q q => lc_readF hn q
  | .bin o a b, M, X, W, xa, e, hf, C, tk, h => by
    cases o <;> simp only [isFresh] at hf <;> (try (cases hf; done))
    cases e <;> simp only [mE_bin] at h <;> (try (cases h; done))
    simp only [Bool.and_eq_true] at h
    obtain ⟨⟨h0, h1⟩, h2⟩ := h
    rw [opOf_eq h0]
    exact sndF_add C.hK (sndR_help C h1 (sndE a C tk h1)) (sndR_help C h2 (sndE b C tk h2))
  | .blt b es, M, X, W, xa, e, hf, C, tk, h => by
    have hb : b = .list ∨ b = .sorted := by cases b <;> simp [isFresh] at hf <;> simp
    rw [mE_blt] at h
    split at h
    case h_2 => cases h
    rename_i f p x xs pos
    simp only [Bool.and_eq_true, beq_iff_eq] at h
    obtain ⟨⟨h0, h1⟩, h2⟩ := h
    subst h0
    obtain ⟨n1, n2⟩ := mEs_nos h2
    simp only [List.all_cons, Bool.and_eq_true] at n1
    exact sndF_blt hb C.hK C.calm (by have := C.un; omega) (C.glb h1).1 (C.bn _ (by rcases hb with rfl | rfl <;> simp [bnames, bltName])) (sndRs es C tk h2) (fun es => star_of n1.1 es _) (back_any n1.2)
  | .ite c a b, M, X, W, xa, e, hf, C, tk, h => by
    simp only [isFresh, Bool.and_eq_true] at hf
    cases e <;> simp only [mE_ite] at h <;> (try (cases h; done))
    simp only [Bool.and_eq_true] at h
    obtain ⟨⟨⟨h0, h1⟩, h2⟩, h3⟩ := h
    exact sndF_ite (sndT c C tk h0 h1 (sndE c C tk h0)) (sndF a hf.1 C tk h2) (sndF b hf.2 C tk h3)
  | .var _, M, X, W, xa, e, hf, C, tk, h => by simp [isFresh] at hf
  | .cst _, M, X, W, xa, e, hf, C, tk, h => by simp [isFresh] at hf
  | .tup _, M, X, W, xa, e, hf, C, tk, h => by simp [isFresh] at hf
  | .neg _, M, X, W, xa, e, hf, C, tk, h => by simp [isFresh] at hf
  | .not _, M, X, W, xa, e, hf, C, tk, h => by simp [isFresh] at hf
  | .cmp _ _ _, M, X, W, xa, e, hf, C, tk, h => by simp [isFresh] at hf
  | .chn _ _ _ _ _, M, X, W, xa, e, hf, C, tk, h => by simp [isFresh] at hf
  | .and _, M, X, W, xa, e, hf, C, tk, h => by simp [isFresh] at hf
  | .or _, M, X, W, xa, e, hf, C, tk, h => by simp [isFresh] at hf
  | .idx _ _, M, X, W, xa, e, hf, C, tk, h => by simp [isFresh] at hf
  | .slc _ _ _, M, X, W, xa, e, hf, C, tk, h => by simp [isFresh] at hf
  | .isi _ _, M, X, W, xa, e, hf, C, tk, h => by simp [isFresh] at hf
  | .call _ _ _ _, M, X, W, xa, e, hf, C, tk, h => by simp [isFresh] at hf
  | .drawn _ _ _, M, X, W, xa, e, hf, C, tk, h => by simp [isFresh] at hf
  | .rng _, M, X, W, xa, e, hf, C, tk, h => by simp [isFresh] at hf
  | .zip _ _, M, X, W, xa, e, hf, C, tk, h => by simp [isFresh] at hf
  | .enm _, M, X, W, xa, e, hf, C, tk, h => by simp [isFresh] at hf
  | .efld _ _, M, X, W, xa, e, hf, C, tk, h => by simp [isFresh] at hf
  | .eis _ _, M, X, W, xa, e, hf, C, tk, h => by simp [isFresh] at hf
  | .rev _, M, X, W, xa, e, hf, C, tk, h => by simp [isFresh] at hf
  | .lrng _, M, X, W, xa, e, hf, C, tk, h => by simp [isFresh] at hf
  | .mth _ _ _, M, X, W, xa, e, hf, C, tk, h => by simp [isFresh] at hf
  | .sset _, M, X, W, xa, e, hf, C, tk, h => by simp [isFresh] at hf
  | .lset _, M, X, W, xa, e, hf, C, tk, h => by simp [isFresh] at hf
  | .lc2 _ _ _ _ _ _, M, X, W, xa, e, hf, C, tk, h => by simp [isFresh] at hf
  | .fld _ _, M, X, W, xa, e, hf, C, tk, h => by simp [isFresh] at hf
  | .meth _ _ _ _ _ _, M, X, W, xa, e, hf, C, tk, h => by simp [isFresh] at hf
  | .mk _ _ _ _ _, M, X, W, xa, e, hf, C, tk, h => by simp [isFresh] at hf
  | .new _, M, X, W, xa, e, hf, C, tk, h => by simp [isFresh] at hf
  | .cpop _ _, M, X, W, xa, e, hf, C, tk, h => by simp [isFresh] at hf
  | .cmpC _ _ _, M, X, W, xa, e, hf, C, tk, h => by simp [isFresh] at hf
  | .binC _ _ _, M, X, W, xa, e, hf, C, tk, h => by simp [isFresh] at hf
  | .idxC _ _, M, X, W, xa, e, hf, C, tk, h => by simp [isFresh] at hf
  | .slcC _ _ _, M, X, W, xa, e, hf, C, tk, h => by simp [isFresh] at hf
  | .bltC _ _, M, X, W, xa, e, hf, C, tk, h => by simp [isFresh] at hf
  | .ilen _ _ _, M, X, W, xa, e, hf, C, tk, h => by simp [isFresh] at hf
  | .dget _ _, M, X, W, xa, e, hf, C, tk, h => by simp [isFresh] at hf
  | .din _ _ _, M, X, W, xa, e, hf, C, tk, h => by simp [isFresh] at hf
  | .dnew _, M, X, W, xa, e, hf, C, tk, h => by simp [isFresh] at hf
  | .ddsp _, M, X, W, xa, e, hf, C, tk, h => by simp [isFresh] at hf
  | .dcp _, M, X, W, xa, e, hf, C, tk, h => by simp [isFresh] at hf
end
end Mi

set_option maxRecDepth 100000
set_option maxHeartbeats 4000000
namespace Mi
open PySem PySem.Spec PyProof.Rows
open L2 (V Hp HO upd upd_same upd_ne Same SqL SqT Rd VK XK WX PE PT PA OpR CallR IxR SlR TE TT TA tOp Dp DpAll PI TI PG PGs TG TGs PS PSs TS)

structure SSt (Z : Addr → Prop) (r : List Addr) (ow : Nat → Option Addr) (H : Hp) (r' : List Addr) (ow' : Nat → Option Addr) (H' : Hp) : Prop where
  pre : ∀ (n : Nat) a, r[n]? = some a → r'[n]? = some a
  keep : ∀ a o, H a = some o → ¬ BB Z r ow a → H' a = some o
  zk : ∀ a o, H a = some o → Z a → H' a = some o
  tups : ∀ a xs, H a = some (.tup xs) → H' a = some (.tup xs)
  frzs : ∀ a o u, H a = some (.frz o u) → H' a = some (.frz o u)
  some_ : ∀ a o, H a = some o → ∃ o', H' a = some o'
  newr : ∀ a, a ∈ r' → a ∈ r ∨ H a = none
  newo : ∀ i a, ow' i = some a → (∃ j, ow j = some a) ∨ H a = none
section
variable {Z : Addr → Prop} {r r1 r' : List Addr} {ow ow1 ow' : Nat → Option Addr} {H H1 H' : Hp} {G : Gd} {xc : Xc} {xa : XA} {S S' : Sto} {env : Env} {s : L2.St}
theorem SSt.refl : SSt Z r ow H r ow H := ⟨fun _ _ h => h, fun _ _ h _ => h, fun _ _ h _ => h, fun _ _ h => h, fun _ _ _ h => h, fun _ o h => ⟨o, h⟩, fun _ h => .inl h, fun i _ h => .inl ⟨i, h⟩⟩
theorem SSt.nb (t : SSt Z r ow H r' ow' H') {a : Addr} (h : BB Z r' ow' a) : BB Z r ow a ∨ H a = none := by
  rcases h with h | h | ⟨i, h⟩
  · exact .inl (.inl h)
  · rcases t.newr a h with h | h
    · exact .inl (.inr (.inl h))
    · exact .inr h
  · rcases t.newo i a h with h | h
    · exact .inl (.inr (.inr h))
    · exact .inr h
theorem SSt.trans (a : SSt Z r ow H r1 ow1 H1) (b : SSt Z r1 ow1 H1 r' ow' H') : SSt Z r ow H r' ow' H' where
  pre := fun n x h => b.pre n x (a.pre n x h)
  keep := fun x o h hn => b.keep x o (a.keep x o h hn) fun z => by
    rcases a.nb z with z | z
    · exact hn z
    · rw [h] at z; cases z
  zk := fun x o h hz => b.zk x o (a.zk x o h hz) hz
  tups := fun x xs h => b.tups x xs (a.tups x xs h)
  frzs := fun x o u h => b.frzs x o u (a.frzs x o u h)
  some_ := fun x o h => by
    obtain ⟨o1, h1⟩ := a.some_ x o h
    exact b.some_ x o1 h1
  newr := fun x hm => by
    rcases b.newr x hm with z | z
    · exact a.newr x z
    · refine .inr ?_
      cases e : H x with
      | none => rfl
      | some o =>
        obtain ⟨o', q⟩ := a.some_ x o e
        rw [q] at z; cases z
  newo := fun i x hm => by
    rcases b.newo i x hm with ⟨j, z⟩ | z
    · exact a.newo j x z
    · refine .inr ?_
      cases e : H x with
      | none => rfl
      | some o =>
        obtain ⟨o', q⟩ := a.some_ x o e
        rw [q] at z; cases z
theorem SSt.of (fr : Fr G xc xa Z r ow H S env s) (st : Stp H r H' r') : SSt Z r ow H r' ow H' where
  pre := st.pre
  keep := fun a o e n => st.keep a o e fun z => n (.inr (.inl z))
  zk := fun a o e z => st.keep a o e fun k => fr.zr a k z
  tups := st.tups
  frzs := st.frzs
  some_ := st.some_
  newr := st.new
  newo := fun i a h => .inl ⟨i, h⟩
theorem SSt.less (h : Less ow' ow) : SSt Z r ow H r ow' H := ⟨fun _ _ h => h, fun _ _ h _ => h, fun _ _ h _ => h, fun _ _ h => h, fun _ _ _ h => h, fun _ o h => ⟨o, h⟩, fun _ h => .inl h, fun i a e => by
  rcases h i with z | z
  · exact .inl ⟨i, z ▸ e⟩
  · rw [z] at e; cases e⟩
theorem SSt.rep (t : SSt Z r ow H r' ow' H') {d : D} {v : V} (h : Rep G H (BB Z r ow) r d v) : Rep G H' (BB Z r' ow') r' d v :=
  Rep.mono (fun a _ e n => t.keep a _ e n) t.tups t.frzs (fun a z => t.nb z) t.pre h
theorem SSt.reps (t : SSt Z r ow H r' ow' H') {d : List D} {v : List V} (h : Reps G H (BB Z r ow) r d v) : Reps G H' (BB Z r' ow') r' d v :=
  Reps.mono (fun a _ e n => t.keep a _ e n) t.tups t.frzs (fun a z => t.nb z) t.pre h
/-- seen from the def's beginning -/
theorem SSt.stp (t : SSt Z r no H r' ow' H') : Stp H r H' r' where
  pre := t.pre
  keep := fun a o e n => by
    by_cases z : Z a
    · exact t.zk a o e z
    · refine t.keep a o e fun k => ?_
      rcases k with k | k | ⟨_, k⟩
      · exact z k
      · exact n k
      · cases k
  tups := t.tups
  frzs := t.frzs
  new := t.newr
  some_ := t.some_
/-- a list of the frame's own -/
def set1 (ow : Nat → Option Addr) (i : Nat) (p : Addr) : Nat → Option Addr := fun j => if j = i then some p else ow j
theorem bb_set1 {i : Nat} {p a : Addr} (h : BB Z r (set1 ow i p) a) : BB (ZD Z p) r ow a := by
  rcases h with h | h | ⟨j, h⟩
  · exact .inl (.inl h)
  · exact .inr (.inl h)
  · unfold set1 at h
    split at h
    · cases h; exact .inl (.inr rfl)
    · exact .inr (.inr ⟨j, h⟩)
/-- the banned list becomes a slot's own -/
theorem Fr.adopt {p : Addr} {vs : List V} {xs : List D} {i : Nat} (fr : Fr G xc xa (ZD Z p) r ow H S env s) (hp : H p = some (.lst vs)) (hr : Reps G H (BB (ZD Z p) r ow) r xs vs) (hz : ¬ Z p) (hi : i < env.length) :
    Fr G xc xa Z r (set1 ow i p) H S (env.set i (.own xs)) (s.set i (some (.ref p))) where
  slot := fun j q e => by
    by_cases hj : j = i
    · subst hj
      rw [List.getElem?_set_self hi] at e
      cases e
      exact ⟨p, vs, if_pos rfl, List.getElem?_set_self (by rw [← fr.len]; exact hi), hp, hr.ban fun a z => bb_set1 z⟩
    · rw [List.getElem?_set_ne (Ne.symm hj)] at e
      have k := fr.slot j q e
      have es : (s.set i (some (V.ref p)))[j]? = s[j]? := List.getElem?_set_ne (Ne.symm hj)
      have eo : set1 ow i p j = ow j := if_neg hj
      cases q with
      | un => exact eo.trans k
      | fz d =>
        obtain ⟨h0, v, h1, h2⟩ := k
        exact ⟨eo.trans h0, v, es.trans h1, h2.ban fun a z => bb_set1 z⟩
      | own ys =>
        obtain ⟨a, ws, h1, h2, h3, h4⟩ := k
        exact ⟨a, ws, eo.trans h1, es.trans h2, h3, h4.ban fun a z => bb_set1 z⟩
      | exn c d =>
        obtain ⟨h0, a, cls, dd, h1, h2, h3⟩ := k
        exact ⟨eo.trans h0, a, cls, dd, h1, es.trans h2, h3.ban fun a z => bb_set1 z⟩
  out := fun j a e => by
    rw [List.length_set]
    unfold set1 at e
    split at e
    · rename_i h; rw [h]; exact hi
    · exact fr.out j a e
  inj := fun j k a e1 e2 => by
    unfold set1 at e1 e2
    split at e1
    · rename_i h1
      cases e1
      split at e2
      · rename_i h2; rw [h1, h2]
      · exact absurd (.inr rfl) (fr.dis k p e2).1
    · split at e2
      · cases e2
        exact absurd (.inr rfl) (fr.dis j p e1).1
      · exact fr.inj j k a e1 e2
  dis := fun j a e => by
    unfold set1 at e
    split at e
    · cases e
      exact ⟨hz, fun z => fr.zr p z (.inr rfl)⟩
    · exact ⟨fun z => (fr.dis j a e).1 (.inl z), (fr.dis j a e).2⟩
  zr := fun a ha z => fr.zr a ha (.inl z)
  al := fun a z => fr.al a (bb_set1 z)
  sto := fr.sto.ban fun a z => bb_set1 z
  len := by rw [List.length_set, List.length_set]; exact fr.len
  scr := fr.scr
  scf := fr.scf
theorem SSt.adopt {p : Addr} {o : HO} {i : Nat} (hp : H p = none) : SSt Z r ow H r (set1 ow i p) (upd H p o) where
  pre := fun _ _ h => h
  keep := fun a u e _ => by rw [upd_ne (L2.ne_of_none e hp)]; exact e
  zk := fun a u e _ => by rw [upd_ne (L2.ne_of_none e hp)]; exact e
  tups := fun a u e => by rw [upd_ne (L2.ne_of_none e hp)]; exact e
  frzs := fun a u w e => by rw [upd_ne (L2.ne_of_none e hp)]; exact e
  some_ := fun a u e => ⟨u, by rw [upd_ne (L2.ne_of_none e hp)]; exact e⟩
  newr := fun _ h => .inl h
  newo := fun j a e => by
    unfold set1 at e
    split at e
    · cases e; exact .inr hp
    · exact .inl ⟨j, e⟩
theorem Fr.fresh' (fr : Fr G xc xa Z r ow H S env s) {p : Addr} (hp : H p = none) : ¬ BB Z r ow p := fun z => by
  obtain ⟨o, e⟩ := fr.al p z
  rw [hp] at e; cases e
/-- the frame's own list is written -/
theorem SSt.wr (fr : Fr G xc xa Z r ow H S env s) {i : Nat} {p : Addr} (hi : ow i = some p) {old new : List V} (hp : H p = some (.lst old)) : SSt Z r ow H r ow (upd H p (.lst new)) where
  pre := fun _ _ h => h
  keep := fun a u e n => by rw [upd_ne (b := a) fun z => n (by rw [z]; exact .inr (.inr ⟨i, hi⟩))]; exact e
  zk := fun a u e z => by rw [upd_ne (b := a) fun k => (fr.dis i p hi).1 (by rw [← k]; exact z)]; exact e
  tups := fun a u e => by rw [upd_ne (L2.ne_of e hp (by intro z; cases z))]; exact e
  frzs := fun a u w e => by rw [upd_ne (L2.ne_of e hp (by intro z; cases z))]; exact e
  some_ := fun a u e => by
    by_cases h : a = p
    · rw [h]; exact ⟨_, upd_same⟩
    · exact ⟨u, by rw [upd_ne h]; exact e⟩
  newr := fun _ h => .inl h
  newo := fun j a e => .inl ⟨j, e⟩
theorem rep_wro {i : Nat} {p : Addr} (hi : ow i = some p) {old new : List V} (hp : H p = some (.lst old)) {d : D} {v : V} (h : Rep G H (BB Z r ow) r d v) : Rep G (upd H p (.lst new)) (BB Z r ow) r d v := by
  refine Rep.mono (fun a u e n => ?_) (fun a u e => ?_) (fun a u w e => ?_) (fun a z => .inl z) (fun _ _ e => e) h
  · rw [upd_ne (b := a) fun z => n (by rw [z]; exact .inr (.inr ⟨i, hi⟩))]; exact e
  · rw [upd_ne (L2.ne_of e hp (by intro z; cases z))]; exact e
  · rw [upd_ne (L2.ne_of e hp (by intro z; cases z))]; exact e
theorem reps_wro {i : Nat} {p : Addr} (hi : ow i = some p) {old new : List V} (hp : H p = some (.lst old)) {d : List D} {v : List V} (h : Reps G H (BB Z r ow) r d v) : Reps G (upd H p (.lst new)) (BB Z r ow) r d v := by
  refine Reps.mono (fun a u e n => ?_) (fun a u e => ?_) (fun a u w e => ?_) (fun a z => .inl z) (fun _ _ e => e) h
  · rw [upd_ne (b := a) fun z => n (by rw [z]; exact .inr (.inr ⟨i, hi⟩))]; exact e
  · rw [upd_ne (L2.ne_of e hp (by intro z; cases z))]; exact e
  · rw [upd_ne (L2.ne_of e hp (by intro z; cases z))]; exact e
theorem Fr.wro (fr : Fr G xc xa Z r ow H S env s) {i : Nat} {p : Addr} (hi : ow i = some p) {old new : List V} {xs : List D} (hp : H p = some (.lst old)) (hr : Reps G H (BB Z r ow) r xs new) : Fr G xc xa Z r ow (upd H p (.lst new)) S (env.set i (.own xs)) s where
  slot := fun j q e => by
    have hlt := fr.out i p hi
    by_cases hj : j = i
    · subst hj
      rw [List.getElem?_set_self hlt] at e
      cases e
      have k := fr.slot j _ (List.getElem?_eq_getElem hlt)
      have es : s[j]? = some (some (.ref p)) := by
        cases eq : env[j] with
        | un => rw [eq] at k; rw [k] at hi; cases hi
        | fz d => rw [eq] at k; rw [k.1] at hi; cases hi
        | exn c d => rw [eq] at k; rw [k.1] at hi; cases hi
        | own ys =>
          rw [eq] at k
          obtain ⟨a, ws, h1, h2, _⟩ := k
          rw [hi] at h1; cases h1
          exact h2
      exact ⟨p, new, hi, es, upd_same, reps_wro hi hp hr⟩
    · rw [List.getElem?_set_ne (Ne.symm hj)] at e
      have k := fr.slot j q e
      cases q with
      | un => exact k
      | fz d =>
        obtain ⟨h0, v, h1, h2⟩ := k
        exact ⟨h0, v, h1, rep_wro hi hp h2⟩
      | own ys =>
        obtain ⟨a, ws, h1, h2, h3, h4⟩ := k
        exact ⟨a, ws, h1, h2, by rw [upd_ne (b := a) fun (z : a = p) => hj (fr.inj j i p (by rw [← z]; exact h1) hi)]; exact h3, reps_wro hi hp h4⟩
      | exn c d =>
        obtain ⟨h0, a, cls, dd, h1, h2, C, e1, e2, h3⟩ := k
        refine ⟨h0, a, cls, dd, h1, h2, C, e1, e2, ?_⟩
        cases ef : xc.fld c with
        | none => rw [ef] at h3; exact h3
        | some f =>
          rw [ef] at h3
          obtain ⟨da, v, g1, g2, g3, g4⟩ := h3
          exact ⟨da, v, g1, g2, by rw [upd_ne (b := da) fun z => g2 (by rw [z]; exact .inr (.inr ⟨i, hi⟩))]; exact g3, rep_wro hi hp g4⟩
  out := fun j a e => by rw [List.length_set]; exact fr.out j a e
  inj := fr.inj
  dis := fr.dis
  zr := fr.zr
  al := fun a z => by
    by_cases h : a = p
    · rw [h]; exact ⟨_, upd_same⟩
    · rw [upd_ne h]; exact fr.al a z
  sto := StoR.mono (fun a u e n => by rw [upd_ne (b := a) fun z => n (.inr (.inr ⟨i, by rw [z]; exact hi⟩))]; exact e) (fun a u e => by rw [upd_ne (L2.ne_of e hp (by intro z; cases z))]; exact e) (fun a u w e => by rw [upd_ne (L2.ne_of e hp (by intro z; cases z))]; exact e) (fun a z => .inl z) (fun a ha u e => by rw [upd_ne (b := a) fun z => (fr.dis i p hi).2 (by rw [← z]; exact ha)]; exact e) fr.sto
  len := by rw [List.length_set]; exact fr.len
  scr := SqL.frz fr.scf (fun a u w e => by rw [upd_ne (L2.ne_of e hp (by intro z; cases z))]; exact e) fr.scr
  scf := by
    rcases fr.scf with ⟨o', u, e⟩ | k
    · exact .inl ⟨o', u, by rw [upd_ne (L2.ne_of e hp (by intro z; cases z))]; exact e⟩
    · exact .inr k
/-- a list of its own is frozen -/
theorem Fr.freeze (fr : Fr G xc xa Z r ow H S env s) {i : Nat} {xs : List D} (e : env[i]? = some (.own xs)) : Fr G xc xa Z r (drop1 ow i) H S (env.set i (.fz (.lst xs))) s := by
  obtain ⟨p, vs, h1, h2, h3, h4⟩ := fr.slot i _ e
  have hi : i < env.length := (List.getElem?_eq_some_iff.mp e).1
  have k := fr.put (p := .fz (.lst xs)) (o := some (.ref p)) hi fun s' es => ⟨by unfold drop1; rw [if_pos rfl], .ref p, es, by
    rw [Rep]
    refine ⟨p, vs, rfl, fun z => ?_, h3, h4.ban fun a z => (drop1_less i).bb z⟩
    rcases z with z | z | ⟨j, z⟩
    · exact (fr.dis i p h1).1 z
    · exact (fr.dis i p h1).2 z
    · unfold drop1 at z
      split at z
      · cases z
      · rename_i hj
        exact hj (fr.inj j i p z h1)⟩
  have hs : s.set i (some (.ref p)) = s := by
    have hl : i < s.length := by rw [← fr.len]; exact hi
    have : s[i] = some (.ref p) := by
      rw [List.getElem?_eq_getElem hl] at h2
      exact Option.some.inj h2
    conv => lhs; rw [← this]
    exact List.set_getElem_self hl
  rw [hs] at k
  exact k
end

def PostS (L : Lt) (xa : XA) (Z : Addr → Prop) (r : List Addr) (ow : Nat → Option Addr) (H : Hp) (E : L2.Ends) (W : WX) : SR → Prop
  | .ok (.nx env') S' => ∀ s' H' r' ow', SSt Z r ow H r' ow' H' → Fr L.G L.xc xa Z r' ow' H' S' env' s' → E.nx s' H'
  | .ok (.rt d) S' => ∀ v env' s' H' r' ow', SSt Z r ow H r' ow' H' → Fr L.G L.xc xa Z r' ow' H' S' env' s' → Rep L.G H' (BB Z r' ow') r' d v → E.rt v H'
  | .exc c d env' S' => ∀ cls dd s' H' r' ow', SSt Z r ow H r' ow' H' → Fr L.G L.xc xa Z r' ow' H' S' env' s' → ExR L.G L.xc H' (BB Z r' ow') r' c d cls dd → W cls dd s' H'
  | .stuck => False
def rdS (L : Lt) (xa : XA) (W : WX) (x : St) : TS := fun E s H => ∃ Z r ow S env, Fr L.G L.xc xa Z r ow H S env s ∧ PostS L xa Z r ow H E W (exS L.F L.wf x env S)
def rdSs (L : Lt) (xa : XA) (W : WX) (xs : List St) : TS := fun E s H => ∃ Z r ow S env, Fr L.G L.xc xa Z r ow H S env s ∧ PostS L xa Z r ow H E W (exSs L.F L.wf xs env S)
theorem PS.imp {X : L2.Cx} {e : Stmt} {t t' : TS} (h : PS X e t) (k : ∀ E s H, t' E s H → t E s H) : PS X e t' := ⟨fun pins s σ H E I q => h.run pins s σ H E I (k _ _ _ q)⟩
theorem PSs.imp {X : L2.Cx} {e : List Stmt} {t t' : TS} (h : PSs X e t) (k : ∀ E s H, t' E s H → t E s H) : PSs X e t' := ⟨fun pins s σ H E I q => h.run pins s σ H E I (k _ _ _ q)⟩
section
variable {L : Lt} {xa : XA} {Z : Addr → Prop} {r r1 : List Addr} {ow ow1 : Nat → Option Addr} {H H1 : Hp} {S S1 : Sto} {env : Env} {s : L2.St} {E : L2.Ends} {W : WX}
theorem PostS.from (t : SSt Z r ow H r1 ow1 H1) : ∀ {R : SR}, PostS L xa Z r ow H E W R → PostS L xa Z r1 ow1 H1 E W R
  | .ok (.nx _) _, h => fun s' H' r' ow' t' fr => h s' H' r' ow' (t.trans t') fr
  | .ok (.rt _) _, h => fun v env' s' H' r' ow' t' fr rp => h v env' s' H' r' ow' (t.trans t') fr rp
  | .exc _ _ _ _, h => fun cls dd s' H' r' ow' t' fr ex => h cls dd s' H' r' ow' (t.trans t') fr ex
  | .stuck, h => h
/-- an expression ahead -/
theorem rdE.stm {x : Ex} {k : D → Sto → SR} {Q : VK} (fr : Fr L.G L.xc xa Z r ow H S env s) (hp : PostS L xa Z r ow H E W (.of env (evE L.F x env S) k))
    (hok : ∀ d S', PostS L xa Z r ow H E W (k d S') → ∀ v H' r', Stp H r H' r' → Fr L.G L.xc xa Z r' ow H' S' env s → Rep L.G H' (BB Z r' ow) r' d v → Q v H') : rdE L xa W x s H Q := by
  refine ⟨Z, r, ow, S, env, fr, ?_⟩
  cases e : evE L.F x env S with
  | ok d S' => rw [e] at hp; exact hok d S' hp
  | exc c d S' => rw [e] at hp; exact fun cls dd H' r' st fr' ex => hp cls dd s H' r' ow (.of fr st) fr' ex
  | stuck => rw [e] at hp; exact hp.elim
theorem rdT.stm {x : Ex} {k : D → Sto → SR} {Q : Bool → Hp → Prop} (fr : Fr L.G L.xc xa Z r ow H S env s) (hp : PostS L xa Z r ow H E W (.of env (evE L.F x env S) k))
    (hok : ∀ d S', PostS L xa Z r ow H E W (k d S') → ∀ v H' r', Stp H r H' r' → Fr L.G L.xc xa Z r' ow H' S' env s → Rep L.G H' (BB Z r' ow) r' d v → ∃ b, v = .bl b ∧ Q b H') : rdT L xa W x s H Q := by
  refine ⟨Z, r, ow, S, env, fr, ?_⟩
  cases e : evE L.F x env S with
  | ok d S' => rw [e] at hp; exact hok d S' hp
  | exc c d S' => rw [e] at hp; exact fun cls dd H' r' st fr' ex => hp cls dd s H' r' ow (.of fr st) fr' ex
  | stuck => rw [e] at hp; exact hp.elim
theorem rdF.stm {x : Ex} {k : D → Sto → SR} {Q : VK} (fr : Fr L.G L.xc xa Z r ow H S env s) (hp : PostS L xa Z r ow H E W (.of env (evE L.F x env S) k)) (hl : ∀ d S', PostS L xa Z r ow H E W (k d S') → ∃ xs, d = .lst xs)
    (hok : ∀ xs S', PostS L xa Z r ow H E W (k (.lst xs) S') → ∀ p vs H' r', Stp H r H' r' → Fr L.G L.xc xa Z r' ow H' S' env s → H' p = none → Reps L.G H' (BB Z r' ow) r' xs vs → Q (.ref p) (upd H' p (.lst vs))) : rdF L xa W x s H Q := by
  refine ⟨Z, r, ow, S, env, fr, ?_⟩
  cases e : evE L.F x env S with
  | ok d S' =>
    rw [e] at hp
    obtain ⟨xs, rfl⟩ := hl d S' hp
    exact ⟨xs, rfl, hok xs S' hp⟩
  | exc c d S' => rw [e] at hp; exact fun cls dd H' r' st fr' ex => hp cls dd s H' r' ow (.of fr st) fr' ex
  | stuck => rw [e] at hp; exact hp.elim
theorem PostS.next {k : Env → Sto → SR} : ∀ {R : SR}, PostS L xa Z r ow H E W (R.next k) → PostS L xa Z r ow H { E with nx := fun s' H' => ∃ Z' r' ow' S' env', Fr L.G L.xc xa Z' r' ow' H' S' env' s' ∧ PostS L xa Z' r' ow' H' E W (k env' S') } W R
  | .ok (.nx env') S', h => fun s' H' r' ow' t fr => ⟨Z, r', ow', S', env', fr, PostS.from t h⟩
  | .ok (.rt _) _, h => h
  | .exc _ _ _ _, h => h
  | .stuck, h => h
end
section
variable {L : Lt} {xa : XA} {X : L2.Cx} {W : WX} {pos pos' p : Pos}
theorem sndSs_nil : PSs X [] (rdSs L xa W []) := by
  refine PSs.imp L2.pss_nil fun E s H q => ?_
  obtain ⟨Z, r, ow, S, env, fr, q⟩ := q
  simp only [exSs] at q
  exact q s H r ow .refl fr
theorem sndSs_cons {st : Stmt} {rest : List Stmt} {x : St} {xs : List St} (h1 : PS X st (rdS L xa W x)) (h2 : PSs X rest (rdSs L xa W xs)) : PSs X (st :: rest) (rdSs L xa W (x :: xs)) := by
  refine PSs.imp (L2.pss_cons h1 h2) fun E s H q => ?_
  obtain ⟨Z, r, ow, S, env, fr, q⟩ := q
  simp only [exSs] at q
  exact ⟨Z, r, ow, S, env, fr, PostS.next q⟩
theorem sndS_pass : PS X (.Pass pos) (rdS L xa W .pass) := by
  refine PS.imp L2.ps_pass fun E s H q => ?_
  obtain ⟨Z, r, ow, S, env, fr, q⟩ := q
  simp only [exS] at q
  exact q s H r ow .refl fr
theorem sndS_nvr {st : Stmt} : PS X st (rdS L xa W .nvr) := by
  refine PS.imp L2.ps_never fun E s H q => ?_
  obtain ⟨Z, r, ow, S, env, fr, q⟩ := q
  simp only [exS] at q
  exact q
theorem sndS_ret {e : Expr} {x : Ex} (h : PE X e (rdE L xa W x)) : PS X (.Return (some e) pos) (rdS L xa W (.ret x)) := by
  refine PS.imp (L2.ps_ret h) fun E s H q => ?_
  obtain ⟨Z, r, ow, S, env, fr, q⟩ := q
  simp only [exS] at q
  exact rdE.stm fr q fun d S' h v H' r' st fr' rp => h v env s H' r' ow (.of fr st) fr' rp
theorem sndS_exp {e : Expr} {x : Ex} (h : PE X e (rdE L xa W x)) (hs : swapsWith e none pos.line X.env = pure false) : PS X (.Expr e pos) (rdS L xa W (.exp x)) := by
  refine PS.imp (L2.ps_expr h hs) fun E s H q => ?_
  obtain ⟨Z, r, ow, S, env, fr, q⟩ := q
  simp only [exS] at q
  exact rdE.stm fr q fun d S' h v H' r' st fr' rp => h s H' r' ow (.of fr st) fr'
theorem sndS_ite {c : Expr} {a b : List Stmt} {x : Ex} {xs ys : List St} (hc : PT X c (rdT L xa W x)) (ha : PSs X a (rdSs L xa W xs)) (hb : PSs X b (rdSs L xa W ys)) : PS X (.If c a b pos) (rdS L xa W (.ite x xs ys)) := by
  refine PS.imp (L2.ps_if hc ha hb) fun E s H q => ?_
  obtain ⟨Z, r, ow, S, env, fr, q⟩ := q
  simp only [exS] at q
  refine rdT.stm fr q fun d S' h v H' r' st fr' rp => ?_
  cases d with
  | bl i =>
    rw [Rep] at rp
    refine ⟨i, rp, ?_⟩
    cases i with
    | false => rw [if_neg (by decide)]; exact ⟨Z, r', ow, S', env, fr', PostS.from (.of fr st) h⟩
    | true => rw [if_pos rfl]; exact ⟨Z, r', ow, S', env, fr', PostS.from (.of fr st) h⟩
  | _ => exact h.elim
/-- while: the fuel is the measure -/
theorem sndS_whl {c : Expr} {b : List Stmt} {x : Ex} {xs : List St} (hp : PassesOwn (model X.prog X.w) X.A X.env X.xe) (hc : PT X c (rdT L xa W x)) (hb : PSs X b (rdSs L xa W xs)) : PS X (.While c b [] pos) (rdS L xa W (.whl x xs)) := by
  refine PS.imp (L2.ps_while hp hc hb) fun E s H q => ?_
  obtain ⟨Z, r, ow, S, env, fr, q⟩ := q
  simp only [exS] at q
  refine ⟨fun m σ H' => ∃ Z r ow S env, Fr L.G L.xc xa Z r ow H' S env σ ∧ PostS L xa Z r ow H' E W (whlL (fun env S => evE L.F x env S) (fun env S => exSs L.F L.wf xs env S) m env S), ⟨L.wf, Z, r, ow, S, env, fr, q⟩, ?_⟩
  intro m σ H1 hw
  obtain ⟨Z, r, ow, S, env, fr, q⟩ := hw
  cases m with
  | zero => simp only [whlL] at q; exact q.elim
  | succ m =>
    simp only [whlL] at q
    refine rdT.stm fr q fun d S' h v H' r' st fr' rp => ?_
    cases d with
    | bl i =>
      rw [Rep] at rp
      refine ⟨i, rp, ?_⟩
      cases i with
      | false =>
        rw [if_neg (by decide)]
        exact h σ H' r' ow (.of fr st) fr'
      | true =>
        rw [if_pos rfl]
        refine ⟨_, fun σ' H'' z => ⟨m, Nat.lt_succ_self m, z⟩, Z, r', ow, S', env, fr', ?_⟩
        have := PostS.next (PostS.from (.of fr st) h)
        cases e : exSs L.F L.wf xs env S' with
        | ok f S'' =>
          rw [e] at this
          cases f with
          | nx env' => exact this
          | rt d => exact this
        | exc c d e' S'' => rw [e] at this; exact this
        | stuck => rw [e] at this; exact this
    | _ => exact h.elim
/-- a target takes the value -/
theorem sndS_set {tg e : Expr} {t : Tg} {x : Ex} (he : PE X e (rdE L xa W x)) (hg : PG X tg (rdG L xa t)) (hs : swapsWithSole [tg] e pos.line X.env = pure false) (hw : swappedStores [tg] e X.env = pure none) (h1 : (assignEach [tg] X.env).map (·.2) = [assign tg X.env]) :
    PS X (.Assign [tg] e pos) (rdS L xa W (.set t x)) := by
  refine PS.imp (L2.ps_asg he hg hs hw h1) fun E s H q => ?_
  obtain ⟨Z, r, ow, S, env, fr, q⟩ := q
  simp only [exS] at q
  refine rdE.stm fr q fun d S' h v H' r' st fr' rp => ?_
  cases ea : asg t d env with
  | none => rw [ea] at h; exact h.elim
  | some env' =>
    rw [ea] at h
    exact ⟨Z, r', ow, S', env, d, env', fr', rp, ea, fun s' ow' le _ fr'' _ => h s' H' r' ow' ((SSt.of fr st).trans (.less le)) fr''⟩
end
end Mi

set_option maxRecDepth 100000
set_option maxHeartbeats 4000000
namespace Mi
open PySem PySem.Spec PyProof.Rows
open L2 (V Hp HO upd upd_same upd_ne Same SqL SqT Rd VK XK WX PE PT PA OpR CallR IxR SlR TE TT TA tOp Dp DpAll PI TI PG PGs TG TGs PS PSs TS)

section
variable {L : Lt} {xa : XA} {X : L2.Cx} {W : WX} {pos pos' p : Pos}
theorem sndSs_frz {sts : List Stmt} {i : Nat} {xs : List St} (h : PSs X sts (rdSs L xa W xs)) : PSs X sts (rdSs L xa W (.frz i :: xs)) := by
  refine PSs.imp h fun E s H q => ?_
  obtain ⟨Z, r, ow, S, env, fr, q⟩ := q
  simp only [exSs, exS] at q
  cases e : env[i]? with
  | none => rw [e] at q; exact q.elim
  | some pl =>
    rw [e] at q
    cases pl with
    | un => exact q.elim
    | exn c d => exact q.elim
    | fz d => exact ⟨Z, r, ow, S, env, fr, q⟩
    | own ys => exact ⟨Z, r, _, S, _, fr.freeze e, PostS.from (.less (drop1_less i)) q⟩
/-- a name takes a frozen value -/
theorem sndS_name {x : Str} {e : Expr} {i : Nat} {y : Ex} {t : TE} (hlen : X.N[i]? = some x) (h : PS X (.Assign [.Name x pos'] e pos) (L2.tAsg t (L2.gName i))) (ht : ∀ s H Q, rdE L xa W y s H Q → t s H Q) (hl : ∀ E s H, rdS L xa W (.set (.v i) y) E s H → i < s.length) :
    PS X (.Assign [.Name x pos'] e pos) (rdS L xa W (.set (.v i) y)) := by
  refine PS.imp h fun E s H q => ?_
  have hi := hl E s H q
  obtain ⟨Z, r, ow, S, env, fr, q⟩ := q
  simp only [exS, asg] at q
  refine ht _ _ _ (rdE.stm fr q fun d S' h v H' r' st fr' rp => ?_)
  exact h _ H' r' _ ((SSt.of fr st).trans (.less (drop1_less i))) (fr'.putfz (by rw [fr'.len]; exact hi) rp)
theorem PS.inv {st : Stmt} {t : TS} (k : ∀ pins s σ H, L2.Inv X pins σ H s → PS X st t ∨ True) (h : (∀ pins s σ H, L2.Inv X pins σ H s → σ.length = X.N.length) → PS X st t) : PS X st t := h fun pins s σ H I => I.len
/-- the state is as long as the names -/
theorem PS.len {st : Stmt} {t : TS} (h : PS X st (fun E s H => s.length = X.N.length ∧ t E s H)) : PS X st t := ⟨fun pins s σ H E I q => h.run pins s σ H E I ⟨I.len, q⟩⟩
/-- a name takes a list of its own -/
theorem sndS_own {x : Str} {e : Expr} {i : Nat} {y : Ex} {t : TE} (hN : X.N[i]? = some x) (h : PS X (.Assign [.Name x pos'] e pos) (L2.tAsg t (L2.gName i))) (ht : ∀ s H Q, rdF L xa W y s H Q → t s H Q) : PS X (.Assign [.Name x pos'] e pos) (rdS L xa W (.own i y)) := by
  refine PS.len (PS.imp h fun E s H q => ?_)
  obtain ⟨hl, Z, r, ow, S, env, fr, q⟩ := q
  have hi : i < s.length := by rw [hl]; exact (List.getElem?_eq_some_iff.mp hN).1
  simp only [exS] at q
  refine ht _ _ _ (rdF.stm fr q (fun d S' h => ?_) fun xs S' h p vs H' r' st fr' hp rp => ?_)
  · cases d with
    | lst xs => exact ⟨xs, rfl⟩
    | _ => exact h.elim
  · exact h _ _ r' _ ((SSt.of fr st).trans (.adopt hp)) ((fr'.laidZ hp).adopt upd_same (reps_zd fr' hp rp) (fun z => fr'.fresh' hp (.inl z)) (by rw [fr'.len]; exact hi))
theorem sndS_set1 {x : Str} {e : Expr} {i : Nat} {y : Ex} {t : TE} (hN : X.N[i]? = some x) (h : PS X (.Assign [.Name x pos'] e pos) (L2.tAsg t (L2.gName i))) (ht : ∀ s H Q, rdE L xa W y s H Q → t s H Q) : PS X (.Assign [.Name x pos'] e pos) (rdS L xa W (.set (.v i) y)) := by
  refine PS.len (PS.imp h fun E s H q => ?_)
  obtain ⟨hl, Z, r, ow, S, env, fr, q⟩ := q
  have hi : i < s.length := by rw [hl]; exact (List.getElem?_eq_some_iff.mp hN).1
  simp only [exS, asg] at q
  refine ht _ _ _ (rdE.stm fr q fun d S' h v H' r' st fr' rp => ?_)
  exact h _ H' r' _ ((SSt.of fr st).trans (.less (drop1_less i))) (fr'.putfz (by rw [fr'.len]; exact hi) rp)
theorem own_at {G : Gd} {xc : Xc} {xa : XA} {Z : Addr → Prop} {r : List Addr} {ow : Nat → Option Addr} {H : Hp} {S : Sto} {env : Env} {s : L2.St} (fr : Fr G xc xa Z r ow H S env s) {i : Nat} {xs : List D} (e : env[i]? = some (.own xs)) :
    ∃ a vs, ow i = some a ∧ s[i]? = some (some (.ref a)) ∧ H a = some (.lst vs) ∧ Reps G H (BB Z r ow) r xs vs := fr.slot i _ e
/-- x.append(e) -/
theorem sndS_app {n : Str} {e : Expr} {i : Nat} {y : Ex} {p1 apos cpos : Pos} (hK : X.K = L.G.K) (hN : X.N[i]? = some n) (hv : L2.Vis X.env.scope n) (hd : (n == ("__debug__" : Str)) = false) (hcd : (n == ("__classdict__" : Str)) = false) (h : PE X e (rdE L xa W y))
    (hs : starEach [e] X.env = [(false, eval e X.env)]) (hline : (apos.endLine == cpos.line) = true) :
    PS X (.Expr (.Call (.Attribute (.Name n p1) "append" apos) [e] [] cpos) pos) (rdS L xa W (.app i y)) := by
  have h0 : PE X (.Name n p1) (L2.tVar i) := L2.pe_var hN hv hd hcd
  have k := L2.pe_bm (cpos := cpos) PySem.F.plainAttrs_list PySem.F.slot_list_append PySem.F.type_list_append L2.mt_append h0 (L2.pa_cons h L2.pa_nil hs) rfl (by rw [hs]; rfl) hline hs rfl
  refine PS.imp (L2.ps_expr k rfl) fun E s H q => ?_
  obtain ⟨Z, r, ow, S, env, fr, q⟩ := q
  simp only [exS] at q
  cases e1 : env[i]? with
  | none => rw [e1] at q; exact q.elim
  | some pl =>
    rw [e1] at q
    cases pl with
    | un => exact q.elim
    | exn c d => exact q.elim
    | fz d => exact q.elim
    | own xs =>
      obtain ⟨a, vs, h1, h2, h3, h4⟩ := own_at fr e1
      refine ⟨.ref a, h2, .inl ⟨rfl, vs, .of h3⟩, ?_⟩
      refine rdE.stm fr q fun d S' h v H' r' st fr' rp => ?_
      split at h
      · rename_i hz
        have h3' : H' a = some (.lst vs) := st.keep _ _ h3 (fr.dis i a h1).2
        refine ⟨a, vs, v, rfl, rfl, h3', by rw [h4.len, ← sz_eq]; exact hz, ?_⟩
        exact h s _ r' ow ((SSt.of fr st).trans (.wr fr' h1 h3')) (fr'.wro h1 h3' ((st.reps h4).append (.cons rp Reps.nil)))
      · exact h.elim
/-- x = xs.pop() -/
theorem sndS_pop {n m : Str} {i j : Nat} {p1 p2 apos cpos : Pos} (hnd : X.N.Nodup) (hK : X.K = L.G.K) (hN : X.N[i]? = some n) (hv : L2.Vis X.env.scope n) (hd : (n == ("__debug__" : Str)) = false) (hcd : (n == ("__classdict__" : Str)) = false)
    (hM : X.N[j]? = some m) (hx : L2.Loc X.env.scope m) (hf : X.fn m = true ∨ X.env.scope.names.lookup m = some .local) (hline : (apos.endLine == cpos.line) = true) :
    PS X (.Assign [.Name m p2] (.Call (.Attribute (.Name n p1) "pop" apos) [] [] cpos) pos) (rdS L xa W (.pop j i)) := by
  have h0 : PE X (.Name n p1) (L2.tVar i) := L2.pe_var hN hv hd hcd
  have k := L2.pe_bm0 (cpos := cpos) PySem.F.plainAttrs_list PySem.F.slot_list_pop PySem.F.type_list_pop L2.mt_pop h0 rfl hline
  refine PS.len (PS.imp (L2.ps_set hnd hM hx k rfl hf) fun E s H q => ?_)
  obtain ⟨hl, Z, r, ow, S, env, fr, q⟩ := q
  have hj : j < s.length := by rw [hl]; exact (List.getElem?_eq_some_iff.mp hM).1
  simp only [exS] at q
  cases e1 : env[i]? with
  | none => rw [e1] at q; exact q.elim
  | some pl =>
    rw [e1] at q
    cases pl with
    | un => exact q.elim
    | exn c d => exact q.elim
    | fz d => exact q.elim
    | own xs =>
      dsimp only at q
      obtain ⟨a, vs, h1, h2, h3, h4⟩ := own_at fr e1
      cases e2 : xs.getLast? with
      | none => rw [e2] at q; exact q.elim
      | some d =>
        rw [e2] at q
        rw [List.getLast?_eq_getElem?] at e2
        obtain ⟨v, hv1, hv2⟩ := h4.at e2
        refine ⟨.ref a, h2, .inl ⟨rfl, vs, .of h3⟩, a, vs, v, rfl, rfl, h3, by rw [h4.len]; exact hv1, ?_⟩
        have fr2 := fr.wro h1 h3 h4.dropLast
        have hlj : j < (env.set i (.own xs.dropLast)).length := by rw [List.length_set, fr.len]; exact hj
        exact q _ _ r _ ((SSt.wr fr h1 h3).trans (.less (drop1_less j))) (fr2.putfz hlj (rep_wro h1 h3 hv2))
/-- x[k] = e -/
theorem sndS_put {n : Str} {i : Nat} {e1 e2 : Expr} {x y : Ex} {p1 p2 : Pos} (hK : X.K = L.G.K) (hN : X.N[i]? = some n) (hv : L2.Vis X.env.scope n) (hd : (n == ("__debug__" : Str)) = false) (hcd : (n == ("__classdict__" : Str)) = false)
    (h1 : PE X e1 (rdE L xa W x)) (h2 : PE X e2 (rdE L xa W y)) (ha : ∀ v, assign (.Subscript (.Name n p1) e1 p2) X.env v = (do
      let ov ← holding [v] (eval (.Name n p1) X.env)
      let iv ← holding [v, ov] (eval e1 X.env)
      standAt p2
      holding [v, ov, iv] (setItem ov iv v)
      release [v, ov, iv] [])) (hs : swapsWithSole [.Subscript (.Name n p1) e1 p2] e2 pos.line X.env = pure false) :
    PS X (.Assign [.Subscript (.Name n p1) e1 p2] e2 pos) (rdS L xa W (.put i x y)) := by
  have h0 : PE X (.Name n p1) (L2.tVar i) := L2.pe_var hN hv hd hcd
  refine PS.imp (L2.ps_asg h2 (L2.pg_sub h0 h1 L2.set_list ha) hs rfl rfl) fun E s H q => ?_
  obtain ⟨Z, r, ow, S, env, fr, q⟩ := q
  simp only [exS] at q
  cases e1 : env[i]? with
  | none => rw [e1] at q; exact q.elim
  | some pl =>
    rw [e1] at q
    cases pl with
    | un => exact q.elim
    | exn c d => exact q.elim
    | fz d => exact q.elim
    | own xs =>
      dsimp only at q
      obtain ⟨a, vs, h1, h2, h3, h4⟩ := own_at fr e1
      refine rdE.stm fr q fun d S' h v H' r' st fr' rp => ?_
      refine ⟨.ref a, h2, ?_⟩
      refine rdE.stm fr' (PostS.from (.of fr st) h) fun kd S2 h v2 H2 r2 st2 fr2 rp2 => ?_
      cases kd with
      | int k =>
        dsimp only at h
        split at h
        · rename_i hk
          rw [Rep] at rp2
          subst rp2
          have h3' : H2 a = some (.lst vs) := (st.trans st2).keep _ _ h3 (fr.dis i a h1).2
          have hk2 : (k.toNat : Int) = k := Int.toNat_of_nonneg hk.1
          refine ⟨a, vs, k, k.toNat, rfl, rfl, h3', ?_, ?_⟩
          · have hl := h4.len
            unfold L2.ixN
            rw [if_pos hk.1, if_pos (by omega)]
          · exact h s _ r2 ow ((SSt.of fr' st2).trans (.wr fr2 h1 h3')) (fr2.wro h1 h3' (((st.trans st2).reps h4).set (st2.rep rp) _))
        · exact h.elim
      | _ => exact h.elim
/-- for -/
theorem sndS_for {tg iter : Expr} {b : List Stmt} {t : Tg} {it : Ex} {xs : List St} (hp : PassesOwn (model X.prog X.w) X.A X.env X.xe) (hc : X.calm = true) (hi : PI X tg iter (rdI L xa W false it)) (hg : PG X tg (rdG L xa t)) (hb : PSs X b (rdSs L xa W xs)) (hs : ∀ x, foldedSetIterable iter X.env x = pure x) :
    PS X (.For tg iter b [] pos) (rdS L xa W (.for_ t it xs)) := by
  refine PS.imp (L2.ps_for hp hc hi hg hb hs) fun E s H q => ?_
  obtain ⟨Z, r, ow, S, env, fr, q⟩ := q
  simp only [exS] at q
  refine ⟨Z, r, ow, S, env, fr, ?_⟩
  unfold evP
  rw [if_neg (by decide)]
  split at q
  case isFalse => exact q.elim
  rename_i ho
  rw [if_pos ho]
  cases ee : evE L.F it env S with
  | stuck => rw [ee] at q; exact q.elim
  | exc c d S' => rw [ee] at q; exact fun cls dd H' r' st fr' ex => q cls dd s H' r' ow (.of fr st) fr' ex
  | ok d S1 =>
    rw [ee] at q
    simp only [SR.of] at q
    cases ei : itB d with
    | none => rw [ei] at q; exact q.elim
    | some ys =>
      rw [ei] at q
      dsimp only at q
      refine ⟨ys, ei, fun J H1 r1 P As ds ws st fr1 src hP hr hA => ?_⟩
      have qq := PostS.from (SSt.of fr st) q
      refine ⟨fun i m σ Hc => ∃ r2 ow2 S2 env2, m + i = ys.length ∧ SSt Z r1 ow H1 r2 ow2 Hc ∧ Fr L.G L.xc xa Z r2 ow2 Hc S2 env2 σ ∧ P Hc ∧ PostS L xa Z r2 ow2 Hc E W (forL (fun d env S => match asg t d env with
        | some env' => exSs L.F L.wf xs env' S
        | none => .stuck) (ys.drop i) env2 S2), ⟨ys.length, r1, ow, S1, env, rfl, .refl, fr1, hP, qq⟩, ?_⟩
      intro i m σ Hc hw
      obtain ⟨r2, ow2, S2, env2, hm, tt, frc, hPc, qc⟩ := hw
      by_cases hi : i < ys.length
      · refine .inr ⟨src.go i Hc hPc hi, fun σ' H' => ∃ r3 ow3 S3 env3, SSt Z r1 ow H1 r3 ow3 H' ∧ Fr L.G L.xc xa Z r3 ow3 H' S3 env3 σ' ∧ P H' ∧ PostS L xa Z r3 ow3 H' E W (forL (fun d env S => match asg t d env with
          | some env' => exSs L.F L.wf xs env' S
          | none => .stuck) (ys.drop (i + 1)) env3 S3), fun σ' H' z => ?_, fun x H' hy => ?_⟩
        · obtain ⟨r3, ow3, S3, env3, z1, z2, z3, z4⟩ := z
          exact ⟨m - 1, by omega, r3, ow3, S3, env3, by omega, z1, z2, z3, z4⟩
        · have hrc := tt.reps hr
          obtain ⟨hH', hrep⟩ := src.yld i Hc x H' ys[i] hPc (List.getElem?_eq_getElem hi) hy
          have rx := hrep _ _ hrc
          have sty : Stp Hc r2 H' r2 := by
            rcases hH' with rfl | ⟨T, o, hT, rfl⟩
            · exact .refl
            · exact .laid hT
          have fry : Fr L.G L.xc xa Z r2 ow2 H' S2 env2 σ := frc.step sty (frc.sto.yld hH')
          have edrop : ys.drop i = ys[i] :: ys.drop (i + 1) := List.drop_eq_getElem_cons hi
          rw [edrop] at qc
          simp only [forL] at qc
          cases ea : asg t ys[i] env2 with
          | none => rw [ea] at qc; exact qc.elim
          | some env' =>
            rw [ea] at qc
            dsimp only at qc
            refine ⟨Z, r2, ow2, S2, env2, _, env', fry, rx, ea, fun s3 ow3 le3 _ fr3 _ => ?_⟩
            refine ⟨Z, r2, ow3, S2, env', fr3, ?_⟩
            have t3 : SSt Z r2 ow2 Hc r2 ow3 H' := (SSt.of frc sty).trans (.less le3)
            have q3 := PostS.from t3 qc
            have pst : ∀ {r4 : List Addr} {ow4 : Nat → Option Addr} {H4 : Hp}, SSt Z r2 ow3 H' r4 ow4 H4 → P H4 := fun {r4 ow4 H4} t4 => by
              have tall := (tt.trans t3).trans t4
              refine src.stab _ _ hP (fun a ha => ?_) tall.tups tall.frzs
              obtain ⟨⟨o, eo⟩, _, hn⟩ := hA a ha
              rw [eo]
              exact tall.keep a o eo (hn rfl)
            cases e : exSs L.F L.wf xs env' S2 with
            | ok f S3 =>
              rw [e] at q3
              cases f with
              | nx env3 => exact fun s' H4 r4 ow4 t4 fr4 => ⟨r4, ow4, S3, env3, (tt.trans t3).trans t4, fr4, pst t4, PostS.from t4 q3⟩
              | rt d => exact q3
            | exc c d e' S3 => rw [e] at q3; exact q3
            | stuck => rw [e] at q3; exact q3
      · refine .inl ⟨src.stop i Hc hPc (by omega), ?_⟩
        have hd : ys.drop i = [] := List.drop_eq_nil_of_le (by omega)
        rw [hd] at qc
        simp only [forL] at qc
        exact qc σ Hc r2 ow2 .refl frc
end
end Mi

set_option maxRecDepth 100000
set_option maxHeartbeats 4000000
namespace Mi
open PySem PySem.Spec PyProof.Rows
open L2 (V Hp HO upd upd_same upd_ne Same SqL SqT Rd VK XK WX PE PT PA OpR CallR IxR SlR TE TT TA tOp Dp DpAll PI TI PG PGs TG TGs PS PSs TS)
section
variable {X : L2.Cx} {o i : Expr} {pos : Pos}
def gFld (K : PySem.W.Frag) (to : TE) (f : Str) : TG := fun v σ H Q => to σ H fun x H1 => ∃ a C dx fs, x = .ref a ∧ H1 a = some (.ins C dx fs) ∧ L2.Cls K C ∧ L2.NoAttr K C f ∧ fs.length < 1000 ∧ Q σ (upd H1 a (.ins C dx (L2.putF f v fs)))
theorem pg_fld {f : Str} {to : TE} (ho : PE X o to) : PG X (.Attribute o f pos) (gFld X.K to f) := by
  refine ⟨fun pins s σ H v u Q I r h => ?_⟩
  rw [assign_Attribute]
  refine wpAny_bind (wpAny_holding (L2.thn (ho.run pins s σ H _ I h) fun ov s1 ⟨x, H1, I1, r1, a, C, dx, fs, ex, ea, hc, hn, hl, q⟩ => ?_))
  subst ex
  obtain rfl : ov = Value.ref a := r1
  refine wpAny_bind (wpAny_standAt (wpAny_bind (wpAny_holding (L2.setattr_ok I1 ea hc hn hl r fun s2 I2 => ?_))))
  exact wpAny_release ⟨σ, _, I2, q⟩
theorem PG.impL {e : Expr} {t t' : TG} (h : PG X e t) (k : ∀ v s H Q, s.length = X.N.length → t' v s H Q → t v s H Q) : PG X e t' := ⟨fun pins s σ H v u Q I r q => h.run pins s σ H v u Q I r (k _ _ _ _ I.len q)⟩
end
section
variable {L : Lt} {xa : XA} {X : L2.Cx} {W : WX} {e e1 e2 : Expr} {x y : Ex} {pos pos' p apos cpos : Pos}
def rdL (L : Lt) (xa : XA) (W : WX) (t : Lv) : TG := fun v s H Q => ∃ Z r ow S env d, Fr L.G L.xc xa Z r ow H S env s ∧ Rep L.G H (BB Z r ow) r d v ∧ PostS L xa Z r ow H { nx := Q, rt := fun _ _ => False } W (lvA L.F d t env S)
def rdLs (L : Lt) (xa : XA) (W : WX) (ts : List Lv) : TGs := fun vs s H Q => ∃ Z r ow S env ds, Fr L.G L.xc xa Z r ow H S env s ∧ Reps L.G H (BB Z r ow) r ds vs ∧ PostS L xa Z r ow H { nx := Q, rt := fun _ _ => False } W (lvN L.F ts ds env S)
theorem sndL_n {i : Nat} {n : Str} (hnd : X.N.Nodup) (hN : X.N[i]? = some n) (hx : L2.Loc X.env.scope n) (hf : X.fn n = true ∨ X.env.scope.names.lookup n = some .local) : PG X (.Name n p) (rdL L xa W (.n i)) := by
  refine PG.impL (L2.pg_name hnd hN hx hf) fun v s H Q hl q => ?_
  obtain ⟨Z, r, ow, S, env, d, fr, rp, q⟩ := q
  simp only [lvA] at q
  have hi : i < env.length := by rw [fr.len, hl]; exact (List.getElem?_eq_some_iff.mp hN).1
  exact q _ H r _ (.less (drop1_less i)) (fr.putfz hi rp)
theorem sndL_f {i : Nat} {f : Str} (hK : X.K = L.G.K) (ck : ClsOk L X) (hf : L.G.fd[i]? = some f) (h : PE X e (rdE L xa W x)) : PG X (.Attribute e f pos) (rdL L xa W (.f x i)) := by
  refine PG.impL (pg_fld h) fun v s H Q _ q => ?_
  obtain ⟨Z, r, ow, S, env, d, fr, rp, q⟩ := q
  simp only [lvA] at q
  refine rdE.stm fr q fun d1 S1 h1 v1 H1 r1 st1 fr1 p1 => ?_
  cases d1 with
  | ref n =>
    simp only at h1
    split at h1
    · rename_i c fs e1
      split at h1
      · rename_i hlen
        obtain ⟨a, rfl, hr, C, dx, us, hc, ha, hp⟩ := fr1.at p1 e1
        obtain ⟨k1, k2⟩ := ck c C hc
        have pl := (fr1.sto.cell n a _ hr e1).plain
        have hm : a ∈ r1 := List.mem_of_getElem? hr
        have hp2 : Paired (FldR L.G (upd H1 a (.ins C dx (L2.putF f v us))) (BB Z r1 ow) r1) fs us := paired_imp (fun _ _ z => ⟨z.1, rep_wc hm pl z.2⟩) hp
        obtain ⟨st2, fr2⟩ := fr1.wcell (o := .ins C dx (L2.putF f v us)) (c := .ins c (putA i d fs)) hr e1 ⟨C, dx, _, hc, upd_same, fld_put hf (rep_wc hm pl (st1.rep rp)) hp2⟩
        refine ⟨a, C, dx, us, rfl, ha, k1, k2 f (List.mem_of_getElem? hf), by rw [paired_len hp]; omega, ?_⟩
        exact h1 s _ r1 ow (.of fr (st1.trans st2)) fr2
      · exact h1.elim
    · exact h1.elim
  | _ => exact h1.elim
theorem subB_lst {S S' : Sto} {a k d : D} (h : subB false S a k d = some S') : ∃ n xs i, a = .ref n ∧ S[n]? = some (.lst xs) ∧ k = .int i ∧ 0 ≤ i ∧ i < xs.length ∧ S' = S.set n (.lst (xs.set i.toNat d)) := by
  unfold subB at h
  split at h
  · rename_i n
    split at h
    · rename_i xs e
      split at h
      · rename_i i
        split at h
        · rename_i hz
          cases h
          exact ⟨n, xs, i, rfl, e, rfl, hz.2.1, hz.2.2, rfl⟩
        · cases h
      · cases h
    · rename_i t kvs e
      simp at h
    · cases h
  · cases h
theorem subB_dct {S S' : Sto} {a k d : D} (h : subB true S a k d = some S') : ∃ n t kvs, a = .ref n ∧ S[n]? = some (.dct t kvs) ∧ keyB t k = true ∧ kvs.length < 1000000 ∧ S' = S.set n (.dct t (dPut k d kvs)) := by
  unfold subB at h
  split at h
  · rename_i n
    split at h
    · rename_i xs e
      split at h
      · simp at h
      · cases h
    · rename_i t kvs e
      split at h
      · rename_i hz
        simp only [Bool.true_and, Bool.and_eq_true, decide_eq_true_eq] at hz
        cases h
        exact ⟨n, t, kvs, rfl, e, hz.1, hz.2, rfl⟩
      · cases h
    · cases h
  · cases h
theorem ixN_of {n : Nat} {i : Int} (h0 : 0 ≤ i) (h1 : i < n) : L2.ixN n i = some i.toNat := by
  unfold L2.ixN
  rw [if_pos h0, if_pos h1]
theorem sndL_s {dd : Bool} (hu : X.A.units + 1 < cLine) (h1 : PE X e1 (rdE L xa W x)) (h2 : PE X e2 (rdE L xa W y)) (ha : ∀ v, assign (.Subscript e1 e2 pos) X.env v = (do
      let ov ← holding [v] (eval e1 X.env)
      let iv ← holding [v, ov] (eval e2 X.env)
      standAt pos
      holding [v, ov, iv] (setItem ov iv v)
      release [v, ov, iv] [])) : PG X (.Subscript e1 e2 pos) (rdL L xa W (.s dd x y)) := by
  cases dd with
  | false =>
    refine PG.impL (L2.pg_sub h1 h2 L2.set_list ha) fun v s H Q _ q => ?_
    obtain ⟨Z, r, ow, S, env, d, fr, rp, q⟩ := q
    simp only [lvA] at q
    refine rdE.stm fr q fun d1 S1 h1 v1 H1 r1 st1 fr1 p1 => ?_
    refine rdE.stm fr1 (PostS.from (.of fr st1) h1) fun d2 S2 h2 v2 H2 r2 st2 fr2 p2 => ?_
    have p1 := st2.rep p1
    have rp := st2.rep (st1.rep rp)
    cases es : subB false S2 d1 d2 d with
    | none => rw [es] at h2; exact h2.elim
    | some S3 =>
      rw [es] at h2
      obtain ⟨n, xs, i, rfl, e1, rfl, i0, i1, rfl⟩ := subB_lst es
      obtain ⟨a, rfl, hr, vs, ha, hp⟩ := fr2.at p1 e1
      rw [Rep] at p2
      have pl := (fr2.sto.cell n a _ hr e1).plain
      have hm : a ∈ r2 := List.mem_of_getElem? hr
      obtain ⟨st3, fr3⟩ := fr2.wcell (o := .lst (vs.set i.toNat v)) (c := .lst (xs.set i.toNat d)) hr e1 ⟨_, upd_same, reps_wc hm pl (hp.set rp _)⟩
      exact ⟨a, vs, i, i.toNat, rfl, p2, ha, ixN_of i0 (by rw [hp.len]; exact i1), h2 s _ r2 ow (.of fr1 (st2.trans st3)) fr3⟩
  | true =>
    refine PG.impL (L2.pg_sub h1 h2 (L2.set_dict hu) ha) fun v s H Q _ q => ?_
    obtain ⟨Z, r, ow, S, env, d, fr, rp, q⟩ := q
    simp only [lvA] at q
    refine rdE.stm fr q fun d1 S1 h1 v1 H1 r1 st1 fr1 p1 => ?_
    refine rdE.stm fr1 (PostS.from (.of fr st1) h1) fun d2 S2 h2 v2 H2 r2 st2 fr2 p2 => ?_
    have p1 := st2.rep p1
    have rp := st2.rep (st1.rep rp)
    cases es : subB true S2 d1 d2 d with
    | none => rw [es] at h2; exact h2.elim
    | some S3 =>
      rw [es] at h2
      obtain ⟨n, t, kvs, rfl, e1, hk, hl, rfl⟩ := subB_dct es
      cases t with
      | true =>
        obtain ⟨a, _, _, z⟩ := fr2.at p1 e1
        exact z.elim
      | false =>
        obtain ⟨a, rfl, hr, us, ha, hp⟩ := fr2.at p1 e1
        obtain ⟨kk, hkk, rfl⟩ := key_rep (by simpa [keyB] using hk) p2
        have pl := (fr2.sto.cell n a _ hr e1).plain
        have hm : a ∈ r2 := List.mem_of_getElem? hr
        have hp2 : Paired (DKR L.G (upd H2 a (.dK (L2.putK us kk v))) (BB Z r2 ow) r2) kvs us := paired_imp (fun _ _ z => ⟨z.1, rep_wc hm pl z.2⟩) hp
        obtain ⟨st3, fr3⟩ := fr2.wcell (o := .dK (L2.putK us kk v)) (c := .dct false (dPut d2 d kvs)) hr e1 ⟨_, upd_same, dk_put hkk (rep_wc hm pl rp) hp2⟩
        exact ⟨a, _, rfl, L2.DPut.k (k := kk) ha (by rw [paired_len hp, ← sz_eq]; unfold SZ; omega), h2 s _ r2 ow (.of fr1 (st2.trans st3)) fr3⟩
theorem sndLs_nil : PGs X [] (rdLs L xa W []) := by
  refine ⟨fun pins s σ H vs us Q I r q => L2.pgs_nil.run pins s σ H vs us Q I r ?_⟩
  obtain ⟨Z, rr, ow, S, env, ds, fr, rp, q⟩ := q
  cases ds with
  | nil =>
    rw [Reps] at rp
    simp only [lvN] at q
    exact ⟨rp, q _ H rr ow .refl fr⟩
  | cons d ds => simp only [lvN] at q; exact q.elim
theorem sndLs_cons {t : Lv} {ts : List Lv} {es : List Expr} (h : PG X e (rdL L xa W t)) (hs : PGs X es (rdLs L xa W ts)) (he : (assignEach (e :: es) X.env).map (·.2) = assign e X.env :: (assignEach es X.env).map (·.2)) : PGs X (e :: es) (rdLs L xa W (t :: ts)) := by
  refine ⟨fun pins s σ H vs us Q I r q => (L2.pgs_cons h hs he).run pins s σ H vs us Q I r ?_⟩
  obtain ⟨Z, rr, ow, S, env, ds, fr, rp, q⟩ := q
  cases ds with
  | nil => simp only [lvN] at q; exact q.elim
  | cons d ds =>
    rw [Reps] at rp
    obtain ⟨v, ws, rfl, p1, p2⟩ := rp
    simp only [lvN] at q
    refine ⟨v, ws, rfl, Z, rr, ow, S, env, d, fr, p1, ?_⟩
    cases el : lvA L.F d t env S with
    | stuck => rw [el] at q; exact q
    | exc c d e S' => rw [el] at q; exact q
    | ok f S' =>
      rw [el] at q
      cases f with
      | rt d => exact fun v env' s' H' r' ow' t fr rp => q v env' s' H' r' ow' t fr rp
      | nx env' =>
        intro s' H' r' ow' tt fr'
        exact ⟨Z, r', ow', S', env', ds, fr', tt.reps p2, PostS.from tt q⟩
theorem lvA_rt {F : Fns} {d x : D} {t : Lv} {env : Env} {S S' : Sto} : lvA F d t env S ≠ .ok (.rt x) S' := by
  intro h
  cases t with
  | n i => simp [lvA] at h
  | f a i =>
    simp only [lvA] at h
    cases e : evE F a env S with
    | exc c d S1 => rw [e] at h; simp [SR.of] at h
    | stuck => rw [e] at h; simp [SR.of] at h
    | ok y S1 =>
      rw [e] at h
      simp only [SR.of] at h
      cases y <;> simp only at h <;> (try (cases h; done))
      split at h
      · split at h <;> cases h
      · cases h
  | s dd a k =>
    simp only [lvA] at h
    cases e : evE F a env S with
    | exc c d S1 => rw [e] at h; simp [SR.of] at h
    | stuck => rw [e] at h; simp [SR.of] at h
    | ok y S1 =>
      rw [e] at h
      simp only [SR.of] at h
      cases e2 : evE F k env S1 with
      | exc c d S1 => rw [e2] at h; simp at h
      | stuck => rw [e2] at h; simp at h
      | ok y S2 =>
        rw [e2] at h
        simp only at h
        split at h <;> cases h
theorem sndS_as1 {tg : Expr} {t : Lv} (he : PE X e (rdE L xa W x)) (hg : PG X tg (rdL L xa W t)) (hs : swapsWithSole [tg] e pos.line X.env = pure false) (hw : swappedStores [tg] e X.env = pure none) (h1 : (assignEach [tg] X.env).map (·.2) = [assign tg X.env]) : PS X (.Assign [tg] e pos) (rdS L xa W (.as1 t x)) := by
  refine PS.imp (L2.ps_asg he hg hs hw h1) fun E s H q => ?_
  obtain ⟨Z, r, ow, S, env, fr, q⟩ := q
  simp only [exS] at q
  refine rdE.stm fr q fun d S1 h1 v H1 r1 st1 fr1 p1 => ?_
  refine ⟨Z, r1, ow, S1, env, d, fr1, p1, ?_⟩
  have h1 := PostS.from (.of fr st1) h1
  cases el : lvA L.F d t env S1 with
  | stuck => rw [el] at h1; exact h1
  | exc c d e S' => rw [el] at h1; exact h1
  | ok f S' =>
    rw [el] at h1
    cases f with
    | nx env' => exact h1
    | rt d => exact absurd el lvA_rt
theorem lvN_rt : ∀ {ts : List Lv} {ds : List D} {env : Env} {S S' : Sto} {d : D}, lvN L.F ts ds env S ≠ .ok (.rt d) S'
  | [], [], _, _, _, _ => by simp [lvN]
  | [], _ :: _, _, _, _, _ => by simp [lvN]
  | _ :: _, [], _, _, _, _ => by simp [lvN]
  | t :: ts, d :: ds, env, S, S', d' => by
    simp only [lvN]
    cases el : lvA L.F d t env S with
    | stuck => simp [SR.next]
    | exc c d e S' => simp [SR.next]
    | ok f S1 =>
      cases f with
      | nx env' => exact lvN_rt
      | rt x => exact absurd el lvA_rt
theorem sndS_asN {es : List Expr} {k : Nat} {tp : Pos} {ts : List Lv} (hK : X.K = L.G.K) (hc : X.calm = true) (he : PE X e (rdE L xa W x)) (hg : PGs X es (rdLs L xa W ts)) (hn : (assignEach es X.env).length = ts.length) (hst : (assignEach es X.env).findIdx? (·.1) = none)
    (hs : swapsWithSole [.Tuple es k tp] e pos.line X.env = pure false) (hw : swappedStores [.Tuple es k tp] e X.env = pure none) : PS X (.Assign [.Tuple es k tp] e pos) (rdS L xa W (.asN ts x)) := by
  refine PS.imp (L2.ps_asg he (L2.pg_tup (pos := tp) (k := k) hc hg hn hst) hs hw rfl) fun E s H q => ?_
  obtain ⟨Z, r, ow, S, env, fr, q⟩ := q
  simp only [exS] at q
  refine rdE.stm fr q fun d S1 h1 v H1 r1 st1 fr1 p1 => ?_
  cases d with
  | tup ds =>
    simp only at h1
    rw [Rep] at p1
    obtain ⟨a, vs, rfl, hq, p1⟩ := p1
    split at h1
    case isFalse => exact h1.elim
    rename_i hl
    rw [hK]
    refine ⟨a, vs, rfl, hq, by rw [p1.len, hl], Z, r1, ow, S1, env, ds, fr1, p1, ?_⟩
    have h1 := PostS.from (.of fr st1) h1
    cases el : lvN L.F ts ds env S1 with
    | stuck => rw [el] at h1; exact h1
    | exc c d e S' => rw [el] at h1; exact h1
    | ok f S' =>
      rw [el] at h1
      cases f with
      | nx env' => exact h1
      | rt d => exact absurd el lvN_rt
  | _ => exact h1.elim
theorem isLs_some {S : Sto} {d : D} (h : isLs S d = true) : ∃ n xs, d = .ref n ∧ S[n]? = some (.lst xs) := by
  unfold isLs at h
  split at h
  · split at h
    · rename_i n _ xs e
      exact ⟨n, xs, rfl, e⟩
    · cases h
  · cases h
/-- x.append(e), of a cell -/
theorem sndS_capp (hK : X.K = L.G.K) (h0 : PE X e (rdE L xa W x)) (h1 : PE X e1 (rdE L xa W y)) (hb : attributeBase e "append" X.env (eval e X.env) = eval e X.env) (hs : starEach [e1] X.env = [(false, eval e1 X.env)]) (hline : (apos.endLine == cpos.line) = true) :
    PS X (.Expr (.Call (.Attribute e "append" apos) [e1] [] cpos) pos) (rdS L xa W (.capp x y)) := by
  have k := L2.pe_bm (cpos := cpos) PySem.F.plainAttrs_list PySem.F.slot_list_append PySem.F.type_list_append L2.mt_append h0 (L2.pa_cons h1 L2.pa_nil hs) hb (by rw [hs]; rfl) hline hs rfl
  refine PS.imp (L2.ps_expr k rfl) fun E s H q => ?_
  obtain ⟨Z, r, ow, S, env, fr, q⟩ := q
  simp only [exS] at q
  refine rdE.stm fr q fun d1 S1 h1 v1 H1 r1 st1 fr1 p1 => ?_
  split at h1
  case isFalse => exact h1.elim
  rename_i hi
  obtain ⟨n, xs0, rfl, e0⟩ := isLs_some hi
  obtain ⟨a, rfl, hr, vs0, ha0, hp0⟩ := fr1.at p1 e0
  refine ⟨.inl ⟨rfl, vs0, .of ha0⟩, ?_⟩
  refine rdE.stm fr1 (PostS.from (.of fr st1) h1) fun d S2 h2 v H2 r2 st2 fr2 p2 => ?_
  simp only at h2
  split at h2
  · rename_i xs e1
    split at h2
    · rename_i hz
      have hr2 := st2.pre _ _ hr
      obtain ⟨a', ea, hr', vs, ha, hp⟩ := fr2.at (st2.rep p1) e1
      cases ea
      have pl := (fr2.sto.cell n a _ hr2 e1).plain
      have hm : a ∈ r2 := List.mem_of_getElem? hr2
      obtain ⟨st3, fr3⟩ := fr2.wcell (o := .lst (vs ++ [v])) (c := .lst (xs ++ [d])) hr2 e1 ⟨_, upd_same, reps_wc hm pl (hp.append (.cons p2 Reps.nil))⟩
      exact ⟨a, vs, v, rfl, rfl, ha, by rw [hp.len, ← sz_eq]; exact hz, h2 s _ r2 ow (.of fr1 (st2.trans st3)) fr3⟩
    · exact h2.elim
  · exact h2.elim
end
end Mi

set_option maxRecDepth 100000
set_option maxHeartbeats 4000000
namespace Mi
open PySem PySem.Spec PyProof.Rows
open L2 (V Hp HO upd upd_same upd_ne Same SqL SqT Rd VK XK WX PE PT PA OpR CallR IxR SlR TE TT TA tOp Dp DpAll PI TI PG PGs TG TGs PS PSs TS)

def ZL (Z : Addr → Prop) (As : List Addr) : Addr → Prop := fun a => Z a ∨ a ∈ As
/-- values that wait: frozen ones, new lists (at As, in order) -/
inductive Wt (G : Gd) (H : Hp) (B : Addr → Prop) (r : List Addr) : List Bool → List D → List V → List Addr → Prop
  | nil : Wt G H B r [] [] [] []
  | fz {fs ds vs As d v} : Rep G H B r d v → Wt G H B r fs ds vs As → Wt G H B r (false :: fs) (d :: ds) (v :: vs) As
  | own {fs ds vs As p xs ws} : H p = some (.lst ws) → Reps G H B r xs ws → Wt G H B r fs ds vs As → Wt G H B r (true :: fs) (.lst xs :: ds) (.ref p :: vs) (p :: As)
section
variable {G : Gd} {H H' : Hp} {B B' : Addr → Prop} {r r' : List Addr}
theorem Wt.ban {fs : List Bool} {ds : List D} {vs : List V} {As : List Addr} (h : ∀ a, B' a → B a) (w : Wt G H B r fs ds vs As) : Wt G H B' r fs ds vs As := by
  induction w with
  | nil => exact .nil
  | fz p _ ih => exact .fz (p.ban h) ih
  | own e p _ ih => exact .own e (p.ban h) ih
theorem Wt.len {fs : List Bool} {ds : List D} {vs : List V} {As : List Addr} (w : Wt G H B r fs ds vs As) : vs.length = fs.length := by
  induction w with
  | nil => rfl
  | fz p _ ih => simp [ih]
  | own e p _ ih => simp [ih]
end
def PostW (L : Lt) (xa : XA) (fs : List Bool) (Z : Addr → Prop) (r : List Addr) (ow : Nat → Option Addr) (H : Hp) (env : Env) (s : L2.St) (Q : List V → Hp → Prop) (E : XK) : Res (List D) → Prop
  | .ok ds S' => ∀ As vs H' r', Stp H r H' r' → Fr L.G L.xc xa (ZL Z As) r' ow H' S' env s → As.Nodup → (∀ p ∈ As, H p = none) → Wt L.G H' (BB (ZL Z As) r' ow) r' fs ds vs As → Q vs H'
  | .exc c d S' => ∀ cls dd H' r', Stp H r H' r' → Fr L.G L.xc xa Z r' ow H' S' env s → ExR L.G L.xc H' (BB Z r' ow) r' c d cls dd → E cls dd H'
  | .stuck => False
def rdW (L : Lt) (xa : XA) (W : WX) (fs : List Bool) (xs : List Ex) : TA := fun s H Q => ∃ Z r ow S env, Fr L.G L.xc xa Z r ow H S env s ∧ PostW L xa fs Z r ow H env s Q (fun c d H' => W c d s H') (evWs L.F fs xs env S)
section
variable {L : Lt} {xa : XA} {X : L2.Cx} {W : WX} {pos pos' p : Pos} {e : Expr} {es : List Expr} {x : Ex} {xs : List Ex} {fs : List Bool}
theorem sndW_nil : PA X [] (rdW L xa W [] []) := by
  refine PA.imp L2.pa_nil fun s H Q q => ?_
  obtain ⟨Z, r, ow, S, env, fr, q⟩ := q
  simp only [evWs] at q
  exact q [] [] H r .refl (fr.unban fun a z => z.elim id fun z => by cases z) .nil (fun p h => by cases h) .nil
theorem sndW_fz (h : PE X e (rdE L xa W x)) (hs : PA X es (rdW L xa W fs xs)) (st : starEach (e :: es) X.env = (false, eval e X.env) :: starEach es X.env) : PA X (e :: es) (rdW L xa W (false :: fs) (x :: xs)) := by
  refine PA.imp (L2.pa_cons h hs st) fun s H Q q => ?_
  obtain ⟨Z, r, ow, S, env, fr, q⟩ := q
  simp only [evWs] at q
  simp only [Bool.false_and] at q
  refine rdE.bind (P := PostW L xa (false :: fs) Z r ow H env s Q (fun c d H' => W c d s H')) fr q (fun d S1 h1 v H1 r1 st1 fr1 p1 => ?_) (fun c d S' h => h) id
  rw [if_neg (by decide)] at h1
  refine ⟨Z, r1, ow, S1, env, fr1, ?_⟩
  cases ee : evWs L.F fs xs env S1 with
  | stuck => rw [ee] at h1; exact h1
  | exc c d S' => rw [ee] at h1; exact fun cls dd H' r' st => h1 cls dd H' r' (st1.trans st)
  | ok ds S' =>
    rw [ee] at h1
    intro As vs H' r' st fr' nd hf w
    refine h1 As (v :: vs) H' r' (st1.trans st) fr' nd (fun p hp => ?_) (.fz ?_ w)
    · cases e0 : H p with
      | none => rfl
      | some o =>
        obtain ⟨o', e1⟩ := st1.some_ p o e0
        rw [hf p hp] at e1; cases e1
    · refine Rep.mono (fun a o e n => st.keep a _ e fun z => n (.inr (.inl z))) st.tups st.frzs (fun a z => ?_) st.pre p1
      rcases z with (z | z) | z | z
      · exact .inl (.inl z)
      · exact .inr (hf a z)
      · rcases st.new a z with z | z
        · exact .inl (.inr (.inl z))
        · exact .inr z
      · exact .inl (.inr (.inr z))
theorem sndW_own (h : PE X e (rdF L xa W x)) (hs : PA X es (rdW L xa W fs xs)) (st : starEach (e :: es) X.env = (false, eval e X.env) :: starEach es X.env) : PA X (e :: es) (rdW L xa W (true :: fs) (x :: xs)) := by
  refine PA.imp (L2.pa_cons h hs st) fun s H Q q => ?_
  obtain ⟨Z, r, ow, S, env, fr, q⟩ := q
  simp only [evWs] at q
  refine ⟨Z, r, ow, S, env, fr, ?_⟩
  cases e0 : evE L.F x env S with
  | stuck => rw [e0] at q; exact q
  | exc c d S' => rw [e0] at q; exact q
  | ok d S1 =>
    rw [e0] at q
    simp only [Res.bind] at q
    cases d with
    | lst ys =>
      rw [if_neg (show ¬ ((true && !isL (D.lst ys)) = true) from by simp [isL])] at q
      have fin : ∀ {zs : List D}, (D.lst ys : D) = .lst zs → ∀ p vs H1 r1, Stp H r H1 r1 → Fr L.G L.xc xa Z r1 ow H1 S1 env s → H1 p = none → Reps L.G H1 (BB Z r1 ow) r1 zs vs → rdW L xa W fs xs s (upd H1 p (.lst vs)) fun us H2 => Q (V.ref p :: us) H2 := by
        intro zs ed p vs H1 r1 st1 fr1 hp p1
        refine ⟨ZD Z p, r1, ow, S1, env, fr1.laidZ hp, ?_⟩
        have stp : Stp H r (upd H1 p (.lst vs)) r1 := st1.trans (.laid hp)
        cases ee : evWs L.F fs xs env S1 with
        | stuck => rw [ee] at q; exact q
        | exc c d S' =>
          rw [ee] at q
          refine fun cls dd H' r' st fr' ex => q cls dd H' r' (stp.trans st) (fr'.unban fun a z => .inl z) (ex.ban fun a z => ?_)
          rcases z with z | z
          · exact .inl (.inl z)
          · exact .inr z
        | ok ds S' =>
          rw [ee] at q
          intro As us H' r' st fr' nd hf w
          have toB : ∀ a, BB (ZL Z (p :: As)) r' ow a → BB (ZL (ZD Z p) As) r' ow a := fun a z => by
            rcases z with (z | z) | z
            · exact .inl (.inl (.inl z))
            · rcases List.mem_cons.mp z with z | z
              · exact .inl (.inl (.inr z))
              · exact .inl (.inr z)
            · exact .inr z
          have hpr : p ∉ r1 := fun z => by
            obtain ⟨o, eo⟩ := fr1.al p (.inr (.inl z))
            rw [hp] at eo; cases eo
          have hpH : H p = none := by
            cases e0 : H p with
            | none => rfl
            | some o =>
              obtain ⟨o', e1⟩ := st1.some_ p o e0
              rw [hp] at e1; cases e1
          cases ed
          refine q (p :: As) (.ref p :: us) H' r' (stp.trans st) (fr'.unban fun a z => ?_) (List.nodup_cons.mpr ⟨fun z => ?_, nd⟩) (fun b hb => ?_) (.own (ws := vs) (st.keep _ _ upd_same hpr) ?_ (w.ban toB))
          · rcases z with z | z
            · exact .inl (.inl z)
            · rcases List.mem_cons.mp z with z | z
              · exact .inl (.inr z)
              · exact .inr z
          · have := hf p z
            rw [upd_same] at this; cases this
          · rcases List.mem_cons.mp hb with rfl | hb
            · exact hpH
            · have z := hf b hb
              have hne : b ≠ p := fun e => by rw [e, upd_same] at z; cases z
              rw [upd_ne hne] at z
              cases e0 : H b with
              | none => rfl
              | some o =>
                obtain ⟨o', e1⟩ := st1.some_ b o e0
                rw [z] at e1; cases e1
          · have p2 := reps_zd (o := .lst vs) fr1 hp p1
            refine Reps.mono (fun a o e n => st.keep a _ e fun z => n (.inr (.inl z))) st.tups st.frzs (fun a z => ?_) st.pre p2
            rcases toB a z with (z | z) | z | z
            · exact .inl (.inl z)
            · exact .inr (hf a z)
            · rcases st.new a z with z | z
              · exact .inl (.inr (.inl z))
              · exact .inr z
            · exact .inl (.inr (.inr z))
      exact ⟨ys, rfl, fin rfl⟩
    | _ => exact q.elim
end
def setAll : L2.St → List Nat → List V → L2.St
  | s, i :: is, v :: vs => setAll (s.set i (some v)) is vs
  | s, _, _ => s
section
variable {G : Gd} {xc : Xc} {xa : XA} {Z : Addr → Prop} {r : List Addr} {H : Hp} {S : Sto}
theorem puts_fr : ∀ {is : List (Nat × Bool)} {ds : List D} {vs : List V} {As : List Addr} {env env' : Env} {s : L2.St} {ow : Nat → Option Addr}, Wt G H (BB (ZL Z As) r ow) r (is.map (·.2)) ds vs As → As.Nodup → (∀ p ∈ As, ¬ Z p) → Fr G xc xa (ZL Z As) r ow H S env s → puts is ds env = some env' →
    (∀ i ∈ is.map (·.1), i < env.length) → ∃ ow', Fr G xc xa Z r ow' H S env' (setAll s (is.map (·.1)) vs) ∧ ∀ k a, ow' k = some a → (∃ j, ow j = some a) ∨ a ∈ As
  | [], ds, vs, As, env, env', s, ow, w, nd, hz, fr, e, hi => by
    cases w
    simp only [puts] at e
    cases e
    exact ⟨ow, fr.unban fun a z => .inl z, fun k a h => .inl ⟨k, h⟩⟩
  | (i, false) :: is, ds, vs, As, env, env', s, ow, w, nd, hz, fr, e, hi => by
    simp only [List.map_cons] at w
    cases w with
    | fz p w =>
      simp only [puts] at e
      have fr1 := fr.putfz (hi i (by simp)) p
      obtain ⟨ow', h1, h2⟩ := puts_fr (w.ban fun a z => (drop1_less i).bb z) nd hz fr1 e fun k hk => by rw [List.length_set]; exact hi k (List.mem_cons_of_mem _ hk)
      refine ⟨ow', h1, fun k a h => ?_⟩
      rcases h2 k a h with ⟨j, h⟩ | h
      · refine .inl ⟨j, ?_⟩
        rcases drop1_less (ow := ow) i j with z | z
        · rw [← z]; exact h
        · rw [z] at h; cases h
      · exact .inr h
  | (i, true) :: is, ds, vs, As, env, env', s, ow, w, nd, hz, fr, e, hi => by
    simp only [List.map_cons] at w
    cases w with
    | @own _ _ _ As' p xs ws hp hr w =>
      simp only [puts] at e
      obtain ⟨np, nd⟩ := List.nodup_cons.mp nd
      have fr0 : Fr G xc xa (ZD (ZL Z As') p) r ow H S env s := fr.unban fun a z => by
        rcases z with (z | z) | z
        · exact .inl z
        · exact .inr (List.mem_cons_of_mem _ z)
        · exact .inr (by rw [z]; exact List.mem_cons_self)
      have toB : ∀ a, BB (ZD (ZL Z As') p) r ow a → BB (ZL Z (p :: As')) r ow a := fun a z => by
        rcases z with ((z | z) | z) | z
        · exact .inl (.inl z)
        · exact .inl (.inr (List.mem_cons_of_mem _ z))
        · exact .inl (.inr (by rw [z]; exact List.mem_cons_self))
        · exact .inr z
      have fr1 := fr0.adopt (i := i) hp (hr.ban toB) (fun z => z.elim (hz p List.mem_cons_self) np) (hi i (by simp))
      obtain ⟨ow', h1, h2⟩ := puts_fr (w.ban fun a z => toB a (bb_set1 z)) nd (fun q hq => hz q (List.mem_cons_of_mem _ hq)) fr1 e fun k hk => by rw [List.length_set]; exact hi k (List.mem_cons_of_mem _ hk)
      refine ⟨ow', h1, fun k a h => ?_⟩
      rcases h2 k a h with ⟨j, h⟩ | h
      · unfold set1 at h
        split at h
        · cases h; exact .inr List.mem_cons_self
        · exact .inl ⟨j, h⟩
      · exact .inr (List.mem_cons_of_mem _ h)
end
section
variable {L : Lt} {xa : XA} {X : L2.Cx} {W : WX} {pos : Pos}
/-- the values are there: the names take them -/
theorem par_ok {is : List (Nat × Bool)} {xs : List Ex} {E : L2.Ends} {s : L2.St} {H : Hp} (hi : ∀ i ∈ is.map (·.1), i < s.length) (q : rdS L xa W (.par is xs) E s H) : rdW L xa W (is.map (·.2)) xs s H fun vs H1 => vs.length = is.length ∧ E.nx (setAll s (is.map (·.1)) vs) H1 := by
  obtain ⟨Z, r, ow, S, env, fr, q⟩ := q
  simp only [exS] at q
  refine ⟨Z, r, ow, S, env, fr, ?_⟩
  cases e : evWs L.F (is.map (·.2)) xs env S with
  | stuck => rw [e] at q; exact q
  | exc c d S' => rw [e] at q; exact fun cls dd H' r' st fr' ex => q cls dd s H' r' ow (.of fr st) fr' ex
  | ok ds S' =>
    rw [e] at q
    dsimp only at q
    intro As vs H' r' st fr' nd hf w
    cases e2 : puts is ds env with
    | none => rw [e2] at q; exact q.elim
    | some env' =>
      rw [e2] at q
      have hz : ∀ p ∈ As, ¬ Z p := fun p hp z => by
        obtain ⟨o, eo⟩ := fr.al p (.inl z)
        rw [hf p hp] at eo; cases eo
      obtain ⟨ow', f1, f2⟩ := puts_fr w nd hz fr' e2 fun i h => by rw [fr'.len]; exact hi i h
      refine ⟨by rw [w.len, List.length_map], q _ H' r' ow' ?_ f1⟩
      have t := SSt.of fr st
      refine ⟨t.pre, t.keep, t.zk, t.tups, t.frzs, t.some_, t.newr, fun k a h => ?_⟩
      rcases f2 k a h with h | h
      · exact .inl h
      · exact .inr (hf a h)
theorem sndS_par2 {i j : Nat} {f g : Bool} {x y : Str} {a b : Expr} {xa1 xb1 : Ex} {px py pt : Pos} {kt k2 pt2} (hc : X.calm = true) (hN : X.N.Nodup) (hi : X.N[i]? = some x) (hj : X.N[j]? = some y) (hij : i ≠ j)
    (hx : X.env.scope.names.lookup x = some .local) (hy : X.env.scope.names.lookup y = some .local) (ha : PA X [a, b] (rdW L xa W [f, g] [xa1, xb1]))
    (hw : swappedStores [.Tuple [.Name x px, .Name y py] kt pt] (.Tuple [a, b] k2 pt2) X.env = pure (some [x, y])) :
    PS X (.Assign [.Tuple [.Name x px, .Name y py] kt pt] (.Tuple [a, b] k2 pt2) pos) (rdS L xa W (.par [(i, f), (j, g)] [xa1, xb1])) := by
  refine PS.len (PS.imp (L2.ps_par hc hN hi hj hij hx hy ha hw rfl) fun E s H q => ?_)
  obtain ⟨hl, q⟩ := q
  have h1 := (List.getElem?_eq_some_iff.mp hi).1
  have h2 := (List.getElem?_eq_some_iff.mp hj).1
  obtain ⟨Z, r, ow, S, env, fr, k⟩ := par_ok (fun n hn => by simp at hn; omega) q
  refine ⟨Z, r, ow, S, env, fr, ?_⟩
  simp only [List.map] at k
  cases e : evWs L.F [f, g] [xa1, xb1] env S with
  | stuck => rw [e] at k; exact k
  | exc c d S' => rw [e] at k; exact k
  | ok ds S' =>
    rw [e] at k
    intro As vs H' r' st fr' nd hf w
    obtain ⟨l, k⟩ := k As vs H' r' st fr' nd hf w
    match vs, l with
    | [v, u], _ => exact ⟨v, u, rfl, k⟩
theorem sndS_par3 {i j l : Nat} {f g h : Bool} {x y z : Str} {a b c : Expr} {xa1 xb1 xc1 : Ex} {px py pz pt : Pos} {kt k2 pt2} (hc : X.calm = true) (hN : X.N.Nodup) (hi : X.N[i]? = some x) (hj : X.N[j]? = some y) (hk : X.N[l]? = some z) (hij : i ≠ j) (hil : i ≠ l) (hjl : j ≠ l)
    (hx : X.env.scope.names.lookup x = some .local) (hy : X.env.scope.names.lookup y = some .local) (hz : X.env.scope.names.lookup z = some .local) (ha : PA X [a, b, c] (rdW L xa W [f, g, h] [xa1, xb1, xc1]))
    (hw : swappedStores [.Tuple [.Name x px, .Name y py, .Name z pz] kt pt] (.Tuple [a, b, c] k2 pt2) X.env = pure (some [x, y, z])) :
    PS X (.Assign [.Tuple [.Name x px, .Name y py, .Name z pz] kt pt] (.Tuple [a, b, c] k2 pt2) pos) (rdS L xa W (.par [(i, f), (j, g), (l, h)] [xa1, xb1, xc1])) := by
  refine PS.len (PS.imp (L2.ps_par3 hc hN hi hj hk hij hil hjl hx hy hz ha hw rfl) fun E s H q => ?_)
  obtain ⟨hl, q⟩ := q
  have h1 := (List.getElem?_eq_some_iff.mp hi).1
  have h2 := (List.getElem?_eq_some_iff.mp hj).1
  have h3 := (List.getElem?_eq_some_iff.mp hk).1
  obtain ⟨Z, r, ow, S, env, fr, k⟩ := par_ok (fun n hn => by simp at hn; omega) q
  refine ⟨Z, r, ow, S, env, fr, ?_⟩
  simp only [List.map] at k
  cases e : evWs L.F [f, g, h] [xa1, xb1, xc1] env S with
  | stuck => rw [e] at k; exact k
  | exc c d S' => rw [e] at k; exact k
  | ok ds S' =>
    rw [e] at k
    intro As vs H' r' st fr' nd hf w
    obtain ⟨l, k⟩ := k As vs H' r' st fr' nd hf w
    match vs, l with
    | [v, u, t], _ => exact ⟨v, u, t, rfl, k⟩
/-- the same by way of a tuple -/
theorem par_okT {is : List (Nat × Bool)} {xs : List Ex} {E : L2.Ends} {s : L2.St} {H : Hp} (hi : ∀ i ∈ is.map (·.1), i < s.length) (q : rdS L xa W (.par is xs) E s H) : rdW L xa W (is.map (·.2)) xs s H fun vs H1 => vs.length = is.length ∧ ∀ p, H1 p = none → E.nx (setAll s (is.map (·.1)) vs) (upd H1 p (.tup vs)) := by
  obtain ⟨Z, r, ow, S, env, fr, q⟩ := q
  simp only [exS] at q
  refine ⟨Z, r, ow, S, env, fr, ?_⟩
  cases e : evWs L.F (is.map (·.2)) xs env S with
  | stuck => rw [e] at q; exact q
  | exc c d S' => rw [e] at q; exact fun cls dd H' r' st fr' ex => q cls dd s H' r' ow (.of fr st) fr' ex
  | ok ds S' =>
    rw [e] at q
    dsimp only at q
    intro As vs H' r' st fr' nd hf w
    cases e2 : puts is ds env with
    | none => rw [e2] at q; exact q.elim
    | some env' =>
      rw [e2] at q
      have hz : ∀ p ∈ As, ¬ Z p := fun p hp z => by
        obtain ⟨o, eo⟩ := fr.al p (.inl z)
        rw [hf p hp] at eo; cases eo
      obtain ⟨ow', f1, f2⟩ := puts_fr w nd hz fr' e2 fun i h => by rw [fr'.len]; exact hi i h
      refine ⟨by rw [w.len, List.length_map], fun p hp => q _ _ r' ow' ?_ (f1.laid hp)⟩
      have t := SSt.of fr st
      have t2 : SSt Z r ow H r' ow' H' := by
        refine ⟨t.pre, t.keep, t.zk, t.tups, t.frzs, t.some_, t.newr, fun k a h => ?_⟩
        rcases f2 k a h with h | h
        · exact .inl h
        · exact .inr (hf a h)
      exact t2.trans (.of f1 (.laid hp))
def tNs (is : List Nat) : TGs := fun vs s H Q => vs.length = is.length ∧ Q (setAll s is vs) H
theorem sndS_parT {is : List (Nat × Bool)} {xs : List Ex} {ts vs : List Expr} {k k2 : Nat} {p p2 : Pos} (hc : X.calm = true) (ha : PA X vs (rdW L xa W (is.map (·.2)) xs)) (hg : PGs X ts (tNs (is.map (·.1)))) (hn : (assignEach ts X.env).length = is.length) (hst : (assignEach ts X.env).findIdx? (·.1) = none)
    (hz : is.length ≤ SZ) (hi : ∀ i ∈ is.map (·.1), i < X.N.length) (hw : swappedStores [.Tuple ts k p] (.Tuple vs k2 p2) X.env = pure none) :
    PS X (.Assign [.Tuple ts k p] (.Tuple vs k2 p2) pos) (rdS L xa W (.par is xs)) := by
  refine PS.len (PS.imp (L2.ps_asg (L2.pe_tup ha) (L2.pg_tup hc hg hn hst) rfl hw rfl) fun E s H q => ?_)
  obtain ⟨hl, q⟩ := q
  obtain ⟨Z, r, ow, S, env, fr, q⟩ := par_okT (fun n hn => by rw [hl]; exact hi n hn) q
  refine ⟨Z, r, ow, S, env, fr, ?_⟩
  cases e : evWs L.F (is.map (·.2)) xs env S with
  | stuck => rw [e] at q; exact q
  | exc c d S' => rw [e] at q; exact q
  | ok ds S' =>
    rw [e] at q
    intro As us H' r' st fr' nd hf w
    obtain ⟨l, q⟩ := q As us H' r' st fr' nd hf w
    exact ⟨by rw [l, ← sz_eq]; exact hz, fun p hp => ⟨p, us, rfl, .of upd_same, l, by rw [l, List.length_map], q p hp⟩⟩
theorem sndGs_ns_nil : PGs X [] (tNs []) := PGs.imp L2.pgs_nil fun vs s H Q q => by
  obtain ⟨l, q⟩ := q
  have : vs = [] := List.length_eq_zero_iff.mp l
  subst this
  exact ⟨rfl, q⟩
theorem sndGs_ns_cons {i : Nat} {is : List Nat} {e : Expr} {es : List Expr} (h : PG X e (L2.gName i)) (hs : PGs X es (tNs is)) (ha : (assignEach (e :: es) X.env).map (·.2) = assign e X.env :: (assignEach es X.env).map (·.2)) : PGs X (e :: es) (tNs (i :: is)) :=
  PGs.imp (L2.pgs_cons h hs ha) fun vs s H Q q => by
    obtain ⟨l, q⟩ := q
    match vs, l with
    | v :: vs, l => exact ⟨v, vs, rfl, by simpa using l, q⟩
end
end Mi

set_option maxRecDepth 100000
set_option maxHeartbeats 4000000
namespace Mi
open PySem PySem.Spec PyProof.Rows
open L2 (V Hp HO upd upd_same upd_ne Same SqL SqT Rd VK XK WX PE PT PA OpR CallR IxR SlR TE TT TA tOp Dp DpAll PI TI PG PGs TG TGs PS PSs TS)

/-- a suite's ends: its name's slot is emptied behind it -/
def goneE (i : Nat) (Dn : L2.Ends) : L2.Ends where
  nx := fun s1 H1 => Dn.nx (s1.set i none) H1
  rt := Dn.rt
  bk := fun s1 H1 => Dn.bk (s1.set i none) H1
  ct := fun s1 H1 => Dn.ct (s1.set i none) H1
abbrev Hnd := Value × Nat × (Addr → Value → Option Addr → TS)
def wAsM (K : PySem.W.Frag) (Wo : WX) (Dn : L2.Ends) : List Hnd → WX
  | [] => Wo
  | (c, i, ts) :: r => fun cl dd s1 H1 => ∃ b, PySem.W.exmOne K cl c = some b ∧ (b = true → ∀ ad, H1 ad = none → ts ad cl dd (goneE i Dn) (s1.set i (some (.ref ad))) H1) ∧ (b = false → wAsM K Wo Dn r cl dd s1 H1)
inductive HsOk (X : L2.Cx) : List ExceptHandler → List Hnd → Prop
  | nil : HsOk X [] []
  | cons {x n : Str} {c : Value} {i : Nat} {ts : Addr → Value → Option Addr → TS} {b0 : Stmt} {su : List Stmt} {p1 p2 : Pos} {hs : List ExceptHandler} {l : List Hnd} (hc : L2.Names X x c) (hi : X.N[i]? = some n) (hln : X.env.kindOf n = some .local)
      (hsu : ∀ (ad : Addr) (ob : Obj) (cl : Value) (dd : Option Addr) (pn : List (Addr × Obj)), L2.Zc cl dd ob → (∃ fv, ob.data = .fields fv) → PSs (X.suite ad ((ad, ob) :: pn)) (b0 :: su) (ts ad cl dd)) (r : HsOk X hs l) :
      HsOk X (.ExceptHandler (some (.Name x p1)) (some n) (b0 :: su) p2 :: hs) ((c, i, ts) :: l)
section
variable {X : L2.Cx} {body : List Stmt} {h1 : ExceptHandler} {hs1 : List ExceptHandler} {l : List Hnd} {pos : Pos} {tb : WX → TS} {Wo : WX}
theorem ps_try_asM (hst : X.stack = X.env :: X.outer) (hfr0 : X.env.frame = some X.env.locals) (hnd : X.N.Nodup) (tk : L2.Takes X Wo)
    (hb : ∀ (W1 : WX) (pn : List (Addr × Obj)) (xe : Value → Shared → Prop), L2.Takes (X.tr pn xe) W1 → PassesOwn (model X.prog X.w) X.A X.env xe → PSs (X.tr pn xe) body (tb W1))
    (hh : HsOk X (h1 :: hs1) l) : PS X (.Try body (h1 :: hs1) [] [] pos) (fun Dn s1 H1 => tb (wAsM X.K Wo Dn l) Dn s1 H1) := by
  refine ⟨fun pins s σ H Dn I0 hq => ?_⟩
  have okX := I0.ok
  have hframes : X.A.frames = some (X.env :: X.outer) := by rw [okX.frames, hst]
  refine wpAny_Try_except ?_
  refine wpAny_mono ((hb (wAsM X.K Wo Dn l) (X.pn ++ pins) (fun ev sa => wpAny (model X.prog X.w) X.A (noteFrame ev X.env) (fun _ sb => wpAny (model X.prog X.w) X.A (setFlight ev none) (fun _ sc =>
    wpAny (model X.prog X.w) X.A (handleBy ev X.env (h1 :: hs1)) (L2.SP X pins Dn) X.xe sc) X.xe sb) X.xe sa) (fun uv sn xx => ?_) PassesOwn.looking).run [] s σ H Dn (I0.toTry _) hq) (fun fl sn hsp => ?_) (fun ev sn he => he)
  · obtain ⟨ad, Bh, sI, pinz, σn, Hn, cl, dd, rfl, JT, nb, up, sky, na, oss, bare, wish⟩ := xx
    have JI : L2.Inv X pins σn Hn sI := JT.ofTry okX
    have sky2 : L2.Sky Bh (X.env :: X.outer) ad (L2.Zc cl dd) X.env.locals sn.heap := by rw [← hst]; exact sky
    show wpAny (model X.prog X.w) X.A (noteFrame (.ref ad) X.env) _ _ _
    refine L2.Sky.land L2.Zc.steady hframes hfr0 sky2 fun hp3 fly3 up3 => ?_
    have J3 : L2.Inv X pins σn Hn { sn with heap := hp3 } := JI.landed nb fly3.1 (up.trans up3) oss bare
    obtain ⟨ob3, fv3, ho3, hz3, hd3⟩ := fly3.there
    have noFrame : ∀ {hx : Heap} {o : Obj} {fv : Array Value}, hx.FunFrames Bh (X.env :: X.outer) → hx.get? ad = some o → o.data = .fields fv → ad ∉ L2.frs (X.env :: X.outer) := fun {hx o fv} ff e1 e2 hm => by
      obtain ⟨_, o2, e3, hnf⟩ := ff.mem hm
      rw [e1] at e3; cases e3
      exact hnf _ e2
    have nfr := noFrame fly3.2.2.1 ho3 hd3
    have neL : ad ≠ X.env.locals := fun z => nfr (List.mem_filterMap.mpr ⟨X.env, List.mem_cons_self, by rw [hfr0, z]⟩)
    have neF : ad ∉ X.fs := fun hm => by
      obtain ⟨ev, he, q⟩ := List.mem_filterMap.mp hm
      exact nfr (List.mem_filterMap.mpr ⟨ev, List.mem_cons_of_mem _ he, q⟩)
    have S3 := J3.suite ho3 hd3 na neL neF
    have goes : ∀ {hs2 : List ExceptHandler} {l2 : List Hnd}, HsOk X hs2 l2 → wAsM X.K Wo Dn l2 cl dd σn Hn → wpAny (model X.prog X.w) X.A (handleBy (.ref ad) X.env hs2) (L2.SP X pins Dn) X.xe { sn with heap := hp3 } := by
      intro hs2 l2 hk
      induction hk with
      | nil =>
        intro wv
        refine wpAny_handleBy_nil ?_
        obtain ⟨k1, k2, k3, oe, fvs, Tb, oT, tbs, he, hz, hd, hf1, hr⟩ := id fly3
        unfold PySem.passOn
        refine wpAny_bind (wpAny_field he hd hf1 ?_)
        rw [if_neg (show ¬ ((Value.ref Tb == Value.none) = true) from by simp)]
        have out : wpAny (model X.prog X.w) X.A (setFlight (.ref ad) X.env.frame) (fun _ s4 => wpAny (model X.prog X.w) X.A (throw (.ref ad) : Sem Flow) (L2.SP X pins Dn) X.xe s4) X.xe { sn with heap := hp3 } := by
          rw [hfr0]
          refine HandSPX.setFlight_upZ fly3 fun hp4 fly4 up4 => wpAny_throw (tk _ _ ?_)
          exact ⟨ad, Bh, sI, pins, σn, Hn, cl, dd, rfl, JI, nb, (up.trans up3).trans up4, .inr (.inr (by rw [hst]; exact fly4)), na, oss, bare, wv⟩
        first
          | exact wpAny_bind (wpAny_pure (wpAny_bind out))
          | exact wpAny_bind out
      | @cons x n c i ts b0 su p1 p2 hs3 l3 hc hi hln hsu r ih =>
        intro wv
        obtain ⟨b, hb1, yes, nope⟩ := wv
        refine wpAny_handleBy_cons (codeAny_handlers_test ?_) (by intro q; cases q)
        have LT : PySem.W.Looks (model X.prog X.w) hp3 (typeOf (.ref ad)) cl := fun A Q E s k q => wpAny_typeOf_ref (k _ _ ho3) (by rw [hz3.1]; exact q)
        have LM := PySem.W.exm_one (M := model X.prog X.w) (J3.kIn) LT hb1
        have tst : ∀ {Q : Value → Shared → Prop} {E : Value → Shared → Prop}, Q c { sn with heap := hp3 } → wpAny (model X.prog X.w) (X.A.mark (some (.ref ad))) (eval (.Name x p1) X.env) Q E { sn with heap := hp3 } := fun {Q E} q => by
          obtain ⟨hg, hdbg, hm | ⟨hm, hv, hnn⟩⟩ := hc
          · exact L2.ld_glob (X := X.suite ad ((ad, ob3) :: (X.pn ++ pins))) S3 hg hm q hdbg
          · exact L2.ld_blt (X := X.suite ad ((ad, ob3) :: (X.pn ++ pins))) S3 hg hm hv q hnn hdbg
        refine tst (LM.here ?_)
        cases b with
        | true =>
          refine codeAny_handlers_suite_as ?_
          refine HandSPX.lands_againZ fly3 fun hp4 fly4 up4 => ?_
          have J4 : L2.Inv X pins σn Hn { sn with heap := hp4 } := JI.landed nb fly4.1 ((up.trans up3).trans up4) oss bare
          obtain ⟨ob4, fv4, ho4, hz4, hd4⟩ := fly4.there
          have S4 := J4.suite ho4 hd4 na neL neF
          refine L2.store_ok (X := X.suite ad ((ad, ob4) :: (X.pn ++ pins))) (v := .ref ad) S4 hnd hi (.inl hln) rfl (fun s5 S5 => ?_) (.inr hln)
          refine wpAny_mono ((hsu ad ob4 cl dd (X.pn ++ pins) hz4 ⟨_, hd4⟩).run [] s5 _ Hn _ S5 (yes rfl ad na)) (fun fl s6 hsp => ?_) (fun _ _ z => False.elim z)
          have fin : ∀ {σ6 : L2.St} {H6 : Hp} {Q : Shared → Prop}, L2.Inv (X.suite ad ((ad, ob4) :: (X.pn ++ pins))) [] σ6 H6 s6 → (∀ s7, L2.Inv X pins (σ6.set i none) H6 s7 → Q s7) →
              wpAny (model X.prog X.w) X.A (do bindName X.env n .none; unbindBehindTheSuite X.env n p2) (fun _ s7 => Q s7) X.xe s6 := fun {σ6 H6 Q} S6 hq => L2.gone_ok (S6.unsuite okX) hnd hi hln hq
          cases fl with
          | next =>
            obtain ⟨σ6, H6, S6, q6⟩ := hsp
            exact fin S6 fun s7 J7 => ⟨_, _, J7, q6⟩
          | brk =>
            obtain ⟨σ6, H6, S6, q6⟩ := hsp
            exact fin S6 fun s7 J7 => ⟨_, _, J7, q6⟩
          | cont =>
            obtain ⟨σ6, H6, S6, q6⟩ := hsp
            exact fin S6 fun s7 J7 => ⟨_, _, J7, q6⟩
          | ret u =>
            obtain ⟨v6, σ6, H6, S6, r6, q6⟩ := hsp
            exact fin S6 fun s7 J7 => ⟨_, _, _, J7, r6, q6⟩
        | false =>
          show wpAny _ X.A (handleBy (.ref ad) X.env hs3) _ _ _
          exact ih (nope rfl)
    exact goes hh wish
  · cases fl with
    | next =>
      obtain ⟨s2, H2, J2, q⟩ := hsp
      exact wpAny_execs_nil ⟨s2, H2, J2.ofTry okX, q⟩
    | brk =>
      obtain ⟨s2, H2, J2, q⟩ := hsp
      exact ⟨s2, H2, J2.ofTry okX, q⟩
    | cont =>
      obtain ⟨s2, H2, J2, q⟩ := hsp
      exact ⟨s2, H2, J2.ofTry okX, q⟩
    | ret u =>
      obtain ⟨v2, s2, H2, J2, r2, q⟩ := hsp
      exact ⟨v2, s2, H2, J2.ofTry okX, r2, q⟩
end
end Mi

set_option maxRecDepth 100000
set_option maxHeartbeats 4000000
namespace Mi
open PySem PySem.Spec PyProof.Rows
open L2 (V Hp HO upd upd_same upd_ne Same SqL SqT Rd VK XK WX PE PT PA OpR CallR IxR SlR TE TT TA tOp Dp DpAll PI TI PG PGs TG TGs PS PSs TS)

/-- the field of an exception class, if it has one -/
def fldG (c : Nat) : Option Str := if c = 8 then some "which" else if c = 11 then some "word" else none
def veBs : List Value := [.type "ValueError", .type "Exception", .type "BaseException", .type "object"]
structure ClsF (K : PySem.W.Frag) (C : Addr) : Prop where
  ga : PySem.W.findIn K (.ref C) "__getattribute__" = some (some (.builtin "BaseException.__getattribute__"))
  gg : PySem.W.findIn K (.ref C) "__getattr__" = some none
  sub : PySem.W.subIn K (.ref C) (.type "BaseException") = some true
  hd : PySem.W.hasDictIn K C = true
  ha : PySem.W.findIn K (.ref C) "__class__" = some (some (.builtin "object.__class__"))
  sp : PySem.W.specialIn K (.builtin "object.__class__") "__get__" = some (some (.builtin "getset_descriptor.__get__"))
  tk : PySem.W.takesIn K (.builtin "object.__class__") = some true
  mr : PySem.W.mroIn K C (.type "object") = some true
  ty : PySem.W.typeIn K (.ref C) = some (.type "type")
  kp : PySem.W.keepIn K (.ref C) = true
def clsB (K : PySem.W.Frag) (C : Addr) : Bool :=
  decide (PySem.W.findIn K (.ref C) "__getattribute__" = some (some (.builtin "BaseException.__getattribute__"))) && (decide (PySem.W.findIn K (.ref C) "__getattr__" = some none) && (decide (PySem.W.subIn K (.ref C) (.type "BaseException") = some true) && (PySem.W.hasDictIn K C &&
    (decide (PySem.W.findIn K (.ref C) "__class__" = some (some (.builtin "object.__class__"))) && (decide (PySem.W.specialIn K (.builtin "object.__class__") "__get__" = some (some (.builtin "getset_descriptor.__get__"))) && (decide (PySem.W.takesIn K (.builtin "object.__class__") = some true) &&
      (decide (PySem.W.mroIn K C (.type "object") = some true) && (decide (PySem.W.typeIn K (.ref C) = some (.type "type")) && PySem.W.keepIn K (.ref C)))))))))
theorem clsB_ok {K : PySem.W.Frag} {C : Addr} (h : clsB K C = true) : ClsF K C := by
  unfold clsB at h
  simp only [Bool.and_eq_true, decide_eq_true_eq] at h
  obtain ⟨h1, h2, h3, h4, h5, h6, h7, h8, h9, h10⟩ := h
  exact ⟨h1, h2, h3, h4, h5, h6, h7, h8, h9, h10⟩

/-- what __init__ of a class with one field promises -/
def spInit (C : Addr) (f : Str) : L2.Sp := fun vs H Q _ => ∃ (a : Addr) (v : V), vs = [.ref a, v] ∧ H a = some (L2.exo a C none) ∧ ∀ dx, H dx = none → dx ≠ a → Q .non (upd (upd H dx (L2.exd dx [(f, v)])) a (L2.exo a C (some dx)))
/-- how a class is made -/
def MkAt (X : L2.Cx) (C : Addr) : Option Str → Prop
  | none => PySem.W.excIn X.K C veBs "ValueError.__new__" = true
  | some f => L2.OexC X.K C ∧ PySem.W.findIn X.K (.ref C) f = some none ∧ ∃ (fI : Addr) (fd : FuncData) (ps : List Str) (k : Nat), PySem.W.findIn X.K (.ref C) "__init__" = some (some (.ref fI)) ∧ PySem.W.typeIn X.K (.ref fI) = some (.type "function") ∧
      L2.FnOk X.prog X.w X.K X.mg X.base (L2.CX X.prog X.w) k fI fd ps (spInit C f) ∧ L2.Room (k + 1) X.A ∧ L2.Binds X.K fd ps []
def ExcAt (L : Lt) (X : L2.Cx) (x : Str) (c : Nat) : Prop := ∃ C, X.mg x = some (.ref C) ∧ L.xc.adr c = some C ∧ ClsF X.K C ∧ MkAt X C (fldG c)

section
variable {L : Lt} {xa : XA} {X : L2.Cx} {W : WX} {e a : Expr} {x : Ex} {pos p p1 p2 pos2 : Pos} {n : Str} {c : Nat}
theorem snd_rse0 {m : Str} {j : Nat} {d : D} (hc : X.calm = true) (tk : L2.Takes X W) (hg : L2.Gl X n) (hdb : (n == ("__debug__" : Str)) = false) (hx : L.xc.fld = fldG) (E : ExcAt L X n c) (hf : fldG c = none) :
    PS X (.Raise (some (.Call (.Name n p) [.Constant (.str m) j p2] [] pos)) none pos2) (rdS L xa W (.rse c (.cst d))) := by
  obtain ⟨C, gC, ad, T, mk⟩ := E
  rw [hf] at mk
  refine PS.imp (L2.ps_raise hc tk (L2.pmk_own F.excBase_ValueError mk gC T.kp (L2.raises_own T.sub T.ty) hg hdb)) fun E s H q => ?_
  obtain ⟨Z, r, ow, S, env, fr, q⟩ := q
  simp only [exS, evE, SR.of] at q
  exact q (.ref C) none s H r ow .refl fr ⟨C, ad, rfl, by rw [hx, hf]⟩
theorem del_upd {H : Hp} {a dx : Addr} {o1 o2 o3 o4 : HO} (ha : H a = none) (hne : dx ≠ a) : upd (L2.del (upd (upd (upd H a o1) dx o2) a o3) a) dx o4 = upd H dx o4 := funext fun b => by
  by_cases e : b = dx
  · rw [e, upd_same, upd_same]
  · rw [upd_ne e, upd_ne e]
    by_cases e2 : b = a
    · rw [e2, L2.del_same, ha]
    · rw [L2.del_ne e2, upd_ne e2, upd_ne e, upd_ne e2]
theorem snd_rse1 {f : Str} (hc : X.calm = true) (tk : L2.Takes X W) (hg : L2.Gl X n) (hdb : (n == ("__debug__" : Str)) = false) (hx : L.xc.fld = fldG) (E : ExcAt L X n c) (hf : fldG c = some f) (h : PE X a (rdE L xa W x)) (st : starEach [a] X.env = (false, eval a X.env) :: starEach [] X.env) :
    PS X (.Raise (some (.Call (.Name n p) [a] [] pos)) none pos2) (rdS L xa W (.rse c x)) := by
  obtain ⟨C, gC, ad, T, mk⟩ := E
  rw [hf] at mk
  obtain ⟨T2, hno, fI, fd, ps, k, iC, tI, F1, hr, hb⟩ := mk
  have pass : L2.Passes (L2.CX X.prog X.w) X (fun _ _ _ => False) := L2.passes_call tk fun _ _ _ _ z => z.elim
  refine PS.imp (L2.ps_raise hc tk (L2.pmk_oex T2 iC tI F1 hr hb .nil pass hg gC (L2.pa_cons h L2.pa_nil st) hdb st rfl)) fun E s H q => ?_
  obtain ⟨Z, r, ow, S, env, fr, q⟩ := q
  simp only [exS] at q
  refine rdE.stm fr q fun d S' h v H' r' st fr' rp => ⟨by simp, fun b hb => ⟨b, v, rfl, upd_same, fun dx hn hne => ⟨rfl, dx, [(f, v)], upd_same, ?_, ?_, ?_⟩⟩⟩
  · rw [upd_ne hne, upd_same]
  · rw [upd_ne hne] at hn; exact hn
  · have hn' : H' dx = none := by rw [upd_ne hne] at hn; exact hn
    rw [del_upd hb hne]
    refine h _ _ s _ r' ow ((SSt.of fr st).trans (.of fr' (.laid hn'))) (fr'.laid hn') ⟨C, ad, rfl, ?_⟩
    rw [hx, hf]
    exact ⟨dx, v, rfl, fr'.fresh hn', upd_same, (Stp.laid hn').rep rp⟩
end

/-- isinstance(e, c), e the exception that the suite holds -/
def rIsX (K : PySem.W.Frag) (ad : Addr) (cl : Value) (dd : Option Addr) : List V → Hp → VK → Prop := fun xs H Q => ∃ (C D : Addr) (b : Bool), xs = [.ref ad, .ref C] ∧ cl = .ref D ∧ ClsF K D ∧ PySem.W.kitOne K (.ref D) (.ref C) = some b ∧ (∀ d, dd = some d → ∃ fs, H d = some (.xd fs)) ∧ Q (.bl b) H
theorem call_isX {X : L2.Cx} {ad : Addr} {ob : Obj} {cl : Value} {dd : Option Addr} {pn : List (Addr × Obj)} (hz : L2.Zc cl dd ob) (hf : ∃ fv, ob.data = .fields fv) : CallR (X.suite ad ((ad, ob) :: pn)) (.builtin "isinstance") (rIsX X.K ad cl dd) := by
  intro pins s σ H xs us Q I r h
  obtain ⟨C, D, b, rfl, rfl, T, e, hd, q⟩ := h
  cases r with
  | cons rx rr =>
    cases rr with
    | cons rt rr =>
      cases rr
      cases rx
      cases rt
      obtain ⟨hget, _⟩ := I.pin (ad, ob) (List.mem_append.mpr (.inl List.mem_cons_self))
      obtain ⟨fv, hv⟩ := hf
      have hcl : (PySem.W.clsIn X.K D).isSome = true := by
        obtain ⟨cd, hc, _⟩ := PySem.W.any_some T.hd
        rw [hc]; rfl
      have J : ∃ od, PySem.W.InstAt s.heap ad ob D od := by
        have nc : PySem.W.notCls ob = true := by unfold PySem.W.notCls; rw [hv] <;> rfl
        cases ed : dd with
        | none =>
          exact ⟨none, hget, hz.1, nc, by rw [hz.2, ed]; trivial⟩
        | some da =>
          obtain ⟨fs, hfs⟩ := hd da ed
          obtain ⟨mA, hns, _⟩ := (show L2.ObjOk X.prog X.w H s.heap da (.xd fs) from I.hok da _ hfs)
          obtain ⟨od, _, _, ho, _⟩ := hns
          exact ⟨some od, hget, hz.1, nc, by rw [hz.2, ed]; exact ho⟩
      obtain ⟨od, J⟩ := J
      exact PySem.W.kia_one (PySem.W.kitx_exc hcl T.ga T.gg T.sub T.ha T.sp T.tk T.mr) I.kIn J e (fun z => nomatch z) fun tk => ⟨.bl b, H, I.kept (t' := tk) fun _ _ z => z, rfl, q⟩
end Mi

set_option maxRecDepth 100000
set_option maxHeartbeats 4000000
namespace Mi
open PySem PySem.Spec PyProof.Rows
open L2 (V Hp HO upd upd_same upd_ne Same SqL SqT Rd VK XK WX PE PT PA OpR CallR IxR SlR TE TT TA tOp Dp DpAll PI TI PG PGs TG TGs PS PSs TS)

/-- the exception classes of a text -/
structure ExF (L : Lt) (M : Mc) (X : L2.Cx) : Prop where
  xk : ∀ T c, M.xcl.lookup T = some c → ExcAt L X T c
  kit : ∀ c C c' C', L.xc.adr c = some C → L.xc.adr c' = some C' → PySem.W.kitOne X.K (.ref C) (.ref C') = some (isSub c c') ∧ PySem.W.exmOne X.K (.ref C) (.ref C') = some (isSub c c')
  cls : ∀ c C, L.xc.adr c = some C → ClsF X.K C
  fld : L.xc.fld = fldG
def Mc.xnm (M : Mc) (c : Nat) : Option Str := (M.xcl.find? fun p => p.2 == c).map (·.1)
def isCmpX : Ex → Bool
  | .cmp _ _ _ => true
  | _ => false
mutual
def hE : Ex → Mc → Expr → Bool
  | .var i, M, e => match e with
    | .Name x _ => (match M.N[i]? with | some y => y == x | none => false) && M.vis x
    | _ => false
  | .cst d, _, e => match e with
    | .Constant c _ _ => mCst d c
    | _ => false
  | .tup es, M, e => match e with
    | .Tuple xs _ _ => hEs es M xs
    | _ => false
  | .lst es, M, e => match e with
    | .List xs _ => hEs es M xs
    | _ => false
  | .bin o a b, M, e => match e with
    | .BinOp x op y _ => op == opOf o && hE a M x && hE b M y
    | _ => false
  | .neg a, M, e => match e with
    | .UnaryOp .USub x _ => hE a M x
    | _ => false
  | .cmp o a b, M, e => match e with
    | .Compare x [op] [y] _ => op == copOf o && hE a M x && hE b M y && nos y
    | _ => false
  | .ite c a b, M, e => match e with
    | .IfExp t x y _ => hE c M t && (plainT t || isCmpX c) && hE a M x && hE b M y
    | _ => false
  | .not a, M, e => match e with
    | .UnaryOp .Not x _ => hE a M x
    | _ => false
  | .and es, M, e => match es, e with
    | [a, b], .BoolOp .And [x, y] _ => hE a M x && hE b M y
    | _, _ => false
  | .mth m a b, M, e => match e with
    | .Call (.Attribute x f ap) [y] [] cp => f == mthName m && abOk x && (ap.endLine == cp.line) && hE a M x && hE b M y && nos y
    | _ => false
  | .efld i c, M, e => match e with
    | .Attribute (.Name x _) f _ => (match M.N[i]? with | some y => y == x | none => false) && M.vis x && (match M.xnm c with | some T => M.xcl.lookup T == some c | none => false) && fldG c == some f
    | _ => false
  | .eis i c, M, e => match e with
    | .Call (.Name g _) [.Name x _, .Name T _] [] _ => g == ("isinstance" : Str) && M.glb g && (match M.N[i]? with | some y => y == x | none => false) && M.vis x && M.glb T && M.xcl.lookup T == some c
    | _ => false
  | _, _, _ => false
def hEs : List Ex → Mc → List Expr → Bool
  | [], _, es => es.isEmpty
  | x :: xs, M, es => match es with
    | e :: es => hE x M e && nos e && hEs xs M es
    | [] => false
end
theorem cmp_shape {o : Cop} {a b : Ex} {M : Mc} {t : Expr} (h : hE (.cmp o a b) M t = true) : ∃ x op y pos, t = .Compare x [op] [y] pos ∧ (op == copOf o) = true ∧ hE a M x = true ∧ hE b M y = true ∧ nos y = true := by
  unfold hE at h
  split at h
  · simp only [Bool.and_eq_true] at h
    exact ⟨_, _, _, _, rfl, h.1.1.1, h.1.1.2, h.1.2, h.2⟩
  · cases h
theorem and_shape {a b : Ex} {M : Mc} {t : Expr} (h : hE (.and [a, b]) M t = true) : ∃ x y pos, t = .BoolOp .And [x, y] pos ∧ hE a M x = true ∧ hE b M y = true := by
  unfold hE at h
  split at h
  · rename_i he
    cases he
    simp only [Bool.and_eq_true] at h
    exact ⟨_, _, _, rfl, h.1, h.2⟩
  · cases h
section
variable {L : Lt} {M : Mc} {X : L2.Cx} {ad : Addr} {ob : Obj} {cl : Value} {dd : Option Addr} {pn : List (Addr × Obj)}
theorem snd_eis {i c : Nat} {n T : Str} {p p1 p2 pos : Pos} (C : CxOk L M X) (ex : ExF L M X) (hz : L2.Zc cl dd ob) (hf : ∃ fv, ob.data = .fields fv) (hN : X.N[i]? = some n) (hv : L2.Vis X.env.scope n) (hd : (n == ("__debug__" : Str)) = false) (hcd : (n == ("__classdict__" : Str)) = false)
    (hg : L2.Gl X "isinstance") (hT : L2.Gl X T) (hdT : (T == ("__debug__" : Str)) = false) (hx : M.xcl.lookup T = some c) :
    PE (X.suite ad ((ad, ob) :: pn)) (.Call (.Name "isinstance" p) [.Name n p1, .Name T p2] [] pos) (rdE L (some (ad, cl, dd)) WN (.eis i c)) := by
  obtain ⟨CT, gT, aT, _, _⟩ := ex.xk T c hx
  have h0 : PE (X.suite ad ((ad, ob) :: pn)) (.Name n p1) (L2.tVar i) := L2.pe_var hN hv hd hcd
  have h1 : PE (X.suite ad ((ad, ob) :: pn)) (.Name T p2) (L2.tC (.ref CT)) := L2.pe_glob hT gT rfl hdT
  refine PE.imp (L2.pe_callB (call_isX hz hf) hg (C.bn _ (by simp [bnames])) (by decide +kernel) (L2.pa_cons h0 (L2.pa_cons h1 L2.pa_nil rfl) rfl) (by decide) (by decide) rfl rfl) fun s H Q q => ?_
  obtain ⟨Z, r, ow, S, env, fr, q⟩ := q
  simp only [evE] at q
  cases ee : env[i]? with
  | none => rw [ee] at q; exact q.elim
  | some pl =>
    rw [ee] at q
    have hs := fr.slot i pl ee
    cases pl with
    | un => exact q.elim
    | own xs => exact q.elim
    | fz d => exact q.elim
    | exn c0 d =>
      obtain ⟨_, a0, cl0, dd0, exa, es, CE, e1, e2, e3⟩ := hs
      cases exa
      refine ⟨_, es, CT, CE, isSub c0 c, rfl, e2, ex.cls _ _ e1, (ex.kit _ _ _ _ e1 aT).1, fun d' hd' => ?_, q _ _ _ .refl fr (by rw [Rep])⟩
      cases ef : L.xc.fld c0 with
      | none => rw [ef] at e3; rw [e3] at hd'; cases hd'
      | some f =>
        rw [ef] at e3
        obtain ⟨da, v, g1, _, g3, _⟩ := e3
        rw [g1] at hd'; cases hd'
        exact ⟨_, g3⟩
theorem snd_efld {i c : Nat} {n T f : Str} {p1 pos : Pos} (C : CxOk L M X) (ex : ExF L M X) (hz : L2.Zc cl dd ob) (hf : ∃ fv, ob.data = .fields fv) (hN : X.N[i]? = some n) (hv : L2.Vis X.env.scope n) (hd : (n == ("__debug__" : Str)) = false) (hcd : (n == ("__classdict__" : Str)) = false)
    (hx : M.xcl.lookup T = some c) (hfl : fldG c = some f) : PE (X.suite ad ((ad, ob) :: pn)) (.Attribute (.Name n p1) f pos) (rdE L (some (ad, cl, dd)) WN (.efld i c)) := by
  obtain ⟨CT, gT, aT, TF, mk⟩ := ex.xk T c hx
  rw [hfl] at mk
  have h0 : PE (X.suite ad ((ad, ob) :: pn)) (.Name n p1) (L2.tVar i) := L2.pe_var hN hv hd hcd
  refine PE.imp (L2.pe_xf (C := CT) ⟨TF.ga, TF.gg, TF.sub, TF.hd⟩ mk.2.1 hz hf h0) fun s H Q q => ?_
  obtain ⟨Z, r, ow, S, env, fr, q⟩ := q
  simp only [evE] at q
  cases ee : env[i]? with
  | none => rw [ee] at q; exact q.elim
  | some pl =>
    rw [ee] at q
    have hs := fr.slot i pl ee
    cases pl with
    | un => exact q.elim
    | own xs => exact q.elim
    | fz d => exact q.elim
    | exn c0 d =>
      dsimp only at q
      split at q
      · rename_i hc
        subst hc
        obtain ⟨_, a0, cl0, dd0, exa, es, CE, e1, e2, e3⟩ := hs
        cases exa
        rw [aT] at e1
        cases e1
        rw [ex.fld, hfl] at e3
        obtain ⟨da, v, g1, _, g3, g4⟩ := e3
        exact ⟨_, es, rfl, e2, da, _, v, g1, g3, by simp [List.lookup], q _ _ _ .refl fr g4⟩
      · exact q.elim
theorem sndHR {x : Ex} {e : Expr} (C : CxOk L M X) (h : hE x M e = true) (k : PE (X.suite ad ((ad, ob) :: pn)) e (rdE L (some (ad, cl, dd)) WN x)) : PE (X.suite ad ((ad, ob) :: pn)) e (rdR L (some (ad, cl, dd)) WN x) := by
  cases x with
  | var i =>
    cases e <;> simp [hE] at h
    have hv := C.vis h.2
    exact sndR_var (X := X.suite ad ((ad, ob) :: pn)) (by show X.N[i]? = _; rw [C.hN]; exact at_of h.1) hv.1 hv.2.1 hv.2.2
  | _ => exact sndR_of (fun i z => nomatch z) k
mutual
theorem sndHE : ∀ (x : Ex) {e : Expr}, CxOk L M X → ExF L M X → L2.Zc cl dd ob → (∃ fv, ob.data = .fields fv) → hE x M e = true → PE (X.suite ad ((ad, ob) :: pn)) e (rdE L (some (ad, cl, dd)) WN x)
  | .var i, e, C, ex, hz, hf, h => by
    cases e <;> simp [hE] at h
    have hv := C.vis h.2
    exact snd_var (X := X.suite ad ((ad, ob) :: pn)) (by show X.N[i]? = _; rw [C.hN]; exact at_of h.1) hv.1 hv.2.1 hv.2.2
  | .cst d, e, C, ex, hz, hf, h => by
    cases e <;> simp [hE] at h
    rename_i c j pos
    obtain ⟨v, h1, h2⟩ := mCst_ok (X := X.suite ad ((ad, ob) :: pn)) (L := L) (j := j) (pos := pos) h
    exact snd_cst h1 h2
  | .tup es, e, C, ex, hz, hf, h => by
    cases e <;> simp [hE] at h
    exact snd_tup (sndHEs es C ex hz hf h)
  | .lst es, e, C, ex, hz, hf, h => by
    cases e <;> simp [hE] at h
    exact snd_lst (sndHEs es C ex hz hf h)
  | .bin o a b, e, C, ex, hz, hf, h => by
    cases e <;> simp only [hE, Bool.and_eq_true] at h <;> (try (cases h; done))
    obtain ⟨⟨h0, h1⟩, h2⟩ := h
    rw [opOf_eq h0]
    exact snd_bin (X := X.suite ad ((ad, ob) :: pn)) C.hK (sndHR C h1 (sndHE a C ex hz hf h1)) (sndHR C h2 (sndHE b C ex hz hf h2))
  | .neg a, e, C, ex, hz, hf, h => by
    cases e <;> simp [hE] at h
    rename_i op y pos
    cases op <;> simp at h
    exact snd_neg (sndHE a C ex hz hf h)
  | .cmp o a b, e, C, ex, hz, hf, h => by
    cases e <;> simp only [hE] at h <;> (try (cases h; done))
    rename_i l ops cs pos
    match ops, cs, h with
    | [op], [y], h =>
      simp only [Bool.and_eq_true] at h
      obtain ⟨⟨⟨h0, h1⟩, h2⟩, h3⟩ := h
      rw [copOf_eq h0]
      exact snd_cmp (X := X.suite ad ((ad, ob) :: pn)) C.hK C.u64 (sndHR C h1 (sndHE a C ex hz hf h1)) (sndHR C h2 (sndHE b C ex hz hf h2)) (mark_of h3 _)
    | [], _, h => simp at h
    | [_], [], h => simp at h
    | [_], _ :: _ :: _, h => simp at h
    | _ :: _ :: _, _, h => simp at h
  | .ite c a b, e, C, ex, hz, hf, h => by
    cases e <;> simp only [hE, Bool.and_eq_true] at h <;> (try (cases h; done))
    obtain ⟨⟨⟨h0, h1⟩, h2⟩, h3⟩ := h
    refine snd_ite ?_ (sndHE a C ex hz hf h2) (sndHE b C ex hz hf h3)
    rcases Bool.or_eq_true_iff.mp h1 with h1 | h1
    · exact sndT_val (sndHE c C ex hz hf h0) (fun w => true_of h1 w)
    · cases hcc : c <;> rw [hcc] at h1 <;> first | (cases h1; done) | skip
      · rename_i o a' b'
        have t1 : sizeOf a' < sizeOf (Ex.ite c a b) := by rw [hcc]; simp; omega
        have t2 : sizeOf b' < sizeOf (Ex.ite c a b) := by rw [hcc]; simp; omega
        obtain ⟨x, op, y, pos, rfl, g0, g1, g2, g3⟩ := cmp_shape (hcc ▸ h0)
        rw [copOf_eq g0]
        exact sndT_cmp (X := X.suite ad ((ad, ob) :: pn)) C.hK C.u64 (sndHR C g1 (sndHE a' C ex hz hf g1)) (sndHR C g2 (sndHE b' C ex hz hf g2)) (mark_of g3 _)
  | .not a, e, C, ex, hz, hf, h => by
    cases e <;> simp [hE] at h
    rename_i op y pos
    cases op <;> simp at h
    exact snd_not (sndHE a C ex hz hf h)
  | .and [a, b], e, C, ex, hz, hf, h => by
    obtain ⟨x, y, pos, rfl, g1, g2⟩ := and_shape h
    have k := snd_and2 (L := L) (xa := some (ad, cl, dd)) (W := WN) (sndHE a C ex hz hf g1) (snd_one (x := b) (pos := pos) (by funext env S; simp [evAnd]) (sndHE b C ex hz hf g2)) (pos := pos)
    refine PE.imp k fun s H Q q => ?_
    obtain ⟨Z, r, ow, S, env, fr, q⟩ := q
    simp only [evE] at q
    exact ⟨Z, r, ow, S, env, fr, q⟩
  | .and [], e, C, ex, hz, hf, h => by simp [hE] at h
  | .and [_], e, C, ex, hz, hf, h => by simp [hE] at h
  | .and (_ :: _ :: _ :: _), e, C, ex, hz, hf, h => by simp [hE] at h
  | .mth m a b, e, C, ex, hz, hf, h => by
    unfold hE at h
    split at h
    case h_2 => cases h
    simp only [Bool.and_eq_true, beq_iff_eq] at h
    obtain ⟨⟨⟨⟨⟨rfl, h1⟩, h2⟩, h3⟩, h4⟩, h5⟩ := h
    exact snd_mth (X := X.suite ad ((ad, ob) :: pn)) C.hK (sndHR C h3 (sndHE a C ex hz hf h3)) (sndHE b C ex hz hf h4) (ab_of h1 _ _) (fun es => star_of h5 es _) (by simpa using h2)
  | .efld i c, e, C, ex, hz, hf, h => by
    unfold hE at h
    split at h
    case h_2 => cases h
    simp only [Bool.and_eq_true] at h
    obtain ⟨⟨⟨h1, h2⟩, h3⟩, h4⟩ := h
    have hv := C.vis h2
    cases eT : M.xnm c with
    | none => rw [eT] at h3; cases h3
    | some T =>
      rw [eT] at h3
      exact snd_efld C ex hz hf (by rw [C.hN]; exact at_of h1) hv.1 hv.2.1 hv.2.2 (eq_of_beq h3) (eq_of_beq h4)
  | .eis i c, e, C, ex, hz, hf, h => by
    unfold hE at h
    split at h
    case h_2 => cases h
    simp only [Bool.and_eq_true] at h
    obtain ⟨⟨⟨⟨⟨h0, h1⟩, h2⟩, h3⟩, h4⟩, h5⟩ := h
    have hv := C.vis h3
    cases eq_of_beq h0
    exact snd_eis C ex hz hf (by rw [C.hN]; exact at_of h2) hv.1 hv.2.1 hv.2.2 (C.glb h1).1 (C.glb h4).1 (C.glb h4).2 (eq_of_beq h5)
  | .chn _ _ _ _ _, e, C, ex, hz, hf, h => by simp [hE] at h
  | .or _, e, C, ex, hz, hf, h => by simp [hE] at h
  | .idx _ _, e, C, ex, hz, hf, h => by simp [hE] at h
  | .slc _ _ _, e, C, ex, hz, hf, h => by simp [hE] at h
  | .isi _ _, e, C, ex, hz, hf, h => by simp [hE] at h
  | .call _ _ _ _, e, C, ex, hz, hf, h => by simp [hE] at h
  | .drawn _ _ _, e, C, ex, hz, hf, h => by simp [hE] at h
  | .blt _ _, e, C, ex, hz, hf, h => by simp [hE] at h
  | .rng _, e, C, ex, hz, hf, h => by simp [hE] at h
  | .zip _ _, e, C, ex, hz, hf, h => by simp [hE] at h
  | .enm _, e, C, ex, hz, hf, h => by simp [hE] at h
  | .lc _ _ _ _, e, C, ex, hz, hf, h => by simp [hE] at h
  | .rev _, e, C, ex, hz, hf, h => by simp [hE] at h
  | .lrng _, e, C, ex, hz, hf, h => by simp [hE] at h
  | .sset _, e, C, ex, hz, hf, h => by simp [hE] at h
  | .lset _, e, C, ex, hz, hf, h => by simp [hE] at h
  | .lc2 _ _ _ _ _ _, e, C, ex, hz, hf, h => by simp [hE] at h
  | .fld _ _, e, C, ex, hz, hf, h => by simp [hE] at h
  | .meth _ _ _ _ _ _, e, C, ex, hz, hf, h => by simp [hE] at h
  | .mk _ _ _ _ _, e, C, ex, hz, hf, h => by simp [hE] at h
  | .new _, e, C, ex, hz, hf, h => by simp [hE] at h
  | .cpop _ _, e, C, ex, hz, hf, h => by simp [hE] at h
  | .cmpC _ _ _, e, C, ex, hz, hf, h => by simp [hE] at h
  | .binC _ _ _, e, C, ex, hz, hf, h => by simp [hE] at h
  | .idxC _ _, e, C, ex, hz, hf, h => by simp [hE] at h
  | .slcC _ _ _, e, C, ex, hz, hf, h => by simp [hE] at h
  | .bltC _ _, e, C, ex, hz, hf, h => by simp [hE] at h
  | .ilen _ _ _, e, C, ex, hz, hf, h => by simp [hE] at h
  | .dget _ _, e, C, ex, hz, hf, h => by simp [hE] at h
  | .din _ _ _, e, C, ex, hz, hf, h => by simp [hE] at h
  | .dnew _, e, C, ex, hz, hf, h => by simp [hE] at h
  | .ddsp _, e, C, ex, hz, hf, h => by simp [hE] at h
  | .dcp _, e, C, ex, hz, hf, h => by simp [hE] at h
termination_by x => sizeOf x
theorem sndHEs : ∀ (xs : List Ex) {es : List Expr}, CxOk L M X → ExF L M X → L2.Zc cl dd ob → (∃ fv, ob.data = .fields fv) → hEs xs M es = true → PA (X.suite ad ((ad, ob) :: pn)) es (rdEs L (some (ad, cl, dd)) WN xs)
  | [], [], C, ex, hz, hf, h => snd_es_nil
  | [], _ :: _, C, ex, hz, hf, h => by simp [hEs] at h
  | _ :: _, [], C, ex, hz, hf, h => by simp [hEs] at h
  | x :: xs, e :: es, C, ex, hz, hf, h => by
    simp only [hEs, Bool.and_eq_true] at h
    exact snd_es_cons (sndHE x C ex hz hf h.1.1) (sndHEs xs C ex hz hf h.2) (star_of h.1.2 es _)
termination_by xs => sizeOf xs
end
end
end Mi

set_option maxRecDepth 100000
set_option maxHeartbeats 4000000
namespace Mi
open PySem PySem.Spec PyProof.Rows
open L2 (V Hp HO upd upd_same upd_ne Same SqL SqT Rd VK XK WX PE PT PA OpR CallR IxR SlR TE TT TA tOp Dp DpAll PI TI PG PGs TG TGs PS PSs TS)

def noCmp : Expr → Bool
  | .ListComp .. => false
  | .SetComp .. => false
  | .DictComp .. => false
  | _ => true
mutual
def hS : St → Mc → Stmt → Bool
  | .ret e, M, st => match st with
    | .Return (some v) _ => hE e M v
    | _ => false
  | .set t e, M, st => match t, st with
    | .v i, .Assign [.Name x p] v _ => mG M (.v i) (.Name x p) && hE e M v && noCmp v
    | _, _ => false
  | .ite c a b, M, st => match st with
    | .If t x y _ => hE c M t && plainT t && hSs a M x && hSs b M y
    | _ => false
  | _, _, _ => false
def hSs : List St → Mc → List Stmt → Bool
  | [], _, sts => sts.isEmpty
  | x :: xs, M, sts => match sts with
    | st :: rest => hS x M st && hSs xs M rest
    | [] => false
end
def mHs : List (Nat × Nat × List St) → Mc → List ExceptHandler → Bool
  | [], _, hs => hs.isEmpty
  | (C, i, b) :: r, M, hs => match hs with
    | .ExceptHandler (some (.Name x _)) (some n) body _ :: hs => M.glb x && M.xcl.lookup x == some C && (match M.N[i]? with | some y => y == n | none => false) && M.names.lookup n == some .local && !body.isEmpty && hSs b M body && mHs r M hs
    | _ => false
section
variable {L : Lt} {M : Mc} {X : L2.Cx} {ad : Addr} {ob : Obj} {cl : Value} {dd : Option Addr} {pn : List (Addr × Obj)}
theorem sw_no {v : Expr} {t : Option Expr} {l : Nat} {env : PySem.Env} (ho : noCmp v = true) : swapsWith v t l env = pure false := by
  cases v <;> first | rfl | (simp [noCmp] at ho; done)
mutual
theorem sndHS : ∀ (x : St) {st : Stmt}, CxOk L M X → ExF L M X → L2.Zc cl dd ob → (∃ fv, ob.data = .fields fv) → hS x M st = true → PS (X.suite ad ((ad, ob) :: pn)) st (rdS L (some (ad, cl, dd)) WN x)
  | .ret e, st, C, ex, hz, hf, h => by
    unfold hS at h
    split at h
    case h_2 => cases h
    exact sndS_ret (sndHE e C ex hz hf h)
  | .set t e, st, C, ex, hz, hf, h => by
    unfold hS at h
    split at h
    case h_2 => cases h
    simp only [Bool.and_eq_true] at h
    obtain ⟨⟨h1, h2⟩, h3⟩ := h
    simp only [mG, Bool.and_eq_true] at h1
    have hs := C.sto h1.2
    have hN := at_of h1.1
    rw [← C.hN] at hN
    exact sndS_set1 (X := X.suite ad ((ad, ob) :: pn)) hN (L2.ps_set (X := X.suite ad ((ad, ob) :: pn)) C.nd hN hs.1 (sndHE e C ex hz hf h2) (sw_no h3) hs.2) fun _ _ _ q => q
  | .ite c a b, st, C, ex, hz, hf, h => by
    unfold hS at h
    split at h
    case h_2 => cases h
    simp only [Bool.and_eq_true] at h
    obtain ⟨⟨⟨h1, h2⟩, h3⟩, h4⟩ := h
    exact sndS_ite (sndT_val (sndHE c C ex hz hf h1) (fun w => true_of h2 w)) (sndHSs a C ex hz hf h3) (sndHSs b C ex hz hf h4)
  | .own _ _, st, C, ex, hz, hf, h => by simp [hS] at h
  | .par _ _, st, C, ex, hz, hf, h => by simp [hS] at h
  | .star _ _ _, st, C, ex, hz, hf, h => by simp [hS] at h
  | .aug _ _, st, C, ex, hz, hf, h => by simp [hS] at h
  | .app _ _, st, C, ex, hz, hf, h => by simp [hS] at h
  | .pop _ _, st, C, ex, hz, hf, h => by simp [hS] at h
  | .put _ _ _, st, C, ex, hz, hf, h => by simp [hS] at h
  | .frz _, st, C, ex, hz, hf, h => by simp [hS] at h
  | .exp _, st, C, ex, hz, hf, h => by simp [hS] at h
  | .whl _ _, st, C, ex, hz, hf, h => by simp [hS] at h
  | .for_ _ _ _, st, C, ex, hz, hf, h => by simp [hS] at h
  | .rse _ _, st, C, ex, hz, hf, h => by simp [hS] at h
  | .try_ _ _, st, C, ex, hz, hf, h => by simp [hS] at h
  | .pass, st, C, ex, hz, hf, h => by simp [hS] at h
  | .nvr, st, C, ex, hz, hf, h => by simp [hS] at h
  | .as1 _ _, st, C, ex, hz, hf, h => by simp [hS] at h
  | .asN _ _, st, C, ex, hz, hf, h => by simp [hS] at h
  | .capp _ _, st, C, ex, hz, hf, h => by simp [hS] at h
termination_by x => sizeOf x
theorem sndHSs : ∀ (xs : List St) {sts : List Stmt}, CxOk L M X → ExF L M X → L2.Zc cl dd ob → (∃ fv, ob.data = .fields fv) → hSs xs M sts = true → PSs (X.suite ad ((ad, ob) :: pn)) sts (rdSs L (some (ad, cl, dd)) WN xs)
  | [], [], C, ex, hz, hf, h => sndSs_nil
  | [], _ :: _, C, ex, hz, hf, h => by simp [hSs] at h
  | _ :: _, [], C, ex, hz, hf, h => by simp [hSs] at h
  | x :: xs, st :: sts, C, ex, hz, hf, h => by
    simp only [hSs, Bool.and_eq_true] at h
    exact sndSs_cons (sndHS x C ex hz hf h.1) (sndHSs xs C ex hz hf h.2)
termination_by xs => sizeOf xs
end
/-- the clauses by the model's words -/
def hnds (L : Lt) : List (Nat × Nat × List St) → List Hnd
  | [] => []
  | (C, i, b) :: r => (.ref ((L.xc.adr C).getD 0), i, fun ad cl dd => rdSs L (some (ad, cl, dd)) WN b) :: hnds L r
theorem hs_ok (C : CxOk L M X) (ex : ExF L M X) : ∀ {hs : List (Nat × Nat × List St)} {es : List ExceptHandler}, mHs hs M es = true → HsOk X es (hnds L hs) ∧ es.length = hs.length ∧ ∀ h ∈ hs, ∃ A, L.xc.adr h.1 = some A
  | [], [], _ => ⟨.nil, rfl, fun h hh => by cases hh⟩
  | [], _ :: _, h => by simp [mHs] at h
  | (c, i, b) :: r, es, h => by
    unfold mHs at h
    split at h
    case h_2 => cases h
    rename_i x p1 n body p2 hs
    simp only [Bool.and_eq_true] at h
    obtain ⟨⟨⟨⟨⟨⟨h1, h2⟩, h3⟩, h4⟩, h5⟩, h6⟩, h7⟩ := h
    obtain ⟨k1, k2, k3⟩ := hs_ok C ex h7
    obtain ⟨CC, g1, g2, _, _⟩ := ex.xk x c (eq_of_beq h2)
    have hg := C.glb h1
    cases body with
    | nil => simp at h5
    | cons b0 su =>
      refine ⟨.cons ⟨hg.1, hg.2, .inl (by rw [g2]; exact g1)⟩ (by rw [C.hN]; exact at_of h3) ?_ (fun ad ob cl dd pn hz hf => sndHSs b C ex hz hf h6) k1, by simp [k2], fun h hh => ?_⟩
      · unfold Env.kindOf
        rw [C.nm]
        exact eq_of_beq h4
      · rcases List.mem_cons.mp hh with rfl | hh
        · exact ⟨CC, g2⟩
        · exact k3 h hh
end
section
variable {G : Gd} {xc : Xc} {xa : XA} {Z : Addr → Prop} {r : List Addr} {ow : Nat → Option Addr} {H : Hp} {S : Sto} {env : Env} {s : L2.St}
theorem Fr.heat (fr : Fr G xc none Z r ow H S env s) : Fr G xc xa Z r ow H S env s where
  slot := fun i p e => by
    have h := fr.slot i p e
    cases p with
    | un => exact h
    | fz d => exact h
    | own xs => exact h
    | exn c d =>
      obtain ⟨_, a, cls, dd, z, _⟩ := h
      cases z
  out := fr.out
  inj := fr.inj
  dis := fr.dis
  zr := fr.zr
  al := fr.al
  sto := fr.sto
  len := fr.len
  scr := fr.scr
  scf := fr.scf
theorem noX_at : ∀ {env : Env} {i : Nat} {c : Nat} {d : D}, noX env = true → env[i]? = some (.exn c d) → False
  | [], i, c, d, _, e => by simp at e
  | .exn _ _ :: env, i, c, d, h, e => by simp [noX] at h
  | .un :: env, 0, c, d, h, e => by simp at e
  | .fz _ :: env, 0, c, d, h, e => by simp at e
  | .own _ :: env, 0, c, d, h, e => by simp at e
  | .un :: env, i + 1, c, d, h, e => noX_at (env := env) (i := i) (by simpa [noX] using h) (by simpa using e)
  | .fz _ :: env, i + 1, c, d, h, e => noX_at (env := env) (i := i) (by simpa [noX] using h) (by simpa using e)
  | .own _ :: env, i + 1, c, d, h, e => noX_at (env := env) (i := i) (by simpa [noX] using h) (by simpa using e)
theorem Fr.cool (fr : Fr G xc xa Z r ow H S env s) (hx : noX env = true) : Fr G xc none Z r ow H S env s where
  slot := fun i p e => by
    have h := fr.slot i p e
    cases p with
    | un => exact h
    | fz d => exact h
    | own xs => exact h
    | exn c d => exact (noX_at hx e).elim
  out := fr.out
  inj := fr.inj
  dis := fr.dis
  zr := fr.zr
  al := fr.al
  sto := fr.sto
  len := fr.len
  scr := fr.scr
  scf := fr.scf
theorem Fr.done (fr : Fr G xc xa Z r ow H S env s) : Fr G xc none Z r no H S [] [] := fr.base.unban fun a z => .inl z
theorem no_less : Less no ow := fun _ => .inr rfl
end
section
variable {L : Lt} {M : Mc} {X : L2.Cx} {W : WX} {Z : Addr → Prop} {r : List Addr} {ow : Nat → Option Addr} {H : Hp} {E : L2.Ends}
theorem hs_wish (ex : ExF L M X) {c : Nat} {d : D} {env : Env} {S : Sto} : ∀ {hs : List (Nat × Nat × List St)}, (∀ h ∈ hs, ∃ A, L.xc.adr h.1 = some A) → PostS L none Z r ow H E W (exHs L.F L.wf hs c d env S) →
    ∀ cls dd s' H' r' ow', SSt Z r ow H r' ow' H' → Fr L.G L.xc none Z r' ow' H' S env s' → ExR L.G L.xc H' (BB Z r' ow') r' c d cls dd → wAsM X.K W E (hnds L hs) cls dd s' H'
  | [], _, q => by
    simp only [exHs] at q
    exact q
  | (C, i, b) :: hs, ha, q => by
    intro cls dd s' H' r' ow' t fr exr
    obtain ⟨A, hA⟩ := ha (C, i, b) List.mem_cons_self
    dsimp only at hA
    obtain ⟨C0, e1, e2, e3⟩ := id exr
    simp only [exHs] at q
    refine ⟨isSub c C, ?_, fun hb a0 na => ?_, fun hb => ?_⟩
    · rw [e2, hA]
      exact (ex.kit _ _ _ _ e1 hA).2
    · rw [if_pos hb] at q
      have fr1 : ∃ ow1, Less ow1 ow' ∧ Fr L.G L.xc (some (a0, cls, dd)) Z r' ow1 H' S (env.set i (.exn c d)) (s'.set i (some (.ref a0))) := by
        by_cases hie : i < env.length
        · exact ⟨drop1 ow' i, drop1_less i, (fr.heat (xa := some (a0, cls, dd))).put (p := .exn c d) (o := some (.ref a0)) hie fun s2 es => ⟨by unfold drop1; rw [if_pos rfl], a0, cls, dd, rfl, es, exr.ban fun a z => (drop1_less i).bb z⟩⟩
        · have he : env.set i (.exn c d) = env := List.set_eq_of_length_le (by omega)
          have hs : s'.set i (some (.ref a0)) = s' := List.set_eq_of_length_le (by rw [← fr.len]; omega)
          rw [he, hs]
          exact ⟨ow', fun _ => .inl rfl, fr.heat⟩
      obtain ⟨ow1, le1, fr1⟩ := fr1
      refine ⟨Z, r', ow1, S, env.set i (.exn c d), fr1, ?_⟩
      have t1 : SSt Z r ow H r' ow1 H' := t.trans (.less le1)
      cases e : exSs L.F L.wf b (env.set i (.exn c d)) S with
      | ok f S2 =>
        rw [e] at q
        cases f with
        | nx env2 =>
          simp only [exEnd] at q
          split at q
          · rename_i hx
            intro s2 H2 r2 ow2 t2 fr2
            show E.nx (s2.set i none) H2
            by_cases hi2 : i < env2.length
            · have fr3 : Fr L.G L.xc (some (a0, cls, dd)) Z r2 (drop1 ow2 i) H2 S2 (env2.set i .un) (s2.set i none) := fr2.put (p := .un) (o := none) hi2 fun s3 _ => by unfold drop1; exact if_pos rfl
              exact q _ H2 r2 _ ((t1.trans t2).trans (.less (drop1_less i))) (fr3.cool hx)
            · have he : env2.set i .un = env2 := List.set_eq_of_length_le (by omega)
              have hs : s2.set i none = s2 := List.set_eq_of_length_le (by rw [← fr2.len]; omega)
              rw [he] at q hx
              rw [hs]
              exact q _ H2 r2 _ (t1.trans t2) (fr2.cool hx)
          · exact q.elim
        | rt d2 =>
          simp only [exEnd] at q
          intro v env2 s2 H2 r2 ow2 t2 fr2 rp
          refine q v [] [] H2 r2 no ((t1.trans t2).trans (.less no_less)) fr2.done (rp.ban fun a z => no_less.bb z)
      | exc c2 d2 e2 S2 => rw [e] at q; exact q.elim
      | stuck => rw [e] at q; exact q.elim
    · rw [if_neg (by rw [hb]; decide)] at q
      exact hs_wish ex (fun h hh => ha h (List.mem_cons_of_mem _ hh)) q cls dd s' H' r' ow' t fr exr
end
end Mi

set_option maxRecDepth 100000
set_option maxHeartbeats 4000000
namespace Mi
open PySem PySem.Spec PyProof.Rows
open L2 (V Hp HO upd upd_same upd_ne SqL SqT Rd VK XK WX PE PT PA PG PGs TG TGs PS PSs TS)
theorem walksList {prog : Program} {w : World} {A : Around} (hh : A.handled = none) (I l : Addr) (hne : l ≠ I) (items : Array Value) :
    WalksS prog w A I [I, l] [I] Eq items.size (fun i v => items[i]? = some v) (fun i s => s.heap.IsListIter I l i ∧ s.heap.IsList l items) where
  sub := fun b hb => by simp at hb; simp [hb]
  grefl := fun _ => rfl
  gtrans := fun _ _ _ h1 h2 => h1.trans h2
  frame := fun _ _ _ _ st _ hk => ⟨st.1.at fun o e => hk I (by simp) o e, st.2.at fun o e => hk l (by simp) o e⟩
  item := fun i s Q E hi st hQ => by
    refine wpAny_pyNext_list_item st.1 st.2 (x := items[i]) (by simp [hi]) fun h' hit' hs' => ?_
    exact hQ _ _ (by simp [hi]) ⟨hit', st.2.extBut hs'.extBut hne⟩ ⟨fun b o hb e => hs'.extBut b o (fun h => hb (by simp [h])) e, rfl, rfl, rfl, Nat.le_refl _⟩
  done := fun s Q E st hQ => wpAny_pyNext_list_end hh st.1 st.2 (by simp) fun h' he' => hQ _ ⟨fun b o hb e => he' b o (fun h => hb (by simp [h])) e, rfl, rfl, rfl, Nat.le_refl _⟩
  self := fun _ _ _ _ st hQ => wpAny_pyIter_listiter st.1 hQ
def gStar (K : PySem.W.Frag) (i j : Nat) : TG := fun v σ H Q => ∃ a xs y, v = .ref a ∧ SqL K H a (xs ++ [y]) ∧ ∀ p, H p = none → Q ((σ.set i (some (.ref p))).set j (some y)) (upd H p (.lst xs))
section
variable {X : L2.Cx} {pos px py ps : Pos} {k : Nat}
theorem pg_star {i j : Nat} {x y : Str} (hc : X.calm = true) (hN : X.N.Nodup) (hi : X.N[i]? = some x) (hj : X.N[j]? = some y) (hx : L2.Loc X.env.scope x) (hy : L2.Loc X.env.scope y)
    (fx : X.fn x = true ∨ X.env.scope.names.lookup x = some .local) (fy : X.fn y = true ∨ X.env.scope.names.lookup y = some .local) :
    PG X (.Tuple [.Starred (.Name x px) ps, .Name y py] k pos) (gStar X.K i j) := by
  refine ⟨fun pins s σ H v u Q I r h => ?_⟩
  obtain ⟨a, xs, z, e1, hq, q⟩ := h
  subst e1
  cases r
  obtain ⟨its, rv, p, hz⟩ := I.list hq
  have hl := rv.length
  rw [PyProof.Rows.assign_Tuple]
  refine wpAny_bind (wpAny_standAt ?_)
  unfold unpack
  refine wpAny_bind (wpAny_holding ?_)
  show wpAny _ _ (unpackItems (.ref a) 2 (some 0)) _ _ s
  have hLs := p.isList
  have hlt : a ≠ s.heap.objs.size := by obtain ⟨o, ho, _⟩ := hLs; exact Nat.ne_of_lt (Heap.lt_size ho)
  unfold unpackItems
  refine wpAny_bind ?_
  unfold notIterableAtAll
  refine wpAny_bind (wpAny_specialOf hLs.typeIs PySem.F.slot_list_iter.lookup ?_)
  refine wpAny_pure ?_
  simp only [Bool.false_eq_true, if_false]
  refine wpAny_bind (wpAny_holding (wpAny_pyIter_list hLs ?_))
  refine wpAny_bind (wpAny_holding ?_)
  show wpAny _ _ (pure []) _ _ _
  refine wpAny_pure ?_
  rw [if_neg (by simp)]
  have hh : X.A.handled = none := I.ok.hd hc
  obtain ⟨u1, u2, eits, v1, v2⟩ := StX.vals_split rv
  have hl1 := v1.length
  have hl2 := v2.length
  obtain ⟨w, ew⟩ : ∃ w, u2 = [w] := by
    match u2, hl2 with
    | [w], _ => exact ⟨w, rfl⟩
  subst ew
  refine wpAny_bind (wpAny_holding (wpAny_collect_iter (T := "list_iterator") (.inr (.inr (.inl rfl))) (walksList (A := X.A.in1) hh s.heap.objs.size a hlt its.toArray) (fun _ _ st => st.1.typeIs) ⟨⟨_, Heap.get?_push_size _ rfl, rfl, rfl⟩, hLs.push _⟩ (fun b hb => ?_) (by simp) (fun s' acc hm hit => ?_) ?_))
  · have ha : a < s.heap.objs.size := by obtain ⟨o, ho, _⟩ := hLs; exact Heap.lt_size ho
    simp only [List.mem_cons, List.not_mem_nil, or_false] at hb
    show b < (s.heap.objs.push _).size
    rw [Array.size_push]
    rcases hb with e | e
    · rw [e]; exact Nat.lt_succ_self _
    · rw [e]; exact Nat.lt_succ_of_lt ha
  · have eacc : acc.toList = its := by
      have : acc = its.toArray := by
        apply Array.ext
        · exact hit.1
        · intro t h1 h2
          have : its.toArray[t]? = some acc[t] := hit.2 t acc[t] (by simp [h1])
          rw [Array.getElem?_eq_getElem h2] at this
          exact (Option.some.inj this).symm
      rw [this]
    rw [eacc]
    rw [if_neg (by rw [eits]; simp)]
    have hmid : its.length - (2 - 1 - 0) = u1.length := by rw [eits]; simp
    simp only [hmid]
    have ht1 : its.take u1.length = u1 := by rw [eits]; simp
    have ht2 : its.drop u1.length = [w] := by rw [eits]; simp
    rw [ht1, ht2]
    refine wpAny_bind (wpAny_newList ?_ ?_)
    · refine wpAny_pure ?_
      obtain ⟨hp', gp', dr', tk', os'⟩ := s'
      obtain ⟨mh, mg, md, mo, mt⟩ := hm
      simp only at mg md mo mt mh
      subst mg md mo
      have I1 : L2.Inv X pins σ H { s with heap := hp', toks := tk' } := I.kept (t' := tk') fun b o e => mh b o (by
        have := Heap.lt_size e
        simp only [List.mem_cons, List.not_mem_nil, or_false]
        exact Nat.ne_of_lt this) (Heap.get?_push_of_some _ e)
      have I2 := I1.laid (a := hp'.objs.size) (o := .lst xs) (t' := tk') (h' := hp'.push { cls := .type "list", data := .seq u1.toArray }) (fun b o e => Heap.get?_push_of_some _ e) (Nat.le_refl _) ⟨by simp at hz; omega, u1, 0, v1, Heap.get?_push_size _ rfl⟩
      have hP : PGs X [.Name x px, .Name y py] (L2.gCons (L2.gName i) (L2.gCons (L2.gName j) L2.gNil)) := L2.pgs_cons (L2.pg_name hN hi hx fx) (L2.pgs_cons (L2.pg_name hN hj hy fy) L2.pgs_nil)
      refine hP.run pins _ σ _ [.ref hp'.objs.size, z] _ Q I2 (.cons rfl v2) ?_
      exact ⟨_, _, rfl, _, _, rfl, rfl, q _ (I1.hok.fresh (Nat.le_refl _))⟩
    · rw [← hl1]
      simp at hz
      omega
  · rw [List.size_toArray]
    omega
end
section
variable {L : Lt} {xa : XA} {X : L2.Cx} {W : WX} {pos px py ps : Pos} {k : Nat}
theorem sndS_star {i j : Nat} {x y : Str} {e : Expr} {z : Ex} (hK : X.K = L.G.K) (hc : X.calm = true) (hN : X.N.Nodup) (hi : X.N[i]? = some x) (hj : X.N[j]? = some y) (hx : L2.Loc X.env.scope x) (hy : L2.Loc X.env.scope y)
    (fx : X.fn x = true ∨ X.env.scope.names.lookup x = some .local) (fy : X.fn y = true ∨ X.env.scope.names.lookup y = some .local) (he : PE X e (rdE L xa W z))
    (hw : swappedStores [.Tuple [.Starred (.Name x px) ps, .Name y py] k pos] e X.env = pure none) {pos' : Pos} (hs' : swapsWithSole [.Tuple [.Starred (.Name x px) ps, .Name y py] k pos] e pos'.line X.env = pure false) :
    PS X (.Assign [.Tuple [.Starred (.Name x px) ps, .Name y py] k pos] e pos') (rdS L xa W (.star i j z)) := by
  refine PS.len (PS.imp (L2.ps_asg he (pg_star hc hN hi hj hx hy fx fy) hs' hw rfl) fun E s H q => ?_)
  obtain ⟨hl, Z, r, ow, S, env, fr, q⟩ := q
  have hil : i < s.length := by rw [hl]; exact (List.getElem?_eq_some_iff.mp hi).1
  have hjl : j < s.length := by rw [hl]; exact (List.getElem?_eq_some_iff.mp hj).1
  simp only [exS] at q
  refine rdE.stm fr q fun d S' h v H' r' st fr' rp => ?_
  cases d with
  | lst ds =>
    dsimp only at h
    cases e2 : ds.getLast? with
    | none => rw [e2] at h; exact h.elim
    | some d =>
      rw [e2] at h
      obtain ⟨a, vs, e1, _, g1, q1⟩ := rp
      rw [List.getLast?_eq_getElem?] at e2
      obtain ⟨w, hv1, hv2⟩ := q1.at e2
      have hvs : vs = vs.dropLast ++ [w] := by
        have hne : vs ≠ [] := by rintro rfl; simp at hv1
        have hw2 : vs.getLast hne = w := by
          rw [← q1.len, ← List.getLast?_eq_getElem?, List.getLast?_eq_some_getLast hne] at hv1
          exact Option.some.inj hv1
        have := List.dropLast_concat_getLast hne
        rw [hw2] at this
        exact this.symm
      refine ⟨a, vs.dropLast, w, e1, by rw [← hvs, hK]; exact .of g1, fun p hp => ?_⟩
      have fr2 := fr'.laid (o := .lst vs.dropLast) hp
      have hei : i < env.length := by rw [fr'.len]; exact hil
      have fr3 := fr2.putfz hei (rep_lst fr' hp q1.dropLast)
      have fr4 := fr3.putfz (i := j) (d := d) (v := w) (by rw [List.length_set, fr'.len]; exact hjl) (Rep.ban (fun a z => (drop1_less i).bb z) ((Stp.laid hp).rep hv2))
      exact h _ _ r' _ (((SSt.of fr (st.trans (.laid hp))).trans (.less (drop1_less i))).trans (.less (drop1_less j))) fr4
  | _ => exact h.elim
/-- x += e, of ints -/
theorem sndS_aug {i : Nat} {x : Str} {e : Expr} {z : Ex} (hN : X.N.Nodup) (hi : X.N[i]? = some x) (hx : L2.Loc X.env.scope x) (fx : X.fn x = true ∨ X.env.scope.names.lookup x = some .local) (he : PE X e (rdE L xa W z)) : PS X (.AugAssign (.Name x px) .Add e pos) (rdS L xa W (.aug i z)) := by
  refine PS.len (PS.imp (L2.ps_aug hN hi hx he L2.ip_add fx) fun E s H q => ?_)
  obtain ⟨hl, Z, r, ow, S, env, fr, q⟩ := q
  have hil : i < s.length := by rw [hl]; exact (List.getElem?_eq_some_iff.mp hi).1
  simp only [exS] at q
  cases ep : env[i]? with
  | none => rw [ep] at q; exact q.elim
  | some p =>
    rw [ep] at q
    cases p with
    | fz d =>
      cases d with
      | int a =>
        obtain ⟨_, v, hv, rp⟩ := fr.slot i _ ep
        rw [Rep] at rp
        subst rp
        refine ⟨.int a, hv, ?_⟩
        dsimp only at q
        refine rdE.stm fr q fun d S' h v' H' r' st fr' rp => ?_
        cases d with
        | int b =>
          rw [Rep] at rp
          subst rp
          exact ⟨a, b, rfl, rfl, h _ H' r' _ ((SSt.of fr st).trans (.less (drop1_less i))) (fr'.putfz (by rw [fr'.len]; exact hil) (by rw [Rep]))⟩
        | _ => exact h.elim
      | _ => exact q.elim
    | _ => exact q.elim
end
end Mi

set_option maxRecDepth 100000
set_option maxHeartbeats 4000000
namespace Mi
open PySem PySem.Spec PyProof.Rows
open L2 (V Hp HO upd upd_same upd_ne Same SqL SqT Rd VK XK WX PE PT PA OpR CallR IxR SlR TE TT TA tOp Dp DpAll PI TI PG PGs TG TGs PS PSs TS)

/-- what swapsWith tells of a target -/
def swB (M : Mc) (tg v : Expr) : Bool :=
  match v with
  | .ListComp _ _ sc cp => (match tg with
    | .Name t p => M.names.lookup t == some .local && p.line == cp.line && !(sc.names.any fun (n, k) => n == t && (k == .local || k == .cell))
    | _ => false)
  | _ => false
def isCmp : Expr → Bool
  | .ListComp .. => true
  | .SetComp .. => true
  | .DictComp .. => true
  | _ => false
/-- no comprehension but of a list -/
def okCmp : Expr → Bool
  | .SetComp .. => false
  | .DictComp .. => false
  | .ListComp _ (_ :: _ :: _) _ _ => false
  | _ => true
/-- swappedStores tells none -/
def swNm (M : Mc) (ts : List Expr) : List Str := ts.filterMap fun
  | .Name id pos => if M.names.lookup id == some .local && pos.line == (ts.head?.map (·.pos.line)).getD 0 then some id else none
  | _ => none
def swN (M : Mc) (tg v : Expr) : Bool :=
  match tg, v with
  | .Tuple ts _ _, .Tuple vs _ _ => !(ts.length == 2 || ts.length == 3) || vs.length != ts.length || vs.all (foldedForSure 8) || (swNm M ts).length != ts.length
  | .Tuple .., _ => true
  | _, _ => false
def isLoc (M : Mc) (x : Str) : Bool := M.names.lookup x == some .local
/-- names of a swap -/
def nmAt (M : Mc) (i : Nat) (x : Str) : Bool := (match M.N[i]? with | some y => y == x | none => false) && isLoc M x
def mWs : List Bool → List Ex → Mc → List Expr → Bool
  | [], [], _, [] => true
  | b :: bs, x :: xs, M, e :: es => (!b || isFresh x) && mE x M e && nos e && mWs bs xs M es
  | _, _, _, _ => false
def mNs : List Nat → Mc → List Expr → Bool
  | [], _, [] => true
  | i :: is, M, t :: ts => mG M (.v i) t && mNs is M ts
  | _, _, _ => false
/-- where a value goes -/
def mL (M : Mc) : Lv → Expr → Bool
  | .n i, e => (match e with
    | .Name x _ => (match M.N[i]? with | some y => y == x | none => false) && M.sto x
    | _ => false)
  | .f a i, e => (match e with
    | .Attribute x f _ => (match M.fd[i]? with | some y => y == f | none => false) && mE a M x
    | _ => false)
  | .s _ a k, e => (match e with
    | .Subscript x y _ => mE a M x && mE k M y && nos y
    | _ => false)
def mLs (M : Mc) : List Lv → List Expr → Bool
  | [], [] => true
  | t :: ts, e :: es => mL M t e && mLs M ts es
  | _, _ => false
def noNm : Lv → Bool
  | .n _ => false
  | _ => true
mutual
def mS : St → Mc → Stmt → Bool
  | .as1 t e, M, st => match st with
    | .Assign [tg] v _ => noNm t && mL M t tg && mE e M v && okCmp v
    | _ => false
  | .asN ts e, M, st => match st with
    | .Assign [.Tuple es k p] v _ => mLs M ts es && mE e M v && okCmp v && swN M (.Tuple es k p) v
    | _ => false
  | .capp a e, M, st => match st with
    | .Expr (.Call (.Attribute x f ap) [y] [] cp) _ => f == ("append" : Str) && abOk x && ap.endLine == cp.line && mE a M x && mE e M y && nos y
    | _ => false
  | .set t e, M, st => match st with
    | .Assign [tg] v _ => mG M t tg && mE e M v && okCmp v && (match t with | .v _ => true | .t _ => swN M tg v)
    | _ => false
  | .own i e, M, st => match st with
    | .Assign [.Name x p] v _ => mG M (.v i) (.Name x p) && mE e M v && isFresh e && okCmp v
    | _ => false
  | .par is es, M, st => (match st with
    | .Assign [.Tuple ts k p] (.Tuple vs k2 p2) _ => swN M (.Tuple ts k p) (.Tuple vs k2 p2) && mNs (is.map (·.1)) M ts && mWs (is.map (·.2)) es M vs && decide (is.length ≤ SZ)
    | _ => false) || (match is, st with
    | [(i, f), (j, g)], .Assign [.Tuple [.Name x px, .Name y py] _ _] (.Tuple [a, b] _ _) _ => nmAt M i x && nmAt M j y && !(x == y) && i != j && px.line == py.line && mWs [f, g] es M [a, b] && !([a, b].all (foldedForSure 8)) && !([a, b].all (constantsAlone 8))
    | [(i, f), (j, g), (l, h)], .Assign [.Tuple [.Name x px, .Name y py, .Name z pz] _ _] (.Tuple [a, b, c] _ _) _ => nmAt M i x && nmAt M j y && nmAt M l z && !(x == y) && !(x == z) && !(y == z) && i != j && i != l && j != l && px.line == py.line && px.line == pz.line && mWs [f, g, h] es M [a, b, c] && !([a, b, c].all (foldedForSure 8)) && !([a, b, c].all (constantsAlone 8))
    | _, _ => false)
  | .star i j e, M, st => match st with
    | .Assign [.Tuple [.Starred (.Name x px) ps, .Name y py] k p] v _ => mG M (.v i) (.Name x px) && mG M (.v j) (.Name y py) && mE e M v && okCmp v && swN M (.Tuple [.Starred (.Name x px) ps, .Name y py] k p) v
    | _ => false
  | .aug i e, M, st => match st with
    | .AugAssign (.Name x p) .Add v _ => mG M (.v i) (.Name x p) && mE e M v
    | _ => false
  | .app i e, M, st => match st with
    | .Expr (.Call (.Attribute (.Name x _) f ap) [a] [] cp) _ => f == ("append" : Str) && (match M.N[i]? with | some y => y == x | none => false) && M.vis x && mE e M a && nos a && ap.endLine == cp.line
    | _ => false
  | .pop j i, M, st => match st with
    | .Assign [.Name y p2] (.Call (.Attribute (.Name x _) f ap) [] [] cp) _ => f == ("pop" : Str) && (match M.N[i]? with | some z => z == x | none => false) && M.vis x && mG M (.v j) (.Name y p2) && ap.endLine == cp.line
    | _ => false
  | .put i k e, M, st => match st with
    | .Assign [.Subscript (.Name x _) b _] v _ => (match M.N[i]? with | some z => z == x | none => false) && M.vis x && mE k M b && nos b && mE e M v && okCmp v
    | _ => false
  | .frz _, _, _ => false
  | .exp e, M, st => match st with
    | .Expr v _ => mE e M v && !isCmp v
    | _ => false
  | .ite c a b, M, st => match st with
    | .If t x y _ => mE c M t && tOk c && mSs a M x && mSs b M y
    | _ => false
  | .whl c b, M, st => match st with
    | .While t x [] _ => mE c M t && tOk c && mSs b M x
    | _ => false
  | .for_ t it b, M, st => match st with
    | .For tg iter x [] _ => nos iter && mG M t tg && mSs b M x && (match it with
          | .rng es => (match iter with | .Call (.Name f _) xs [] _ => f == ("range" : Str) && M.glb f && mEs es M xs && decide (1 ≤ xs.length ∧ xs.length ≤ 3) | _ => false)
          | .zip a b => (match iter with | .Call (.Name f _) [x, y] [] _ => f == ("zip" : Str) && M.glb f && mE a M x && mE b M y && nos x && nos y && isTup tg | _ => false)
          | .enm a => (match iter with | .Call (.Name f _) [x] [] _ => f == ("enumerate" : Str) && M.glb f && mE a M x && nos x && isTup tg | _ => false)
          | it => mE it M iter)
    | _ => false
  | .ret e, M, st => match st with
    | .Return (some v) _ => mE e M v
    | _ => false
  | .rse c e, M, st => match st with
    | .Raise (some (.Call (.Name x _) [a] [] _)) none _ => M.glb x && M.xcl.lookup x == some c && nos a && (match fldG c with
      | none => (match a with | .Constant (.str _) _ _ => (match e with | .cst _ => true | _ => false) | _ => false)
      | some _ => mE e M a)
    | _ => false
  | .try_ b hs, M, st => match st with
    | .Try body (h :: es) [] [] _ => mSs b M body && mHs hs M (h :: es)
    | _ => false
  | .pass, _, st => match st with
    | .Pass _ => true
    | _ => false
  | .nvr, _, _ => true
def mSs : List St → Mc → List Stmt → Bool
  | [], _, sts => sts.isEmpty
  | x :: xs, M, sts => match x with
    | .frz _ => mSs xs M sts
    | x => match sts with
      | st :: rest => mS x M st && mSs xs M rest
      | [] => false
end

structure CxSt (L : Lt) (M : Mc) (X : L2.Cx) : Prop extends CxOk L M X where
  hp : PassesOwn (model X.prog X.w) X.A X.env X.xe
  stk : X.stack = X.env :: X.outer
  frm : X.env.frame = some X.env.locals
  exf : ExF L M X
section
variable {L : Lt} {M : Mc} {X : L2.Cx} {W : WX} {xa : XA}
theorem CxOk.bk (C : CxOk L M X) : X.env.blockKind = .function := by unfold Env.blockKind; rw [C.sk]; rfl
theorem CxOk.kd (C : CxOk L M X) (x : Str) : X.env.kindOf x = M.names.lookup x := by unfold Env.kindOf; rw [C.nm]
theorem sw_eq (C : CxOk L M X) {x : Str} {p : Pos} {v : Expr} {l : Nat} (ho : okCmp v = true) : swapsWith v (some (.Name x p)) l X.env = pure (swB M (.Name x p) v) := by
  cases v <;> first | rfl | (simp [okCmp] at ho; done) | skip
  unfold swapsWith swB
  simp only [C.bk, C.kd, Expr.pos, beq_self_eq_true, Bool.true_and]
theorem sw_tup {v : Expr} {l : Nat} {es : List Expr} {k : Nat} {p : Pos} {env : PySem.Env} (ho : okCmp v = true) : swapsWithSole [.Tuple es k p] v l env = pure false := by
  cases v <;> first | rfl | (simp [okCmp] at ho; done)
theorem sw_sub {v a b : Expr} {l : Nat} {p : Pos} {env : PySem.Env} (ho : okCmp v = true) : swapsWithSole [.Subscript a b p] v l env = pure false := by
  cases v <;> first | rfl | (simp [okCmp] at ho; done)
theorem sw_att {v a : Expr} {f : Str} {l : Nat} {p : Pos} {env : PySem.Env} (ho : okCmp v = true) : swapsWithSole [.Attribute a f p] v l env = pure false := by
  cases v <;> first | rfl | (simp [okCmp] at ho; done)
theorem sw_none {v : Expr} {l : Nat} {env : PySem.Env} (ho : isCmp v = false) : swapsWith v none l env = pure false := by
  cases v <;> first | rfl | (simp [isCmp] at ho; done)
theorem swN_ok (C : CxOk L M X) {tg v : Expr} (h : swN M tg v = true) : swappedStores [tg] v X.env = pure none := by
  cases tg <;> first | (simp [swN] at h; done) | skip
  rename_i ts k p
  cases v <;> first | rfl | skip
  rename_i vs k2 p2
  unfold swN at h
  simp only [Bool.or_eq_true] at h
  have nm : (ts.filterMap fun | .Name id pos => if (X.env.kindOf id == some .local && pos.line == (ts.head?.map (·.pos.line)).getD 0) = true then some id else none | _ => none) = swNm M ts := by
    unfold swNm
    congr 1
    funext e
    cases e <;> first | rfl | skip
    dsimp only
    rw [C.kd]
  unfold swappedStores
  dsimp only
  rcases h with ((h | h) | h) | h
  · simp only [h, Bool.true_or, if_true]
  · simp only [h, Bool.true_or, Bool.or_true, if_true]
  · simp only [h, if_true]
    repeat (first | rfl | split)
  · have h2 : ((swNm M ts).length != ts.length || (swNm M ts).eraseDups.length != (swNm M ts).length) = true := by rw [h]; rfl
    rw [← nm] at h2
    split
    · rfl
    · split
      · rfl
      · exact if_pos h2
theorem swP2 (C : CxOk L M X) {x y : Str} {px py p p2 : Pos} {k k2 : Nat} {a b : Expr} (hx : isLoc M x = true) (hy : isLoc M y = true) (hxy : (x == y) = false) (hl1 : (px.line == py.line) = true) (ha : nos a = true) (hb : nos b = true) (h1 : [a, b].all (foldedForSure 8) = false) (h2 : [a, b].all (constantsAlone 8) = false) :
    swappedStores [.Tuple [.Name x px, .Name y py] k p] (.Tuple [a, b] k2 p2) X.env = pure (some [x, y]) := by
  have ky : ∀ z, isLoc M z = true → (X.env.kindOf z == some .local) = true := fun z h => by rw [C.kd]; exact h
  have ns : ∀ e, nos e = true → (match e with | .Starred .. => true | _ => false) = false := fun e h => by cases e <;> first | rfl | (simp [nos] at h)
  have l1 : (py.line == px.line) = true := by rw [beq_iff_eq] at hl1 ⊢; exact hl1.symm
  have ed : ([x, y] : List Str).eraseDups = [x, y] := by
    have ryx : (y == x) = false := by rw [beq_eq_false_iff_ne] at hxy ⊢; exact fun e => hxy e.symm
    simp [List.eraseDups_cons, ryx]
  have nm : ([Expr.Name x px, Expr.Name y py].filterMap fun | .Name id pos => if (X.env.kindOf id == some .local && pos.line == px.line) = true then some id else none | _ => none) = [x, y] := by
    simp only [List.filterMap_cons, List.filterMap_nil, ky x hx, ky y hy, l1, beq_self_eq_true, Bool.and_self, if_true]
  have st : [a, b].any (fun | .Starred .. => true | _ => false) = false := by
    simp only [List.any_cons, List.any_nil, ns a ha, ns b hb, Bool.or_self]
  unfold swappedStores
  dsimp only
  simp only [List.length_cons, List.length_nil, C.bk, List.head?_cons, Option.map_some, Expr.pos, Option.getD_some]
  refine (if_neg (by decide)).trans ((if_neg fun h => ?_).trans ((if_neg fun h => ?_).trans ((if_neg (by rw [h1]; decide)).trans ((if_neg (by rw [h2]; decide)).trans ?_))))
  · exact absurd (st.symm.trans h) (by decide)
  · have h' : (([x, y] : List Str).length != 2 || ([x, y] : List Str).eraseDups.length != ([x, y] : List Str).length) = true := by
      rw [← nm]; exact h
    rw [ed] at h'
    simp at h'
  · exact congrArg (fun l => pure (some l)) nm
theorem swP3 (C : CxOk L M X) {x y z : Str} {px py pz p p2 : Pos} {k k2 : Nat} {a b c : Expr} (hx : isLoc M x = true) (hy : isLoc M y = true) (hz : isLoc M z = true) (hxy : (x == y) = false) (hxz : (x == z) = false) (hyz : (y == z) = false) (hl1 : (px.line == py.line) = true) (hl2 : (px.line == pz.line) = true) (ha : nos a = true) (hb : nos b = true) (hc : nos c = true) (h1 : [a, b, c].all (foldedForSure 8) = false) (h2 : [a, b, c].all (constantsAlone 8) = false) :
    swappedStores [.Tuple [.Name x px, .Name y py, .Name z pz] k p] (.Tuple [a, b, c] k2 p2) X.env = pure (some [x, y, z]) := by
  have ky : ∀ z, isLoc M z = true → (X.env.kindOf z == some .local) = true := fun z h => by rw [C.kd]; exact h
  have ns : ∀ e, nos e = true → (match e with | .Starred .. => true | _ => false) = false := fun e h => by cases e <;> first | rfl | (simp [nos] at h)
  have l1 : (py.line == px.line) = true := by rw [beq_iff_eq] at hl1 ⊢; exact hl1.symm
  have l2 : (pz.line == px.line) = true := by rw [beq_iff_eq] at hl2 ⊢; exact hl2.symm
  have ed : ([x, y, z] : List Str).eraseDups = [x, y, z] := by
    have ryx : (y == x) = false := by rw [beq_eq_false_iff_ne] at hxy ⊢; exact fun e => hxy e.symm
    have rzx : (z == x) = false := by rw [beq_eq_false_iff_ne] at hxz ⊢; exact fun e => hxz e.symm
    have rzy : (z == y) = false := by rw [beq_eq_false_iff_ne] at hyz ⊢; exact fun e => hyz e.symm
    simp [List.eraseDups_cons, ryx, rzx, rzy]
  have nm : ([Expr.Name x px, Expr.Name y py, Expr.Name z pz].filterMap fun | .Name id pos => if (X.env.kindOf id == some .local && pos.line == px.line) = true then some id else none | _ => none) = [x, y, z] := by
    simp only [List.filterMap_cons, List.filterMap_nil, ky x hx, ky y hy, ky z hz, l1, l2, beq_self_eq_true, Bool.and_self, if_true]
  have st : [a, b, c].any (fun | .Starred .. => true | _ => false) = false := by
    simp only [List.any_cons, List.any_nil, ns a ha, ns b hb, ns c hc, Bool.or_self]
  unfold swappedStores
  dsimp only
  simp only [List.length_cons, List.length_nil, C.bk, List.head?_cons, Option.map_some, Expr.pos, Option.getD_some]
  refine (if_neg (by decide)).trans ((if_neg fun h => ?_).trans ((if_neg fun h => ?_).trans ((if_neg (by rw [h1]; decide)).trans ((if_neg (by rw [h2]; decide)).trans ?_))))
  · exact absurd (st.symm.trans h) (by decide)
  · have h' : (([x, y, z] : List Str).length != 3 || ([x, y, z] : List Str).eraseDups.length != ([x, y, z] : List Str).length) = true := by
      rw [← nm]; exact h
    rw [ed] at h'
    simp at h'
  · exact congrArg (fun l => pure (some l)) nm
end
end Mi

set_option maxRecDepth 100000
set_option maxHeartbeats 4000000
namespace Mi
open PySem PySem.Spec PyProof.Rows
theorem mS_as1 (t : Lv) (e : Ex) (M : Mc) (st : Stmt) : mS (.as1 t e) M st = (match st with
    | .Assign [tg] v _ => noNm t && mL M t tg && mE e M v && okCmp v
    | _ => false) := rfl
theorem mS_asN (ts : List Lv) (e : Ex) (M : Mc) (st : Stmt) : mS (.asN ts e) M st = (match st with
    | .Assign [.Tuple es k p] v _ => mLs M ts es && mE e M v && okCmp v && swN M (.Tuple es k p) v
    | _ => false) := rfl
theorem mS_capp (a : Ex) (e : Ex) (M : Mc) (st : Stmt) : mS (.capp a e) M st = (match st with
    | .Expr (.Call (.Attribute x f ap) [y] [] cp) _ => f == ("append" : Str) && abOk x && ap.endLine == cp.line && mE a M x && mE e M y && nos y
    | _ => false) := rfl
theorem mS_set (t : Tg) (e : Ex) (M : Mc) (st : Stmt) : mS (.set t e) M st = (match st with
    | .Assign [tg] v _ => mG M t tg && mE e M v && okCmp v && (match t with | .v _ => true | .t _ => swN M tg v)
    | _ => false) := rfl
theorem mS_own (i : Nat) (e : Ex) (M : Mc) (st : Stmt) : mS (.own i e) M st = (match st with
    | .Assign [.Name x p] v _ => mG M (.v i) (.Name x p) && mE e M v && isFresh e && okCmp v
    | _ => false) := rfl
theorem mS_par (is : List (Nat × Bool)) (es : List Ex) (M : Mc) (st : Stmt) : mS (.par is es) M st = ((match st with
    | .Assign [.Tuple ts k p] (.Tuple vs k2 p2) _ => swN M (.Tuple ts k p) (.Tuple vs k2 p2) && mNs (is.map (·.1)) M ts && mWs (is.map (·.2)) es M vs && decide (is.length ≤ SZ)
    | _ => false) || (match is, st with
    | [(i, f), (j, g)], .Assign [.Tuple [.Name x px, .Name y py] _ _] (.Tuple [a, b] _ _) _ => nmAt M i x && nmAt M j y && !(x == y) && i != j && px.line == py.line && mWs [f, g] es M [a, b] && !([a, b].all (foldedForSure 8)) && !([a, b].all (constantsAlone 8))
    | [(i, f), (j, g), (l, h)], .Assign [.Tuple [.Name x px, .Name y py, .Name z pz] _ _] (.Tuple [a, b, c] _ _) _ => nmAt M i x && nmAt M j y && nmAt M l z && !(x == y) && !(x == z) && !(y == z) && i != j && i != l && j != l && px.line == py.line && px.line == pz.line && mWs [f, g, h] es M [a, b, c] && !([a, b, c].all (foldedForSure 8)) && !([a, b, c].all (constantsAlone 8))
    | _, _ => false)) := rfl
theorem mS_star (i : Nat) (j : Nat) (e : Ex) (M : Mc) (st : Stmt) : mS (.star i j e) M st = (match st with
    | .Assign [.Tuple [.Starred (.Name x px) ps, .Name y py] k p] v _ => mG M (.v i) (.Name x px) && mG M (.v j) (.Name y py) && mE e M v && okCmp v && swN M (.Tuple [.Starred (.Name x px) ps, .Name y py] k p) v
    | _ => false) := rfl
theorem mS_aug (i : Nat) (e : Ex) (M : Mc) (st : Stmt) : mS (.aug i e) M st = (match st with
    | .AugAssign (.Name x p) .Add v _ => mG M (.v i) (.Name x p) && mE e M v
    | _ => false) := rfl
theorem mS_app (i : Nat) (e : Ex) (M : Mc) (st : Stmt) : mS (.app i e) M st = (match st with
    | .Expr (.Call (.Attribute (.Name x _) f ap) [a] [] cp) _ => f == ("append" : Str) && (match M.N[i]? with | some y => y == x | none => false) && M.vis x && mE e M a && nos a && ap.endLine == cp.line
    | _ => false) := rfl
theorem mS_pop (j : Nat) (i : Nat) (M : Mc) (st : Stmt) : mS (.pop j i) M st = (match st with
    | .Assign [.Name y p2] (.Call (.Attribute (.Name x _) f ap) [] [] cp) _ => f == ("pop" : Str) && (match M.N[i]? with | some z => z == x | none => false) && M.vis x && mG M (.v j) (.Name y p2) && ap.endLine == cp.line
    | _ => false) := rfl
theorem mS_put (i : Nat) (k : Ex) (e : Ex) (M : Mc) (st : Stmt) : mS (.put i k e) M st = (match st with
    | .Assign [.Subscript (.Name x _) b _] v _ => (match M.N[i]? with | some z => z == x | none => false) && M.vis x && mE k M b && nos b && mE e M v && okCmp v
    | _ => false) := rfl
theorem mS_frz (u0 : Nat) (M : Mc) (st : Stmt) : mS (.frz u0) M st = (false) := rfl
theorem mS_exp (e : Ex) (M : Mc) (st : Stmt) : mS (.exp e) M st = (match st with
    | .Expr v _ => mE e M v && !isCmp v
    | _ => false) := rfl
theorem mS_ite (c : Ex) (a : List St) (b : List St) (M : Mc) (st : Stmt) : mS (.ite c a b) M st = (match st with
    | .If t x y _ => mE c M t && tOk c && mSs a M x && mSs b M y
    | _ => false) := rfl
theorem mS_whl (c : Ex) (b : List St) (M : Mc) (st : Stmt) : mS (.whl c b) M st = (match st with
    | .While t x [] _ => mE c M t && tOk c && mSs b M x
    | _ => false) := rfl
theorem mS_for_ (t : Tg) (it : Ex) (b : List St) (M : Mc) (st : Stmt) : mS (.for_ t it b) M st = (match st with
    | .For tg iter x [] _ => nos iter && mG M t tg && mSs b M x && (match it with
          | .rng es => (match iter with | .Call (.Name f _) xs [] _ => f == ("range" : Str) && M.glb f && mEs es M xs && decide (1 ≤ xs.length ∧ xs.length ≤ 3) | _ => false)
          | .zip a b => (match iter with | .Call (.Name f _) [x, y] [] _ => f == ("zip" : Str) && M.glb f && mE a M x && mE b M y && nos x && nos y && isTup tg | _ => false)
          | .enm a => (match iter with | .Call (.Name f _) [x] [] _ => f == ("enumerate" : Str) && M.glb f && mE a M x && nos x && isTup tg | _ => false)
          | it => mE it M iter)
    | _ => false) := rfl
theorem mS_ret (e : Ex) (M : Mc) (st : Stmt) : mS (.ret e) M st = (match st with
    | .Return (some v) _ => mE e M v
    | _ => false) := rfl
theorem mS_rse (c : Nat) (e : Ex) (M : Mc) (st : Stmt) : mS (.rse c e) M st = (match st with
    | .Raise (some (.Call (.Name x _) [a] [] _)) none _ => M.glb x && M.xcl.lookup x == some c && nos a && (match fldG c with
      | none => (match a with | .Constant (.str _) _ _ => (match e with | .cst _ => true | _ => false) | _ => false)
      | some _ => mE e M a)
    | _ => false) := rfl
theorem mS_try_ (b : List St) (hs : List (Nat × Nat × List St)) (M : Mc) (st : Stmt) : mS (.try_ b hs) M st = (match st with
    | .Try body (h :: es) [] [] _ => mSs b M body && mHs hs M (h :: es)
    | _ => false) := rfl
theorem mS_pass  (M : Mc) (st : Stmt) : mS (.pass ) M st = (match st with
    | .Pass _ => true
    | _ => false) := rfl
theorem mS_nvr  (M : Mc) (st : Stmt) : mS (.nvr ) M st = (true) := rfl
end Mi

set_option maxRecDepth 100000
set_option maxHeartbeats 4000000
namespace Mi
open PySem PySem.Spec PyProof.Rows
open L2 (V Hp HO upd upd_same upd_ne Same SqL SqT Rd VK XK WX PE PT PA OpR CallR IxR SlR TE TT TA tOp Dp DpAll PI TI PG PGs TG TGs PS PSs TS)

section
variable {L : Lt}
theorem sndWs : ∀ (fs : List Bool) (xs : List Ex) {M : Mc} {X : L2.Cx} {W : WX} {xa : XA} {es : List Expr}, CxOk L M X → L2.Takes X W → mWs fs xs M es = true → PA X es (rdW L xa W fs xs)
  | [], [], M, X, W, xa, [], C, tk, h => sndW_nil
  | b :: bs, x :: xs, M, X, W, xa, e :: es, C, tk, h => by
    simp only [mWs, Bool.and_eq_true] at h
    obtain ⟨⟨⟨h1, h2⟩, h3⟩, h4⟩ := h
    cases b with
    | false => exact sndW_fz (sndE x C tk h2) (sndWs bs xs C tk h4) (star_of h3 _ _)
    | true => exact sndW_own (sndF x (by simpa using h1) C tk h2) (sndWs bs xs C tk h4) (star_of h3 _ _)
  | [], _ :: _, M, X, W, xa, es, C, tk, h => by simp [mWs] at h
  | _ :: _, [], M, X, W, xa, es, C, tk, h => by simp [mWs] at h
  | [], [], M, X, W, xa, _ :: _, C, tk, h => by simp [mWs] at h
  | _ :: _, _ :: _, M, X, W, xa, [], C, tk, h => by simp [mWs] at h
theorem mWs_nos : ∀ {fs : List Bool} {xs : List Ex} {M : Mc} {es : List Expr}, mWs fs xs M es = true → ∀ e ∈ es, nos e = true
  | [], [], M, [], h, e, he => by cases he
  | b :: bs, x :: xs, M, e :: es, h, e', he => by
    simp only [mWs, Bool.and_eq_true] at h
    rcases List.mem_cons.mp he with rfl | he
    · exact h.1.2
    · exact mWs_nos h.2 e' he
  | [], _ :: _, M, es, h, e, he => by simp [mWs] at h
  | _ :: _, [], M, es, h, e, he => by simp [mWs] at h
  | [], [], M, _ :: _, h, e, he => by simp [mWs] at h
  | _ :: _, _ :: _, M, [], h, e, he => by simp [mWs] at h
theorem mWs_len : ∀ {fs : List Bool} {xs : List Ex} {M : Mc} {es : List Expr}, mWs fs xs M es = true → xs.length = fs.length ∧ es.length = fs.length
  | [], [], M, [], h => ⟨rfl, rfl⟩
  | b :: bs, x :: xs, M, e :: es, h => by
    simp only [mWs, Bool.and_eq_true] at h
    have := mWs_len h.2
    simp [this.1, this.2]
  | [], _ :: _, M, es, h => by simp [mWs] at h
  | _ :: _, [], M, es, h => by simp [mWs] at h
  | [], [], M, _ :: _, h => by simp [mWs] at h
  | _ :: _, _ :: _, M, [], h => by simp [mWs] at h
theorem sndNs : ∀ {is : List Nat} {M : Mc} {X : L2.Cx} {ts : List Expr}, CxOk L M X → mNs is M ts = true → PGs X ts (tNs is) ∧ (assignEach ts X.env).length = is.length ∧ (assignEach ts X.env).findIdx? (·.1) = none ∧ ∀ i ∈ is, i < X.N.length
  | [], M, X, [], C, h => ⟨sndGs_ns_nil, rfl, rfl, fun i hi => by cases hi⟩
  | [], M, X, _ :: _, C, h => by simp [mNs] at h
  | _ :: _, M, X, [], C, h => by simp [mNs] at h
  | i :: is, M, X, t :: ts, C, h => by
    simp only [mNs, Bool.and_eq_true] at h
    obtain ⟨h1, h2⟩ := h
    obtain ⟨k1, k2, k3, k4⟩ := sndNs C h2
    cases t <;> first | (simp [mG] at h1; done) | skip
    rename_i nm ps
    simp only [mG, Bool.and_eq_true] at h1
    have hs := C.sto h1.2
    have hN : X.N[i]? = some nm := by rw [C.hN]; exact at_of h1.1
    refine ⟨sndGs_ns_cons (L2.pg_name C.nd hN hs.1 hs.2) k1 rfl, ?_, ?_, fun j hj => ?_⟩
    · show (assignEach ts X.env).length + 1 = _
      rw [k2]; rfl
    · rw [assignEach_cons rfl, List.findIdx?_cons]
      simp [k3]
    · rcases List.mem_cons.mp hj with rfl | hj
      · exact (List.getElem?_eq_some_iff.mp hN).1
      · exact k4 j hj
theorem loc_of {M : Mc} {x : Str} (h : isLoc M x = true) : M.names.lookup x = some .local := by
  unfold isLoc at h
  exact eq_of_beq h
theorem nmAt_of {M : Mc} {X : L2.Cx} (C : CxOk L M X) {i : Nat} {x : Str} (h : nmAt M i x = true) : X.N[i]? = some x ∧ isLoc M x = true ∧ X.env.scope.names.lookup x = some .local := by
  unfold nmAt at h
  simp only [Bool.and_eq_true] at h
  exact ⟨by rw [C.hN]; exact at_of h.1, h.2, by rw [C.nm]; exact loc_of h.2⟩
/-- a name takes an expression's value -/
theorem set_name {M : Mc} {X : L2.Cx} {W : WX} {xa : XA} {i : Nat} {x : Str} {p pos : Pos} {e : Ex} {v : Expr} (C : CxOk L M X) (tk : L2.Takes X W) (hg : mG M (.v i) (.Name x p) = true) (he : mE e M v = true) (ho : okCmp v = true) :
    ∃ t, PS X (.Assign [.Name x p] v pos) (L2.tAsg t (L2.gName i)) ∧ (∀ s H Q, rdE L xa W e s H Q → t s H Q) ∧ (isFresh e = true → ∀ s H Q, rdF L xa W e s H Q → t s H Q) := by
  simp only [mG, Bool.and_eq_true] at hg
  have hN : X.N[i]? = some x := by rw [C.hN]; exact at_of hg.1
  have hs := C.sto hg.2
  cases hsw : swB M (.Name x p) v with
  | false =>
    by_cases hf : isFresh e = true
    · have k1 := sndE (xa := xa) e C tk he
      have k2 := sndF (xa := xa) e hf C tk he
      refine ⟨fun s H Q => rdE L xa W e s H Q ∨ rdF L xa W e s H Q, L2.ps_set C.nd hN hs.1 ⟨fun pins s σ H Q I q => q.elim (k1.run pins s σ H Q I) (k2.run pins s σ H Q I)⟩ (by rw [sw_eq C ho, hsw]) hs.2, fun s H Q q => .inl q, fun _ s H Q q => .inr q⟩
    · exact ⟨rdE L xa W e, L2.ps_set C.nd hN hs.1 (sndE e C tk he) (by rw [sw_eq C ho, hsw]) hs.2, fun _ _ _ q => q, fun z => absurd z hf⟩
  | true =>
    cases v <;> first | (simp [swB] at hsw; done) | skip
    have hl : X.env.scope.names.lookup x = some .local := by
      rw [C.nm]
      simp only [swB, Bool.and_eq_true] at hsw
      exact eq_of_beq hsw.1.1
    cases e <;> first | (simp [mE_var, mE_cst, mE_tup, mE_lst, mE_bin, mE_neg, mE_not, mE_cmp, mE_chn, mE_and, mE_or, mE_ite, mE_idx, mE_slc, mE_isi, mE_call, mE_drawn, mE_blt, mE_rng, mE_zip, mE_enm, mE_lc, mE_efld, mE_eis, mE_rev, mE_lrng, mE_mth, mE_sset, mE_lset, mE_lc2, mE_fld, mE_meth, mE_mk, mE_new, mE_cpop, mE_cmpC, mE_binC, mE_idxC, mE_slcC, mE_bltC, mE_ilen, mE_dget, mE_din, mE_dnew, mE_ddsp, mE_dcp] at he; done) | skip
    case lrng =>
      rw [mE_lrng] at he
      split at he <;> simp at he
    case lc =>
      obtain ⟨n, hn, k, k2⟩ := lc_parts (xa := xa) C tk he
      exact ⟨_, k2 i x p pos hN hl (by rw [sw_eq C ho, hsw]), fun s H Q q => lc_read hn q, fun _ s H Q q => lc_readF hn q⟩
    case new a =>
      rw [mE_new] at he
      simp only [Bool.and_eq_true] at he
      obtain ⟨h0, he⟩ := he
      cases a <;> simp only [newOk] at h0 <;> (try (cases h0; done))
      · simp [mE_lst] at he
      · obtain ⟨n, hn, k, k2⟩ := lc_parts (xa := xa) C tk he
        exact ⟨_, k2 i x p pos hN hl (by rw [sw_eq C ho, hsw]), fun s H Q q => lc_readF hn (new_read q), fun z => by simp [isFresh] at z⟩
      · simp [mE_bltC] at he
    case lc2 =>
      rw [mE_lc2] at he
      split at he
      · simp_all [okCmp]
      · cases he
theorem sndL {xa : XA} {M : Mc} {X : L2.Cx} {W : WX} {t : Lv} {e : Expr} (C : CxOk L M X) (tk : L2.Takes X W) (h : mL M t e = true) : PG X e (rdL L xa W t) ∧ nos e = true := by
  cases t with
  | n i =>
    simp only [mL] at h
    split at h
    · simp only [Bool.and_eq_true] at h
      have hs := C.sto h.2
      exact ⟨sndL_n C.nd (by rw [C.hN]; exact at_of h.1) hs.1 hs.2, rfl⟩
    · cases h
  | f a i =>
    simp only [mL] at h
    split at h
    · simp only [Bool.and_eq_true] at h
      exact ⟨sndL_f C.hK C.ck (by rw [C.fdh]; exact at_of h.1) (sndE a C tk h.2), rfl⟩
    · cases h
  | s dd a k =>
    simp only [mL] at h
    split at h
    · rename_i x y p
      simp only [Bool.and_eq_true] at h
      refine ⟨sndL_s (by have := C.un; omega) (sndE a C tk h.1.1) (sndE k C tk h.1.2) (fun v => ?_), rfl⟩
      have := h.2
      cases y <;> first | rfl | (simp [nos] at this)
    · cases h
theorem sndLs {xa : XA} {M : Mc} {X : L2.Cx} {W : WX} (C : CxOk L M X) (tk : L2.Takes X W) : ∀ {ts : List Lv} {es : List Expr}, mLs M ts es = true → PGs X es (rdLs L xa W ts) ∧ (assignEach es X.env).length = ts.length ∧ (assignEach es X.env).findIdx? (·.1) = none
  | [], [], _ => ⟨sndLs_nil, rfl, rfl⟩
  | [], _ :: _, h => by simp [mLs] at h
  | _ :: _, [], h => by simp [mLs] at h
  | t :: ts, e :: es, h => by
    simp only [mLs, Bool.and_eq_true] at h
    obtain ⟨a, n⟩ := sndL (xa := xa) C tk h.1
    obtain ⟨b, c, d⟩ := sndLs C tk h.2
    have ha := assignEach_cons (es := es) (env := X.env) n
    refine ⟨sndLs_cons a b (by rw [ha]; rfl), by rw [ha]; simp [c], ?_⟩
    rw [ha, List.findIdx?_cons]
    simp [d]
mutual
theorem sndS : ∀ (x : St) {M : Mc} {X : L2.Cx} {W : WX} {st : Stmt}, CxSt L M X → L2.Takes X W → mS x M st = true → PS X st (rdS L none W x)
  | .as1 t e, M, X, W, st, C, tk, h => by
    rw [mS_as1] at h
    split at h
    case h_2 => cases h
    rename_i tg v pos
    simp only [Bool.and_eq_true] at h
    obtain ⟨⟨⟨h0, h1⟩, h2⟩, h3⟩ := h
    obtain ⟨k1, k2⟩ := sndL (xa := none) C.toCxOk tk h1
    cases t with
    | n i => cases h0
    | f a i =>
      cases tg <;> first | (simp [mL] at h1; done) | skip
      exact sndS_as1 (sndE e C.toCxOk tk h2) k1 (sw_att h3) (by cases v <;> rfl) rfl
    | s dd a k =>
      cases tg <;> first | (simp [mL] at h1; done) | skip
      exact sndS_as1 (sndE e C.toCxOk tk h2) k1 (sw_sub h3) (by cases v <;> rfl) rfl
  | .asN ts e, M, X, W, st, C, tk, h => by
    rw [mS_asN] at h
    split at h
    case h_2 => cases h
    simp only [Bool.and_eq_true] at h
    obtain ⟨⟨⟨h1, h2⟩, h3⟩, h4⟩ := h
    obtain ⟨k1, k2, k3⟩ := sndLs (xa := none) C.toCxOk tk h1
    exact sndS_asN C.hK C.calm (sndE e C.toCxOk tk h2) k1 k2 k3 (sw_tup h3) (swN_ok C.toCxOk h4)
  | .capp a e, M, X, W, st, C, tk, h => by
    rw [mS_capp] at h
    split at h
    case h_2 => cases h
    simp only [Bool.and_eq_true, beq_iff_eq] at h
    obtain ⟨⟨⟨⟨⟨rfl, h1⟩, h2⟩, h3⟩, h4⟩, h5⟩ := h
    exact sndS_capp C.hK (sndE a C.toCxOk tk h3) (sndE e C.toCxOk tk h4) (ab_of h1 _ _) (star_of h5 [] _) (by simpa using h2)
  | .set t e, M, X, W, st, C, tk, h => by
    rw [mS_set] at h
    split at h
    case h_2 => cases h
    rename_i tg v pos
    simp only [Bool.and_eq_true] at h
    obtain ⟨⟨⟨h1, h2⟩, h3⟩, h4⟩ := h
    cases t with
    | v i =>
      cases tg <;> first | (simp [mG] at h1; done) | skip
      rename_i x p
      obtain ⟨t, k1, k2, _⟩ := set_name (xa := none) (pos := pos) C.toCxOk tk h1 h2 h3
      have h1' := h1
      simp only [mG, Bool.and_eq_true] at h1'
      exact sndS_set1 (by rw [C.hN]; exact at_of h1'.1) k1 k2
    | t ts =>
      cases tg <;> first | (simp [mG] at h1; done) | skip
      exact sndS_set (sndE e C.toCxOk tk h2) (sndG _ C.toCxOk h1).1 (sw_tup h3) (swN_ok C.toCxOk h4) rfl
  | .own i e, M, X, W, st, C, tk, h => by
    rw [mS_own] at h
    split at h
    case h_2 => cases h
    rename_i x p v pos
    simp only [Bool.and_eq_true] at h
    obtain ⟨⟨⟨h1, h2⟩, h3⟩, h4⟩ := h
    obtain ⟨t, k1, _, k2⟩ := set_name (xa := none) (pos := pos) C.toCxOk tk h1 h2 h4
    simp only [mG, Bool.and_eq_true] at h1
    exact sndS_own (by rw [C.hN]; exact at_of h1.1) k1 (k2 h3)
  | .par is es, M, X, W, st, C, tk, h => by
    rw [mS_par] at h
    rcases Bool.or_eq_true_iff.mp h with h | h
    · split at h
      case h_2 => cases h
      simp only [Bool.and_eq_true, decide_eq_true_eq] at h
      obtain ⟨⟨⟨h1, h2⟩, h3⟩, h4⟩ := h
      obtain ⟨k1, k2, k3, k4⟩ := sndNs C.toCxOk h2
      exact sndS_parT C.calm (sndWs _ _ C.toCxOk tk h3) k1 (k2.trans (List.length_map _)) k3 h4 k4 (swN_ok C.toCxOk h1)
    split at h
    · rename_i i f j g x px y py _ _ a b _ _ _
      simp only [Bool.and_eq_true, Bool.not_eq_true', bne_iff_ne, ne_eq] at h
      obtain ⟨⟨⟨⟨⟨⟨⟨h1, h2⟩, h3⟩, h4⟩, h5⟩, h6⟩, h7⟩, h8⟩ := h
      obtain ⟨a1, a2, a3⟩ := nmAt_of C.toCxOk h1
      obtain ⟨b1, b2, b3⟩ := nmAt_of C.toCxOk h2
      have nn := mWs_nos h6
      match es, h6 with
      | [x1, x2], h6 => exact sndS_par2 C.calm C.nd a1 b1 h4 a3 b3 (sndWs _ _ C.toCxOk tk h6) (swP2 C.toCxOk a2 b2 h3 h5 (nn _ (by simp)) (nn _ (by simp)) h7 h8)
      | [], h6 => simp [mWs] at h6
      | [_], h6 => simp [mWs] at h6
      | _ :: _ :: _ :: _, h6 => simp [mWs] at h6
    · rename_i i f j g l h' x px y py z pz _ _ a b c _ _ _
      simp only [Bool.and_eq_true, Bool.not_eq_true', bne_iff_ne, ne_eq] at h
      obtain ⟨⟨⟨⟨⟨⟨⟨⟨⟨⟨⟨⟨⟨h1, h2⟩, h3⟩, h4⟩, h5⟩, h6⟩, h7⟩, h8⟩, h9⟩, h10⟩, h11⟩, h12⟩, h13⟩, h14⟩ := h
      obtain ⟨a1, a2, a3⟩ := nmAt_of C.toCxOk h1
      obtain ⟨b1, b2, b3⟩ := nmAt_of C.toCxOk h2
      obtain ⟨c1, c2, c3⟩ := nmAt_of C.toCxOk h3
      have nn := mWs_nos h12
      match es, h12 with
      | [x1, x2, x3], h12 => exact sndS_par3 C.calm C.nd a1 b1 c1 h7 h8 h9 a3 b3 c3 (sndWs _ _ C.toCxOk tk h12) (swP3 C.toCxOk a2 b2 c2 h4 h5 h6 h10 h11 (nn _ (by simp)) (nn _ (by simp)) (nn _ (by simp)) h13 h14)
      | [], h12 => simp [mWs] at h12
      | [_], h12 => simp [mWs] at h12
      | [_, _], h12 => simp [mWs] at h12
      | _ :: _ :: _ :: _ :: _, h12 => simp [mWs] at h12
    · cases h
  | .star i j e, M, X, W, st, C, tk, h => by
    rw [mS_star] at h
    split at h
    case h_2 => cases h
    simp only [Bool.and_eq_true] at h
    obtain ⟨⟨⟨⟨h1, h2⟩, h3⟩, h4⟩, h5⟩ := h
    simp only [mG, Bool.and_eq_true] at h1 h2
    have s1 := C.toCxOk.sto h1.2
    have s2 := C.toCxOk.sto h2.2
    exact sndS_star C.hK C.calm C.nd (by rw [C.hN]; exact at_of h1.1) (by rw [C.hN]; exact at_of h2.1) s1.1 s2.1 s1.2 s2.2 (sndE e C.toCxOk tk h3) (swN_ok C.toCxOk h5) (sw_tup h4)
  | .aug i e, M, X, W, st, C, tk, h => by
    rw [mS_aug] at h
    split at h
    case h_2 => cases h
    simp only [Bool.and_eq_true] at h
    obtain ⟨h1, h2⟩ := h
    simp only [mG, Bool.and_eq_true] at h1
    have s1 := C.toCxOk.sto h1.2
    exact sndS_aug C.nd (by rw [C.hN]; exact at_of h1.1) s1.1 s1.2 (sndE e C.toCxOk tk h2)
  | .app i e, M, X, W, st, C, tk, h => by
    rw [mS_app] at h
    split at h
    case h_2 => cases h
    simp only [Bool.and_eq_true, beq_iff_eq] at h
    obtain ⟨⟨⟨⟨⟨rfl, h1⟩, h2⟩, h3⟩, h4⟩, h5⟩ := h
    have hv := C.toCxOk.vis h2
    exact sndS_app C.hK (by rw [C.hN]; exact at_of h1) hv.1 hv.2.1 hv.2.2 (sndE e C.toCxOk tk h3) (star_of h4 [] _) (by rw [h5]; exact beq_self_eq_true _)
  | .pop j i, M, X, W, st, C, tk, h => by
    rw [mS_pop] at h
    split at h
    case h_2 => cases h
    simp only [Bool.and_eq_true, beq_iff_eq] at h
    obtain ⟨⟨⟨⟨rfl, h1⟩, h2⟩, h3⟩, h4⟩ := h
    have hv := C.toCxOk.vis h2
    simp only [mG, Bool.and_eq_true] at h3
    have hs := C.toCxOk.sto h3.2
    exact sndS_pop C.nd C.hK (by rw [C.hN]; exact at_of h1) hv.1 hv.2.1 hv.2.2 (by rw [C.hN]; exact at_of h3.1) hs.1 hs.2 (by rw [h4]; exact beq_self_eq_true _)
  | .put i k e, M, X, W, st, C, tk, h => by
    rw [mS_put] at h
    split at h
    case h_2 => cases h
    simp only [Bool.and_eq_true] at h
    obtain ⟨⟨⟨⟨⟨h1, h2⟩, h3⟩, h4⟩, h5⟩, h6⟩ := h
    have hv := C.toCxOk.vis h2
    refine sndS_put C.hK (by rw [C.hN]; exact at_of h1) hv.1 hv.2.1 hv.2.2 (sndE k C.toCxOk tk h3) (sndE e C.toCxOk tk h5) (fun v => ?_) (sw_sub h6)
    rename_i b _ _ _
    cases b <;> first | rfl | (simp [nos] at h4)
  | .frz _, M, X, W, st, C, tk, h => by rw [mS_frz] at h; cases h
  | .exp e, M, X, W, st, C, tk, h => by
    rw [mS_exp] at h
    split at h
    case h_2 => cases h
    simp only [Bool.and_eq_true, Bool.not_eq_true'] at h
    exact sndS_exp (sndE e C.toCxOk tk h.1) (sw_none h.2)
  | .ite c a b, M, X, W, st, C, tk, h => by
    rw [mS_ite] at h
    split at h
    case h_2 => cases h
    simp only [Bool.and_eq_true] at h
    obtain ⟨⟨⟨h1, h2⟩, h3⟩, h4⟩ := h
    exact sndS_ite (sndT c C.toCxOk tk h1 h2 (sndE c C.toCxOk tk h1)) (sndSs a C tk h3) (sndSs b C tk h4)
  | .whl c b, M, X, W, st, C, tk, h => by
    rw [mS_whl] at h
    split at h
    case h_2 => cases h
    simp only [Bool.and_eq_true] at h
    obtain ⟨⟨h1, h2⟩, h3⟩ := h
    exact sndS_whl C.hp (sndT c C.toCxOk tk h1 h2 (sndE c C.toCxOk tk h1)) (sndSs b C tk h3)
  | .for_ t it b, M, X, W, st, C, tk, h => by
    rw [mS_for_] at h
    split at h
    case h_2 => cases h
    rename_i tg iter x pos
    simp only [Bool.and_eq_true] at h
    obtain ⟨⟨⟨h1, h2⟩, h3⟩, h5⟩ := h
    have C' := C.toCxOk
    have hpi : PI X tg iter (rdI L none W false it) := by
      cases it with
      | rng es =>
        simp only at h5
        split at h5
        case h_2 => cases h5
        simp only [Bool.and_eq_true, beq_iff_eq, decide_eq_true_eq] at h5
        obtain ⟨⟨⟨rfl, g1⟩, g2⟩, g3⟩ := h5
        exact snd_rng C' g1 g2 g3 (sndEs es C' tk g2)
      | zip a b =>
        simp only at h5
        split at h5
        case h_2 => cases h5
        simp only [Bool.and_eq_true, beq_iff_eq] at h5
        obtain ⟨⟨⟨⟨⟨⟨rfl, g1⟩, g2⟩, g3⟩, g4⟩, g5⟩, g6⟩ := h5
        obtain ⟨elts, kk, tpos, rfl⟩ := tup_of g6
        exact snd_pi_zipF C.hK (C'.glb g1).1 (C'.bn _ (by simp [bnames])) (sndE a C' tk g2) (sndE b C' tk g3) (star_of g4 _ _) (star_of g5 [] _)
      | enm a =>
        simp only at h5
        split at h5
        case h_2 => cases h5
        simp only [Bool.and_eq_true, beq_iff_eq] at h5
        obtain ⟨⟨⟨⟨rfl, g1⟩, g2⟩, g3⟩, g4⟩ := h5
        obtain ⟨elts, kk, tpos, rfl⟩ := tup_of g4
        exact snd_pi_enmF C.hK (C'.glb g1).1 (C'.bn _ (by simp [bnames])) (sndE a C' tk g2) (star_of g3 [] _)
      | _ => exact snd_pi_ev C.hK (sndE _ C' tk h5)
    exact sndS_for C.hp C.calm hpi (sndG t C' h2).1 (sndSs b C tk h3) (fun x => fold_of h1 _ x)
  | .ret e, M, X, W, st, C, tk, h => by
    rw [mS_ret] at h
    split at h
    case h_2 => cases h
    exact sndS_ret (sndE e C.toCxOk tk h)
  | .rse c e, M, X, W, st, C, tk, h => by
    rw [mS_rse] at h
    split at h
    case h_2 => cases h
    rename_i x p a p2 p3
    simp only [Bool.and_eq_true] at h
    obtain ⟨⟨⟨h1, h2⟩, h3⟩, h4⟩ := h
    have hg := C.toCxOk.glb h1
    have hx := C.exf.xk _ _ (eq_of_beq h2)
    cases ef : fldG c with
    | none =>
      rw [ef] at h4
      dsimp only at h4
      split at h4
      case h_2 => cases h4
      split at h4
      case h_2 => cases h4
      exact snd_rse0 C.calm tk hg.1 hg.2 C.exf.fld hx ef
    | some f =>
      rw [ef] at h4
      exact snd_rse1 C.calm tk hg.1 hg.2 C.exf.fld hx ef (sndE e C.toCxOk tk h4) (star_of h3 [] _)
  | .try_ b hs, M, X, W, st, C, tk, h => by
    rw [mS_try_] at h
    split at h
    case h_2 => cases h
    rename_i body h0 es pos
    simp only [Bool.and_eq_true] at h
    obtain ⟨h1, h2⟩ := h
    obtain ⟨k1, k2, k3⟩ := hs_ok C.toCxOk C.exf h2
    refine PS.imp (ps_try_asM (tb := fun W1 => rdSs L none W1 b) C.stk C.frm C.nd tk (fun W1 pn xe tk1 hp1 => ?_) k1) fun E s H q => ?_
    · exact sndSs b { C with hp := hp1, hK := C.hK, exf := ⟨C.exf.xk, C.exf.kit, C.exf.cls, C.exf.fld⟩ } tk1 h1
    · obtain ⟨Z, r, ow, S, env, fr, q⟩ := q
      simp only [exS] at q
      refine ⟨Z, r, ow, S, env, fr, ?_⟩
      cases e : exSs L.F L.wf b env S with
      | ok f S2 =>
        rw [e] at q
        cases f with
        | nx env2 => exact q
        | rt d => exact q
      | exc c d env2 S2 =>
        rw [e] at q
        exact hs_wish C.exf k3 q
      | stuck => rw [e] at q; exact q
  | .pass, M, X, W, st, C, tk, h => by
    rw [mS_pass] at h
    split at h
    case h_2 => cases h
    exact sndS_pass
  | .nvr, M, X, W, st, C, tk, h => sndS_nvr
termination_by x => sizeOf x
theorem sndSs : ∀ (xs : List St) {M : Mc} {X : L2.Cx} {W : WX} {sts : List Stmt}, CxSt L M X → L2.Takes X W → mSs xs M sts = true → PSs X sts (rdSs L none W xs)
  | [], M, X, W, sts, C, tk, h => by
    cases sts with
    | nil => exact sndSs_nil
    | cons s r => simp [mSs] at h
  | x :: xs, M, X, W, sts, C, tk, h => by
    unfold mSs at h
    split at h
    · exact sndSs_frz (sndSs xs C tk h)
    · split at h
      · simp only [Bool.and_eq_true] at h
        exact sndSs_cons (sndS x C tk h.1) (sndSs xs C tk h.2)
      · cases h
termination_by xs => sizeOf xs
end
end
end Mi

set_option maxRecDepth 100000
set_option maxHeartbeats 4000000
namespace Mi
open PySem PySem.Spec PyProof.Rows
open L2 (V Hp HO upd upd_same upd_ne Same SqL SqT Rd VK XK WX PE PT PA OpR CallR IxR SlR TE TT TA tOp Dp DpAll PI TI PG PGs TG TGs PS PSs TS Vals RelV FunD FnOk FnScope KBn Room)

def pickU (us : List Value) : List (Nat ⊕ Value) → List Value
  | [] => []
  | .inl i :: bs => (us[i]?).getD .none :: pickU us bs
  | .inr u :: bs => u :: pickU us bs
def RelB : Nat ⊕ D → Nat ⊕ Value → Prop
  | .inl i, .inl j => i = j
  | .inr d, .inr u => RelV (constV d) u
  | _, _ => False
theorem pick_rel {vs : List V} {us : List Value} (r : Vals vs us) : ∀ {bs : List (Nat ⊕ D)} {cs : List (Nat ⊕ Value)}, Paired RelB bs cs → Vals (pickV vs bs) (pickU us cs)
  | _, _, .nil => .nil
  | _, _, .cons (a := .inl i) (b := .inl j) h hs => by
    cases (show i = j from h)
    refine .cons ?_ (pick_rel r hs)
    cases e : vs[i]? with
    | none =>
      have : us[i]? = none := by
        rw [List.getElem?_eq_none_iff] at e ⊢
        rw [← r.length]; exact e
      rw [this]
      exact rfl
    | some v =>
      obtain ⟨u, hu, rv⟩ := r.get e
      rw [hu]
      exact rv
  | _, _, .cons (a := .inr d) (b := .inr u) h hs => .cons h (pick_rel r hs)
  | _, _, .cons (a := .inl _) (b := .inr _) h _ => h.elim
  | _, _, .cons (a := .inr _) (b := .inl _) h _ => h.elim
section
variable {K : PySem.W.Frag} {x qual : Str} {params : Arguments} {body : List Stmt} {scope : Scope} {dvs : List V} {kws : List (Str × V)} {f : Addr} {fd : FuncData} {ps : List Str} {n : Nat} {ks : List Str} {bs : List (Nat ⊕ D)}
def posB : Nat → Nat → List (Nat ⊕ D)
  | _, 0 => []
  | i, n + 1 => .inl i :: posB (i + 1) n
def posU : Nat → Nat → List (Nat ⊕ Value)
  | _, 0 => []
  | i, n + 1 => .inl i :: posU (i + 1) n
theorem pos_rel : ∀ i n, Paired RelB (posB i n) (posU i n)
  | _, 0 => .nil
  | i, n + 1 => .cons rfl (pos_rel (i + 1) n)
/-- every parameter is given by place -/
theorem kb_pos (F : FunD K x qual params body scope [] kws f fd)
    (h : ∀ (kV doc pm : Value) (an : Option Addr) (cdv ct : Value) (us : List Value), us.length = n → bindArgs (PySem.W.fnOf x qual params body scope .none kV doc pm an cdv ct) ⟨us, []⟩ = pure (ps.zip (pickU us (posU 0 n)))) :
    ∃ g, KBn K fd ps n [] g (fun vs zs => pickV (vs ++ zs) (posB 0 n)) := by
  refine ⟨fun us ws => pickU (us ++ ws) (posU 0 n), ⟨fun s us ws X l1 l2 => ?_, fun r1 r2 => pick_rel (r1.append r2) (pos_rel 0 n)⟩⟩
  obtain ⟨oc, od, dV, kV, doc, pm, an, cdv, ct, osl, rfl, lk, hcd, hD, hK⟩ := F.ex
  rcases hD with ⟨_, rfl⟩ | ⟨e, _⟩
  · have hw : ws = [] := List.length_eq_zero_iff.mp l2
    subst hw
    refine .of_eq ?_
    rw [List.append_nil]
    exact h kV doc pm an cdv ct us l1
  · exact absurd rfl e
/-- keywords too; ms: the keyword-only parameters that lack -/
theorem kb_kw (F : FunD K x qual params body scope [] kws f fd) (ms : List (Str × V)) (mk : List Value → List (Nat ⊕ Value)) (hk : kws ≠ []) (hms : ∀ q ∈ ms, q ∈ kws) (hmk : ∀ mv, Vals (ms.map (·.2)) mv → Paired RelB bs (mk mv))
    (h : ∀ (D : Addr) (doc pm : Value) (an : Option Addr) (cdv ct : Value) (us mv ws : List Value), us.length = n → mv.length = ms.length → ws.length = ks.length →
      L2.KwChain D ((ms.map (·.1)).zip mv) (bindArgs (PySem.W.fnOf x qual params body scope .none (.ref D) doc pm an cdv ct) ⟨us, ks.zip ws⟩) (ps.zip (pickU (us ++ ws) (mk mv)))) :
    ∃ g, KBn K fd ps n ks g (fun vs zs => pickV (vs ++ zs) bs) := by
  obtain ⟨oc, od, dV, kV, doc, pm, an, cdv, ct, osl, rfl, lk, hcd, hD, hK⟩ := F.ex
  rcases hD with ⟨_, rfl⟩ | ⟨e, _⟩
  · rcases hK with e | ⟨D, rfl, hq⟩
    · exact absurd e hk
    · obtain ⟨mv, hl, rk, hks⟩ := L2.kwd_vals (ms := ms) fun q hm => hq q (hms q hm)
      exact ⟨fun us ws => pickU (us ++ ws) (mk mv), ⟨fun s us ws X l1 l2 => L2.BindsTo.of_looks fun M => L2.KwChain.looks X hks (h D doc pm an cdv ct us mv ws l1 hl l2), fun r1 r2 => pick_rel (r1.append r2) (hmk mv rk)⟩⟩
  · exact absurd rfl e
/-- the same, with positional defaults ahead -/
theorem kb_dkw (F : FunD K x qual params body scope dvs kws f fd) (ms : List (Str × V)) (mk : List Value → List Value → List (Nat ⊕ Value)) (hd : dvs ≠ []) (hk : kws ≠ []) (hms : ∀ q ∈ ms, q ∈ kws) (hmk : ∀ iv mv, Vals dvs iv → Vals (ms.map (·.2)) mv → Paired RelB bs (mk iv mv))
    (h : ∀ (T D : Addr) (doc pm : Value) (an : Option Addr) (cdv ct : Value) (us iv mv ws : List Value), us.length = n → iv.length = dvs.length → mv.length = ms.length → ws.length = ks.length →
      ∃ k, bindArgs (PySem.W.fnOf x qual params body scope (.ref T) (.ref D) doc pm an cdv ct) ⟨us, ks.zip ws⟩ = seqItems? (.ref T) >>= k ∧ L2.KwChain D ((ms.map (·.1)).zip mv) (k (some iv.toArray)) (ps.zip (pickU (us ++ ws) (mk iv mv)))) :
    ∃ g, KBn K fd ps n ks g (fun vs zs => pickV (vs ++ zs) bs) := by
  obtain ⟨oc, od, dV, kV, doc, pm, an, cdv, ct, osl, rfl, lk, hcd, hD, hK⟩ := F.ex
  rcases hD with ⟨e, _⟩ | ⟨_, T, o, iv, m, rfl, lT, oT, rT⟩
  · exact absurd e hd
  · rcases hK with e | ⟨D, rfl, hq⟩
    · exact absurd e hk
    · obtain ⟨mv, hl, rk, hks⟩ := L2.kwd_vals (ms := ms) fun q hm => hq q (hms q hm)
      refine ⟨fun us ws => pickU (us ++ ws) (mk iv mv), ⟨fun s us ws X l1 l2 => L2.BindsTo.of_looks fun M => ?_, fun r1 r2 => pick_rel (r1.append r2) (hmk iv mv rT rk)⟩⟩
      obtain ⟨k, e1, e2⟩ := h T D doc pm an cdv ct us iv mv ws l1 rT.length.symm hl l2
      rw [e1]
      exact L2.looks_items X lT oT (L2.KwChain.looks X hks e2)
end

structure Ent where
  id : Nat
  nm : Str
  st : Stmt
  N : List Str
  ps : List Str
  df : Def
  kws : List (Str × V)
  qn : Str
  dvs : List V
structure Tbl where
  ents : List Ent
  cns : List (Str × D)
  shp : List Shp
  xcl : List (Str × Nat)
  fd : List Str
  msh : List MShp
  ksh : List MShp
def Tbl.mc (T : Tbl) (e : Ent) : Mc := ⟨(L2.defScope e.st).names, e.N, T.cns, T.shp, T.xcl, none, T.fd, T.msh, T.ksh⟩
def Ent.At (K : PySem.W.Frag) (e : Ent) (f : Addr) (fd : FuncData) : Prop := FunD K e.nm e.qn (L2.defArgs e.st) (L2.defBody e.st) (L2.defScope e.st) e.dvs e.kws f fd
structure EntOk (T : Tbl) (fn : Nat → Option Def) (e : Ent) : Prop where
  sc : FnScope e.N e.ps (L2.defScope e.st)
  ms : mSs e.df.body (T.mc e) (L2.defBody e.st) = true
  np : e.df.np = e.ps.length
  ns : e.df.ns = e.N.length
  fn : fn e.id = some e.df
/-- the run's letters -/
structure Run where
  P : Program
  w : World
  K : PySem.W.Frag
  mg : Str → Option Value
  base : Heap
  sc : Addr
  ins : List Int
  xc : Xc
  fn : Nat → Option Def
  dr : Int → Int → Int
  wf : Nat
  cl : List (Nat × Addr)
  fd : List Str
  nd : fd.Nodup
abbrev Run.G (R : Run) : Gd := ⟨R.K, R.sc, R.ins, R.cl, R.fd, R.nd⟩
def Run.L (R : Run) (n : Nat) : Lt := ⟨R.G, R.xc, ⟨callN R.fn R.dr R.wf n, R.dr⟩, R.wf⟩
/-- how a class is made, whatever the room -/
def MkR (R : Run) (C : Addr) : Option Str → Prop
  | none => PySem.W.excIn R.K C veBs "ValueError.__new__" = true
  | some f => L2.OexC R.K C ∧ PySem.W.findIn R.K (.ref C) f = some none ∧ ∃ (fI : Addr) (fd : FuncData) (ps : List Str), PySem.W.findIn R.K (.ref C) "__init__" = some (some (.ref fI)) ∧ PySem.W.typeIn R.K (.ref fI) = some (.type "function") ∧
      L2.FnOk R.P R.w R.K R.mg R.base (L2.CX R.P R.w) 1 fI fd ps (spInit C f) ∧ L2.Binds R.K fd ps []
structure ExR0 (R : Run) (T : Tbl) : Prop where
  xk : ∀ x c, T.xcl.lookup x = some c → ∃ C, R.mg x = some (.ref C) ∧ R.xc.adr c = some C ∧ ClsF R.K C ∧ MkR R C (fldG c)
  kit : ∀ c C c' C', R.xc.adr c = some C → R.xc.adr c' = some C' → PySem.W.kitOne R.K (.ref C) (.ref C') = some (isSub c c') ∧ PySem.W.exmOne R.K (.ref C) (.ref C') = some (isSub c c')
  cls : ∀ c C, R.xc.adr c = some C → ClsF R.K C
  fld : R.xc.fld = fldG
structure RunOk (R : Run) (T : Tbl) : Prop where
  ent : ∀ e ∈ T.ents, EntOk T R.fn e
  fdh : R.fd = T.fd
  ck : ∀ c C, (c, C) ∈ R.cl → L2.Cls R.K C ∧ ∀ f ∈ R.fd, L2.NoAttr R.K C f
  msh : ∀ s ∈ T.msh, s.nm ∉ R.fd ∧ (∀ d, .inr d ∈ s.bs → okC d = true) ∧ ∃ e ∈ T.ents, e.id = s.f ∧ s.bs.length = e.ps.length ∧ ∀ C, (s.c, C) ∈ R.cl → ∃ f fd, L2.Meth R.K C s.nm f ∧ e.At R.K f fd ∧ ∃ g, KBn R.K fd e.ps (s.n + 1) s.ks g (fun vs zs => pickV (vs ++ zs) s.bs)
  ksh : ∀ s ∈ T.ksh, (∀ d, .inr d ∈ s.bs → okC d = true) ∧ ∃ e ∈ T.ents, e.id = s.f ∧ s.bs.length = e.ps.length ∧ ∃ C f fd, (s.c, C) ∈ R.cl ∧ R.mg s.nm = some (.ref C) ∧ L2.Mk R.K C f ∧ e.At R.K f fd ∧ ∃ g, KBn R.K fd e.ps (s.n + 1) s.ks g (fun vs zs => pickV (vs ++ zs) s.bs)
  shp : ∀ s ∈ T.shp, ∃ e ∈ T.ents, e.id = s.f ∧ (∃ f fd, R.mg s.nm = some (.ref f) ∧ e.At R.K f fd) ∧ s.bs.length = e.ps.length ∧ (∀ d, .inr d ∈ s.bs → okC d = true) ∧ ∀ f fd, e.At R.K f fd → ∃ g, KBn R.K fd e.ps s.n s.ks g (fun vs zs => pickV (vs ++ zs) s.bs)
  bn : ∀ x ∈ bnames, R.mg x = none
  cn : ∀ x d, T.cns.lookup x = some d → ∃ u v, R.mg x = some u ∧ RelV v u ∧ ∀ H B r, Rep R.G H B r d v
  dw : ∃ (ad : Addr) (fd : FuncData) (ps : List Str), L2.FnOk R.P R.w R.K R.mg R.base (L2.CX R.P R.w) 1 ad fd ps (spDr (R.L 0)) ∧ R.mg "_law_drawn" = some (.ref ad) ∧ PySem.W.keepIn R.K (.ref ad) = true ∧ L2.Binds R.K fd ps []
  ex : ExR0 R T

section
variable {R : Run} {T : Tbl}
theorem fr_start {G : Gd} {xc : Xc} {Z : Addr → Prop} {r : List Addr} {H : Hp} {S : Sto} {ds : List D} {vs : List V} {df : Def} {N : List Str} (fr : Fr G xc none Z r no H S [] []) (h : Reps G H (BB Z r no) r ds vs) (hn : df.ns = N.length) : Fr G xc none Z r no H S (df.start ds) (L2.start N vs) where
  slot := fun i p e => by
    unfold Def.start at e
    by_cases hi : i < ds.length
    · rw [List.getElem?_append_left (by simpa using hi), List.getElem?_map, List.getElem?_eq_getElem hi] at e
      cases e
      obtain ⟨v, hv, rp⟩ := h.at (List.getElem?_eq_getElem hi)
      refine ⟨rfl, v, ?_, rp⟩
      unfold L2.start
      rw [List.getElem?_append_left (by rw [List.length_map, h.len]; exact hi), List.getElem?_map, hv]
      rfl
    · rw [List.getElem?_append_right (by simpa using hi), List.getElem?_replicate] at e
      split at e
      · cases e; exact rfl
      · cases e
  out := fun i a e => by cases e
  inj := fun i j a e => by cases e
  dis := fun i a e => by cases e
  zr := fr.zr
  al := fr.al
  sto := fr.sto
  len := by
    unfold Def.start L2.start
    rw [List.length_append, List.length_append, List.length_map, List.length_map, List.length_replicate, List.length_replicate, h.len, hn]
  scr := fr.scr
  scf := fr.scf
theorem fr_end {G : Gd} {xc : Xc} {xa : XA} {Z : Addr → Prop} {r : List Addr} {ow : Nat → Option Addr} {H : Hp} {S : Sto} {env : Env} {s : L2.St} (fr : Fr G xc xa Z r ow H S env s) : Fr G xc none Z r no H S [] [] := fr.base.unban fun a z => .inl z
theorem bb_no {Z : Addr → Prop} {r : List Addr} {ow : Nat → Option Addr} {a : Addr} (h : BB Z r no a) : BB Z r ow a := by
  rcases h with h | h | ⟨_, h⟩
  · exact .inl h
  · exact .inr (.inl h)
  · cases h
/-- a def's body, run -/
theorem post_def {L : Lt} {Z : Addr → Prop} {r : List Addr} {H : Hp} {Q : VK} {E : XK} : ∀ {R : SR}, PostE L none Z r no H [] [] Q E (match (motive := SR → Res D) R with
      | .ok (.rt d) S => .ok d S
      | .ok (.nx _) S => .ok .non S
      | .exc c d _ S => .exc c d S
      | .stuck => .stuck) → PostS L none Z r no H { nx := fun _ H' => Q .non H', rt := Q } (fun c d _ H' => E c d H') R
  | .ok (.nx env') S', h => fun s' H' r' ow' t fr => h .non H' r' t.stp (fr_end fr) (by rw [Rep])
  | .ok (.rt d) S', h => fun v env' s' H' r' ow' t fr rp => h v H' r' t.stp (fr_end fr) (rp.ban fun a z => bb_no z)
  | .exc c d e S', h => fun cls dd s' H' r' ow' t fr ex => h cls dd H' r' t.stp (fr_end fr) (ex.ban fun a z => bb_no z)
  | .stuck, h => h
theorem PostS.lt {L L' : Lt} (hG : L.G = L'.G) (hx : L.xc = L'.xc) {xa : XA} {Z : Addr → Prop} {r : List Addr} {ow : Nat → Option Addr} {H : Hp} {E : L2.Ends} {W : WX} : ∀ {R : SR}, PostS L xa Z r ow H E W R → PostS L' xa Z r ow H E W R
  | .ok (.nx _) _, h => by unfold PostS at *; rw [← hG, ← hx]; exact h
  | .ok (.rt _) _, h => by unfold PostS at *; rw [← hG, ← hx]; exact h
  | .exc _ _ _ _, h => by unfold PostS at *; rw [← hG, ← hx]; exact h
  | .stuck, h => h
theorem def_ok (ok : RunOk R T) : ∀ (n : Nat) (e : Ent), e ∈ T.ents → ∀ f fd, e.At R.K f fd → FnOk R.P R.w R.K R.mg R.base (L2.CX R.P R.w) (2 * n + 2) f fd e.ps (spF (R.L n) e.id e.ps.length)
  | 0, e, he, f, fd, F => by
    refine ⟨fun vs H Q E h => h.1, fun A outer s H args us vs Q E _ _ _ _ h => ?_⟩
    obtain ⟨_, Z, r, S, ds, _, _, q⟩ := h
    exact q.elim
  | n + 1, e, he, f, fd, F => by
    have eo := ok.ent e he
    have e22 : 2 * (n + 1) + 2 = (2 * n + 3) + 1 := by omega
    rw [e22]
    refine FunD.ok F eo.sc (fun vs H Q E h => h.1) fun cdv A outer s H vs Q E hr h => ?_
    obtain ⟨hl, Z, r, S, ds, fr, rp, q⟩ := h
    have C : CxSt (R.L n) (T.mc e) (L2.cxOf (L2.CX R.P R.w) R.P R.w R.K R.mg R.base e.N e.qn (L2.defScope e.st) f cdv A outer s H E) := {
      hK := rfl
      hN := rfl
      nd := eo.sc.nd
      nm := rfl
      sk := eo.sc.kind
      calm := rfl
      un := by
        have := hr.un
        show (A.deeper _).units + 200 < cLine
        omega
      bn := ok.bn
      cn := ok.cn
      sh := fun sh hs => by
        obtain ⟨e', he', h1, ⟨f', fd', hm, F'⟩, h3, h4, h5⟩ := ok.shp sh hs
        obtain ⟨g, hg⟩ := h5 f' fd' F'
        refine ⟨f', fd', e'.ps, 2 * n + 2, g, ?_, hr.mono (by omega), hm, F'.kp, hg, h4, h3⟩
        rw [← h1]
        exact def_ok ok n e' he' f' fd' F'
      fdh := ok.fdh
      ck := ok.ck
      mh := fun sh hs => by
        obtain ⟨h0, h1, e', he', h2, h3, h4⟩ := ok.msh sh hs
        refine ⟨h0, h1, fun C hC => ?_⟩
        obtain ⟨f', fd', hm, F', g, hg⟩ := h4 C hC
        refine ⟨f', fd', e'.ps, 2 * n + 2, g, hm, ?_, hr, hg⟩
        rw [← h2, h3]
        exact def_ok ok n e' he' f' fd' F'
      kh := fun sh hs => by
        obtain ⟨h1, e', he', h2, h3, C, f', fd', hC, hm, M, F', g, hg⟩ := ok.ksh sh hs
        refine ⟨h1, C, f', fd', e'.ps, 2 * n + 2, g, hC, hm, M, ?_, hr, hg⟩
        rw [← h2, h3]
        exact def_ok ok n e' he' f' fd' F'
      dw := by
        obtain ⟨ad, fd', ps, F', hm, hk, hb⟩ := ok.dw
        exact ⟨ad, fd', ps, 1, F', hr.mono (by omega), hm, hk, hb⟩
      fn := fun _ _ => rfl
      hp := L2.passes_of rfl
      stk := rfl
      frm := rfl
      exf := {
        xk := fun x c hx => by
          obtain ⟨C, g1, g2, g3, g4⟩ := ok.ex.xk x c hx
          refine ⟨C, g1, g2, g3, ?_⟩
          cases ef : fldG c with
          | none => rw [ef] at g4; exact g4
          | some f =>
            rw [ef] at g4
            obtain ⟨k1, k2, fI, fdI, psI, k3, k4, k5, k6⟩ := g4
            exact ⟨k1, k2, fI, fdI, psI, 1, k3, k4, k5, hr.mono (by omega), k6⟩
        kit := ok.ex.kit
        cls := ok.ex.cls
        fld := ok.ex.fld } }
    have tk := L2.takes_of (X := L2.cxOf (L2.CX R.P R.w) R.P R.w R.K R.mg R.base e.N e.qn (L2.defScope e.st) f cdv A outer s H E) (E := E) rfl rfl rfl rfl
    refine ⟨_, sndSs e.df.body C tk eo.ms, Z, r, no, S, e.df.start ds, fr_start fr rp eo.ns, ?_⟩
    have hds : ds.length = e.df.np := by rw [← rp.len, hl, eo.np]
    have q' : PostE (R.L (n + 1)) none Z r no H [] [] Q E (callN R.fn R.dr R.wf (n + 1) e.id ds S) := q
    unfold callN at q'
    rw [eo.fn] at q'
    dsimp only at q'
    rw [if_pos hds] at q'
    exact PostS.lt rfl rfl (post_def q')
end
end Mi

set_option maxRecDepth 100000
set_option maxHeartbeats 4000000
namespace Mi
/-- the loop over a cell's wide part -/
def dLoop : Nat → Int → Int
  | 0, r => r
  | t + 1, r => if r > 0 then dLoop t (r / 1000000) else r
def dFin (k m c : Int) : Int :=
  let c1 := (c % 2147483563 * 69069 + 104723 * (k + 1)) % 2147483563
  let c2 := (c1 * c1 + c1 / 3) % 2147483399
  (c2 * c2 + c2 / 7) % 2147483647 / 11 % m
def drM (ns : List Int) (k m : Int) : Int :=
  if ns = [] then dFin k m (7 * k) else
    let n : Int := ns.length
    let c := (ns[(k % n).toNat]?).getD 0
    let t := k / n
    if c ≥ 10 ^ 18 ∧ t < 60 ∧ dLoop t.toNat (c / 10 ^ 18) > 0 then dLoop t.toNat (c / 10 ^ 18) % 1000000 % m
    else dFin k m (c + 6553 * t)
theorem drM_bnd (ns : List Int) {k m : Int} (h : 0 < m) : 0 ≤ drM ns k m ∧ drM ns k m < m := by
  have a : ∀ x : Int, 0 ≤ x % m ∧ x % m < m := fun x => ⟨Int.emod_nonneg _ (by omega), Int.emod_lt_of_pos _ h⟩
  unfold drM
  split
  · exact a _
  · dsimp only
    split
    · exact a _
    · exact a _
open PySem PySem.Spec PyProof.Rows
open L2 (V Hp HO upd upd_same upd_ne SqL SqT VK XK TE TS tOp tVar tC tSeq tAsg gName tIfS tTest tAnd tRet tWhile tNext rI rI0 CMul CDiv CDivW CPow rNeD rIxL tLst tNil tCons tCB)
def tLn (K : PySem.W.Frag) : TE := tCB (fun xs H Q => ∃ p ys, xs = [V.ref p] ∧ (SqL K H p ys ∨ SqT K H p ys) ∧ Q (.int ys.length) H) (tCons (tVar 0) tNil)
abbrev oMul : L2.R2 := rI CMul fun i j => V.int (i * j)
abbrev oMod : L2.R2 := rI (fun _ j => 0 < j) fun i j => V.int (i % j)
abbrev oDiv : L2.R2 := rI CDiv fun i j => V.int (i / j)
abbrev oDivW : L2.R2 := rI CDivW fun i j => V.int (i / j)
abbrev oPow : L2.R2 := rI CPow fun i j => V.int (i ^ j.toNat)
abbrev oAdd : L2.R2 := rI0 fun i j => V.int (i + j)
abbrev oSub : L2.R2 := rI0 fun i j => V.int (i - j)
abbrev oGt : L2.R2 := rI0 fun i j => V.bl (decide (j < i))
abbrev oGe : L2.R2 := rI0 fun i j => V.bl (decide (j ≤ i))
abbrev oLt : L2.R2 := rI0 fun i j => V.bl (decide (i < j))
def tFin : TS := tSeq (tAsg (tOp oMod (tOp oAdd (tOp oMul (tOp oMod (tVar 3) (tC (.int 2147483563))) (tC (.int 69069))) (tOp oMul (tC (.int 104723)) (tOp oAdd (tVar 1) (tC (.int 1))))) (tC (.int 2147483563))) (gName 3))
  (tSeq (tAsg (tOp oMod (tOp oAdd (tOp oMul (tVar 3) (tVar 3)) (tOp oDiv (tVar 3) (tC (.int 3)))) (tC (.int 2147483399))) (gName 3))
    (tRet (tOp oMod (tOp oDiv (tOp oMod (tOp oAdd (tOp oMul (tVar 3) (tVar 3)) (tOp oDiv (tVar 3) (tC (.int 7)))) (tC (.int 2147483647))) (tC (.int 11))) (tVar 2))))
def tLoop : TS := tWhile (tAnd (tTest (tOp oGt (tVar 5) (tC (.int 0)))) (tTest (tOp oGt (tVar 4) (tC (.int 0))))) (tSeq (tAsg (tOp oDiv (tVar 5) (tC (.int 1000000))) (gName 5)) (tAsg (tOp oSub (tVar 4) (tC (.int 1))) (gName 4)))
def tWideP : TS := tIfS (tAnd (tTest (tOp oGe (tVar 3) (tOp oPow (tC (.int 10)) (tC (.int 18))))) (tTest (tOp oLt (tVar 4) (tC (.int 60)))))
  (tSeq (tAsg (tOp oDivW (tVar 3) (tOp oPow (tC (.int 10)) (tC (.int 18)))) (gName 5)) (tSeq tLoop (tIfS (tTest (tOp oGt (tVar 5) (tC (.int 0)))) (tRet (tOp oMod (tOp oMod (tVar 5) (tC (.int 1000000))) (tVar 2))) tNext))) tNext
def tThen (K : PySem.W.Frag) : TS := tSeq (tAsg (tOp (rIxL K) (tVar 0) (tOp oMod (tVar 1) (tLn K))) (gName 3)) (tSeq (tAsg (tOp oDiv (tVar 1) (tLn K)) (gName 4)) (tSeq tWideP (tAsg (tOp oAdd (tVar 3) (tOp oMul (tC (.int 6553)) (tOp oDiv (tVar 1) (tLn K)))) (gName 3))))
def tDrawn (K : PySem.W.Frag) : TS := tSeq (tAsg (tOp oMul (tC (.int 7)) (tVar 1)) (gName 3)) (tSeq (tIfS (tTest (tOp (rNeD K) (tVar 0) (tLst tNil))) (tThen K) tNext) tFin)
section
variable {K : PySem.W.Frag} {H : Hp} {Q : VK} {a : Addr} {k m : Int}
theorem fin_read {E : L2.Ends} {c : Int} {y4 y5 : Option V} (k0 : 0 ≤ k) (k1 : k < 1000000) (m0 : 0 < m) (q : E.rt (.int (dFin k m c)) H) : tFin E [some (.ref a), some (.int k), some (.int m), some (.int c), y4, y5] H := by
  have h1 : 0 ≤ c % 2147483563 := Int.emod_nonneg _ (by decide)
  have h2 : c % 2147483563 < 2147483563 := Int.emod_lt_of_pos _ (by decide)
  refine ⟨.int c, rfl, c, 2147483563, rfl, rfl, (show (0 : Int) < 2147483563 by decide), c % 2147483563, 69069, rfl, rfl, .inr ⟨by decide, by decide⟩, .int k, rfl, k, 1, rfl, rfl, 104723, k + 1, rfl, rfl, .inl ⟨by decide, by decide⟩, _, _, rfl, rfl, _, 2147483563, rfl, rfl, (show (0 : Int) < 2147483563 by decide), ?_⟩
  unfold dFin at q
  dsimp only at q
  have e1 : 0 ≤ (c % 2147483563 * 69069 + 104723 * (k + 1)) % 2147483563 := Int.emod_nonneg _ (by decide)
  have e2 : (c % 2147483563 * 69069 + 104723 * (k + 1)) % 2147483563 < 2147483563 := Int.emod_lt_of_pos _ (by decide)
  dsimp only
  generalize (c % 2147483563 * 69069 + 104723 * (k + 1)) % 2147483563 = c1 at e1 e2 q ⊢
  refine ⟨.int c1, rfl, .int c1, rfl, c1, c1, rfl, rfl, .inl ⟨by omega, by omega⟩, .int c1, rfl, c1, 3, rfl, rfl, ⟨by decide, by decide⟩, _, _, rfl, rfl, _, 2147483399, rfl, rfl, (show (0 : Int) < 2147483399 by decide), ?_⟩
  have g1 : 0 ≤ (c1 * c1 + c1 / 3) % 2147483399 := Int.emod_nonneg _ (by decide)
  have g2 : (c1 * c1 + c1 / 3) % 2147483399 < 2147483399 := Int.emod_lt_of_pos _ (by decide)
  dsimp only
  generalize (c1 * c1 + c1 / 3) % 2147483399 = c2 at g1 g2 q ⊢
  exact ⟨.int c2, rfl, .int c2, rfl, c2, c2, rfl, rfl, .inl ⟨by omega, by omega⟩, .int c2, rfl, c2, 7, rfl, rfl, ⟨by decide, by decide⟩, _, _, rfl, rfl, _, 2147483647, rfl, rfl, (show (0 : Int) < 2147483647 by decide), _, 11, rfl, rfl, ⟨by decide, by decide⟩, .int m, rfl, _, m, rfl, rfl, m0, q⟩
theorem dLoop_stop {t : Nat} {r : Int} (h : ¬ (r > 0)) : dLoop t r = r := by
  cases t with
  | zero => rfl
  | succ t => unfold dLoop; rw [if_neg h]
theorem loop_read {E : L2.Ends} {c t r : Int} (t0 : 0 ≤ t) (q : ∀ t', E.nx [some (.ref a), some (.int k), some (.int m), some (.int c), some (.int t'), some (.int (dLoop t.toNat r))] H) : tLoop E [some (.ref a), some (.int k), some (.int m), some (.int c), some (.int t), some (.int r)] H := by
  refine ⟨fun n σ H1 => ∃ t1 r1 : Int, σ = [some (.ref a), some (.int k), some (.int m), some (.int c), some (.int t1), some (.int r1)] ∧ 0 ≤ t1 ∧ n = t1.toNat ∧ H1 = H ∧ dLoop t1.toNat r1 = dLoop t.toNat r, ⟨t.toNat, t, r, rfl, t0, rfl, rfl, rfl⟩, ?_⟩
  rintro n σ H1 ⟨t1, r1, rfl, h0, rfl, rfl, he⟩
  refine ⟨.int r1, rfl, r1, 0, rfl, rfl, _, rfl, ?_⟩
  by_cases hr : (0 : Int) < r1
  · rw [decide_eq_true hr]
    dsimp only
    rw [if_pos rfl]
    refine ⟨.int t1, rfl, t1, 0, rfl, rfl, _, rfl, ?_⟩
    by_cases ht : (0 : Int) < t1
    · rw [decide_eq_true ht]
      dsimp only
      rw [if_pos rfl]
      refine ⟨fun σ' H' => ∃ t2 r2 : Int, σ' = [some (.ref a), some (.int k), some (.int m), some (.int c), some (.int t2), some (.int r2)] ∧ t2 = t1 - 1 ∧ H' = H1 ∧ dLoop t2.toNat r2 = dLoop t.toNat r, fun σ' H' z => ?_, ?_⟩
      · obtain ⟨t2, r2, rfl, rfl, rfl, e2⟩ := z
        exact ⟨(t1 - 1).toNat, by omega, t1 - 1, r2, rfl, by omega, rfl, rfl, e2⟩
      · refine ⟨.int r1, rfl, r1, 1000000, rfl, rfl, ⟨by decide, by decide⟩, .int t1, rfl, t1, 1, rfl, rfl, t1 - 1, r1 / 1000000, rfl, rfl, rfl, ?_⟩
        have e : t1.toNat = (t1 - 1).toNat + 1 := by omega
        have e3 : dLoop t1.toNat r1 = dLoop (t1 - 1).toNat (r1 / 1000000) := by
          rw [e]
          show (if r1 > 0 then _ else _) = _
          rw [if_pos hr]
        rw [← he, e3]
    · rw [decide_eq_false ht]
      dsimp only
      rw [if_neg Bool.false_ne_true]
      have e : t1.toNat = 0 := by omega
      rw [e] at he
      have : r1 = dLoop t.toNat r := he
      rw [this]
      exact q t1
  · rw [decide_eq_false hr]
    dsimp only
    rw [if_neg Bool.false_ne_true, if_neg Bool.false_ne_true]
    rw [dLoop_stop (by omega)] at he
    rw [he]
    exact q t1
theorem pow18 : (10 : Int) ^ (18 : Int).toNat = 10 ^ 18 := rfl
theorem drawn_read {ns : List Int} (hS : SqL K H a (ns.map V.int)) (hn : ns.length ≤ 63) (k0 : 0 ≤ k) (k1 : k < 1000000) (m0 : 0 < m) (q : ∀ p, H p = none → Q (.int (drM ns k m)) (upd H p (.lst []))) :
    tDrawn K { nx := fun _ H' => Q .non H', rt := Q } [some (.ref a), some (.int k), some (.int m), none, none, none] H := by
  refine ⟨.int k, rfl, 7, k, rfl, rfl, .inl ⟨by decide, by decide⟩, ?_⟩
  refine ⟨.ref a, rfl, Nat.zero_le _, fun p hp => ?_⟩
  have sm : L2.Same H (upd H p (.lst [])) := fun b x e => by rw [upd_ne (L2.ne_of_none e hp)]; exact e
  have hS1 : SqL K (upd H p (.lst [])) a (ns.map V.int) := sm.seq hS
  have dpi : ∀ l : List Int, L2.DpAll K (upd H p (.lst [])) (l.map V.int) (l.map PyData.int) := fun l => by
    induction l with
    | nil => exact .nil
    | cons i l ih => exact .cons (.int i) ih
  have q := q p hp
  have hcl : ∀ l : List Int, PyData.canLayAll0 (l.map PyData.int) = true := fun l => by
    induction l with
    | nil => simp [PyData.canLayAll0]
    | cons i l ih => simp [PyData.canLayAll0, PyData.canLay0, ih]
  have hdp : ∀ l : List Int, PyData.depthAll (l.map PyData.int) = 0 := fun l => by
    induction l with
    | nil => simp [PyData.depthAll]
    | cons i l ih => simp [PyData.depthAll, PyData.depth, ih]
  refine ⟨.list (ns.map .int), .list [], .lst hS1 (dpi ns), .lst (.inl (.inl upd_same)) .nil, ?_, rfl, _, rfl, ?_⟩
  · show (PyData.canLay0 (.list (ns.map .int)) && decide (PyData.depth (.list (ns.map .int)) ≤ 64)) = true
    simp [PyData.canLay0, PyData.depth, hcl, hdp]
  · cases ns with
    | nil =>
      have e : PyData.eqv (.list (([] : List Int).map .int)) (.list []) = true := by simp [PyData.eqv, PyData.eqvAll]
      rw [e]
      dsimp only
      rw [if_neg (by decide)]
      refine fin_read k0 k1 m0 ?_
      unfold drM at q
      rw [if_pos rfl] at q
      exact q
    | cons x l =>
      have e : PyData.eqv (.list ((x :: l).map .int)) (.list []) = false := by simp [PyData.eqv, PyData.eqvAll]
      rw [e]
      dsimp only
      rw [if_pos (by decide)]
      unfold drM at q
      rw [if_neg (List.cons_ne_nil x l)] at q
      dsimp only at q
      have hl : (((x :: l).map V.int).length : Int) = ((x :: l).length : Int) := by rw [List.length_map]
      have hpos : (0 : Int) < ((x :: l).length : Int) := by rw [List.length_cons]; omega
      have hle : ((x :: l).length : Int) ≤ 63 := by omega
      have hm0 : 0 ≤ k % ((x :: l).length : Int) := Int.emod_nonneg _ (by omega)
      have hm1 : k % ((x :: l).length : Int) < ((x :: l).length : Int) := Int.emod_lt_of_pos _ hpos
      have hat : L2.atI ((x :: l).map V.int) (k % ((x :: l).length : Int)) = some (.int (((x :: l)[(k % ((x :: l).length : Int)).toNat]?).getD 0)) := by
        unfold L2.atI L2.ixN
        rw [if_pos hm0, hl, if_pos hm1, Option.bind_some, List.getElem?_map]
        have : (k % ((x :: l).length : Int)).toNat < (x :: l).length := by omega
        rw [List.getElem?_eq_getElem this]
        rfl
      generalize ((x :: l)[(k % ((x :: l).length : Int)).toNat]?).getD 0 = c at hat q
      have htn : 0 ≤ k / ((x :: l).length : Int) := Int.ediv_nonneg k0 (by omega)
      refine ⟨.ref a, rfl, .int k, rfl, .ref a, rfl, a, _, rfl, .inl hS1, k, _, rfl, rfl, by rw [hl]; exact hpos, a, _, _, _, rfl, rfl, hS1, by rw [hl]; exact hat, ?_⟩
      refine ⟨.int k, rfl, .ref a, rfl, a, _, rfl, .inl hS1, k, _, rfl, rfl, ⟨by rw [hl]; exact hpos, by rw [hl]; omega⟩, ?_⟩
      dsimp only
      rw [hl]
      generalize et : k / ((x :: l).length : Int) = t at htn q ⊢
      -- behind the wide part
      have rest : ∀ (y4 y5 : Option V), Q (.int (dFin k m (c + 6553 * t))) (upd H p (.lst [])) → (tAsg (tOp oAdd (tVar 3) (tOp oMul (tC (.int 6553)) (tOp oDiv (tVar 1) (tLn K)))) (gName 3)) { nx := tFin { nx := fun _ H' => Q .non H', rt := Q }, rt := Q } [some (.ref a), some (.int k), some (.int m), some (.int c), y4, y5] (upd H p (.lst [])) := by
        intro y4 y5 q
        refine ⟨.int c, rfl, .int k, rfl, .ref a, rfl, a, _, rfl, .inl hS1, k, _, rfl, rfl, ⟨by rw [hl]; exact hpos, by rw [hl]; omega⟩, 6553, _, rfl, rfl, .inl ⟨by decide, by decide⟩, c, _, rfl, rfl, ?_⟩
        dsimp only
        rw [hl, et]
        exact fin_read k0 k1 m0 q
      refine ⟨.int c, rfl, 10, 18, rfl, rfl, ⟨by decide, by decide, by decide⟩, c, _, rfl, rfl, _, rfl, ?_⟩
      by_cases h1 : (10 : Int) ^ (18 : Int).toNat ≤ c
      · rw [decide_eq_true h1]
        dsimp only
        rw [if_pos rfl]
        refine ⟨.int t, rfl, t, 60, rfl, rfl, _, rfl, ?_⟩
        by_cases h2 : t < 60
        · rw [decide_eq_true h2]
          dsimp only
          rw [if_pos rfl]
          refine ⟨.int c, rfl, 10, 18, rfl, rfl, ⟨by decide, by decide, by decide⟩, c, _, rfl, rfl, ⟨by decide, by decide +kernel⟩, ?_⟩
          refine loop_read htn fun t' => ?_
          refine ⟨.int _, rfl, _, 0, rfl, rfl, _, rfl, ?_⟩
          by_cases h3 : (0 : Int) < dLoop t.toNat (c / 10 ^ (18 : Int).toNat)
          · rw [decide_eq_true h3]
            dsimp only
            rw [if_pos rfl]
            rw [if_pos ⟨h1, h2, h3⟩] at q
            exact ⟨.int _, rfl, _, 1000000, rfl, rfl, (show (0 : Int) < 1000000 by decide), .int m, rfl, _, m, rfl, rfl, m0, q⟩
          · rw [decide_eq_false h3]
            dsimp only
            rw [if_neg Bool.false_ne_true]
            rw [if_neg fun z => h3 z.2.2] at q
            exact rest _ _ q
        · rw [decide_eq_false h2]
          dsimp only
          rw [if_neg Bool.false_ne_true]
          rw [if_neg fun z => h2 z.2.1] at q
          exact rest _ _ q
      · rw [decide_eq_false h1]
        dsimp only
        rw [if_neg Bool.false_ne_true, if_neg Bool.false_ne_true]
        rw [if_neg fun z => h1 z.1] at q
        exact rest _ _ q
end
end Mi

set_option maxRecDepth 100000
set_option maxHeartbeats 4000000
namespace Mi
/-- every oracle of draws within its bounds -/
def Bnd (dr : Int → Int → Int) : Prop := ∀ k m, 0 < m → 0 ≤ dr k m ∧ dr k m < m
def SR.fin : SR → Res D
  | .ok (.rt d) S => .ok d S
  | .ok (.nx _) S => .ok .non S
  | .exc c d _ S => .exc c d S
  | .stuck => .stuck
theorem callN_eq {T : Nat → Option Def} {dr : Int → Int → Int} {W n f : Nat} {df : Def} {ds : List D} {S : Sto} (h : T f = some df) (hl : ds.length = df.np) :
    callN T dr W (n + 1) f ds S = (exSs ⟨callN T dr W n, dr⟩ W df.body (df.start ds) S).fin := by
  unfold callN
  rw [h]
  dsimp only
  rw [if_pos hl]
  cases exSs ⟨callN T dr W n, dr⟩ W df.body (df.start ds) S with
  | ok f S => cases f <;> rfl
  | exc c d e S => rfl
  | stuck => rfl
theorem forL_inv {f : D → Env → Sto → SR} {S : Sto} {P : Nat → Env → Prop} : ∀ (xs : List D) (k : Nat) (env : Env), (∀ i d env, xs[i]? = some d → P (k + i) env → ∃ env', f d env S = .ok (.nx env') S ∧ P (k + i + 1) env') → P k env → ∃ env', forL f xs env S = .ok (.nx env') S ∧ P (k + xs.length) env'
  | [], k, env, _, h => ⟨env, rfl, h⟩
  | d :: ds, k, env, step, h => by
    obtain ⟨env1, e1, h1⟩ := step 0 d env rfl h
    obtain ⟨env2, e2, h2⟩ := forL_inv (P := P) ds (k + 1) env1 (fun i d env hd hp => by
      have := step (i + 1) d env (by simpa using hd) (by rw [show k + (i + 1) = k + 1 + i by omega]; exact hp)
      rw [show k + (i + 1) + 1 = k + 1 + i + 1 by omega] at this
      exact this) h1
    refine ⟨env2, ?_, by rw [List.length_cons, show k + (ds.length + 1) = k + 1 + ds.length by omega]; exact h2⟩
    simp only [forL, e1, SR.next]
    exact e2
/-- a comprehension whose turns go through -/
theorem lcL_map {f : D → Sto → Res (Option D)} {S : Sto} {g : D → Option D} : ∀ (xs : List D), (∀ d ∈ xs, f d S = .ok (g d) S) → lcL f xs S = .ok (xs.filterMap g) S
  | [], _ => rfl
  | d :: ds, h => by
    simp only [lcL, h d List.mem_cons_self, lcL_map ds fun x hx => h x (List.mem_cons_of_mem _ hx), Res.bind]
    rw [List.filterMap_cons]
    cases g d <;> rfl
/-- .. over a list that is told by a map -/
theorem lcL_mapT {α : Type} {f : D → Sto → Res (Option D)} {S : Sto} {t : α → D} {g : α → D} (xs : List α) (h : ∀ a ∈ xs, f (t a) S = .ok (some (g a)) S) : lcL f (xs.map t) S = .ok (xs.map g) S := by
  induction xs with
  | nil => rfl
  | cons a xs ih =>
    simp only [List.map_cons, lcL, h a List.mem_cons_self, ih fun x hx => h x (List.mem_cons_of_mem _ hx), Res.bind]
/-- .. with a test -/
theorem lcL_filT {α : Type} {f : D → Sto → Res (Option D)} {S : Sto} {t : α → D} {g : α → D} {p : α → Bool} (xs : List α) (h : ∀ a ∈ xs, f (t a) S = .ok (if p a = true then some (g a) else none) S) : lcL f (xs.map t) S = .ok ((xs.filter p).map g) S := by
  induction xs with
  | nil => rfl
  | cons a xs ih =>
    simp only [List.map_cons, lcL, h a List.mem_cons_self, ih fun x hx => h x (List.mem_cons_of_mem _ hx), Res.bind]
    cases hp : p a <;> simp [List.filter_cons, hp]
/-- a for whose turns go through, by a state -/
theorem forL_st {σ α : Type} {f : D → Env → Sto → SR} {S : Sto} {t : α → D} {E : σ → Env} {g : σ → α → σ} : ∀ (xs : List α) (s : σ), (∀ a ∈ xs, ∀ s, f (t a) (E s) S = .ok (.nx (E (g s a))) S) → forL f (xs.map t) (E s) S = .ok (.nx (E (xs.foldl g s))) S
  | [], s, _ => rfl
  | a :: xs, s, h => by
    simp only [List.map_cons, forL, h a List.mem_cons_self, SR.next, List.foldl_cons]
    exact forL_st xs (g s a) fun b hb => h b (List.mem_cons_of_mem _ hb)
/-- .. with an invariant over what is left -/
theorem forL_ind {σ α : Type} {f : D → Env → Sto → SR} {S : Sto} {t : α → D} {E : σ → Env} {g : σ → α → σ} {I : List α → σ → Prop} : ∀ (xs : List α) (s : σ), I xs s → (∀ a r s, I (a :: r) s → f (t a) (E s) S = .ok (.nx (E (g s a))) S ∧ I r (g s a)) →
    forL f (xs.map t) (E s) S = .ok (.nx (E (xs.foldl g s))) S ∧ I [] (xs.foldl g s)
  | [], s, hI, _ => ⟨rfl, hI⟩
  | a :: xs, s, hI, h => by
    obtain ⟨h1, h2⟩ := h a xs s hI
    simp only [List.map_cons, forL, h1, SR.next, List.foldl_cons]
    exact forL_ind xs (g s a) h2 h
/-- a comprehension's turn; a loop's turn: names, so that they stay as they are -/
def lcF (F : Fns) (e : Ex) (t : Tg) (c : Ex) (env : Env) : D → Sto → Res (Option D) := fun d S => match asg t d (wipS (slots t) env) with
  | some env' => (evE F c env' S).bind fun b S => match b with
    | .bl true => (evE F e env' S).bind fun y S => .ok (some y) S
    | .bl false => .ok none S
    | _ => .stuck
  | none => .stuck
@[simp] theorem lcF_app (F : Fns) (e : Ex) (t : Tg) (c : Ex) (env : Env) (d : D) (S : Sto) : lcF F e t c env d S = match asg t d (wipS (slots t) env) with
  | some env' => (evE F c env' S).bind fun b S => match b with
    | .bl true => (evE F e env' S).bind fun y S => .ok (some y) S
    | .bl false => .ok none S
    | _ => .stuck
  | none => .stuck := (rfl)
def ctF (F : Fns) (e : Ex) (t1 t2 : Tg) (it2 c : Ex) (env : Env) : D → Sto → Res (List D) := fun d S => match asg t1 d (wipS (slots t1 ++ slots t2) env) with
  | some env1 => match (if noOwnIt it2 env1 = true then evE F it2 env1 S else .stuck) with
    | .ok y S => match itB y with
      | some ys => if (decide (ys.length ≤ 4000) && okW env1 (slots t2)) = true then lcL (lcF F e t2 c env1) ys S else .stuck
      | none => .stuck
    | _ => .stuck
  | none => .stuck
@[simp] theorem ctF_app (F : Fns) (e : Ex) (t1 t2 : Tg) (it2 c : Ex) (env : Env) (d : D) (S : Sto) : ctF F e t1 t2 it2 c env d S = match asg t1 d (wipS (slots t1 ++ slots t2) env) with
  | some env1 => match (if noOwnIt it2 env1 = true then evE F it2 env1 S else .stuck) with
    | .ok y S => match itB y with
      | some ys => if (decide (ys.length ≤ 4000) && okW env1 (slots t2)) = true then lcL (lcF F e t2 c env1) ys S else .stuck
      | none => .stuck
    | _ => .stuck
  | none => .stuck := (rfl)
/-- a comprehension of two for, whose turns go through -/
theorem catL_mapT {α : Type} {f : D → Sto → Res (List D)} {S : Sto} {t : α → D} {g : α → List D} (xs : List α) (h : ∀ a ∈ xs, f (t a) S = .ok (g a) S) : catL f (xs.map t) S = .ok (xs.flatMap g) S := by
  induction xs with
  | nil => rfl
  | cons a xs ih => simp only [List.map_cons, catL, h a List.mem_cons_self, ih fun x hx => h x (List.mem_cons_of_mem _ hx), Res.bind, List.flatMap_cons]
def forF (F : Fns) (W : Nat) (t : Tg) (b : List St) : D → Env → Sto → SR := fun d env S => match asg t d env with
  | some env' => exSs F W b env' S
  | none => .stuck
@[simp] theorem forF_app (F : Fns) (W : Nat) (t : Tg) (b : List St) (d : D) (env : Env) (S : Sto) : forF F W t b d env S = match asg t d env with
  | some env' => exSs F W b env' S
  | none => .stuck := (rfl)
def whlR (F : Fns) (W : Nat) (c : Ex) (b : List St) (m : Nat) (env : Env) (S : Sto) : SR := whlL (fun env S => evE F c env S) (fun env S => exSs F W b env S) m env S
theorem whlR_succ (F : Fns) (W : Nat) (c : Ex) (b : List St) (m : Nat) (env : Env) (S : Sto) : whlR F W c b (m + 1) env S = .of env (evE F c env S) fun x S => match x with
  | .bl true => (exSs F W b env S).next fun env S => whlR F W c b m env S
  | .bl false => .ok (.nx env) S
  | _ => .stuck := rfl
theorem lcL_all {f : D → Sto → Res (Option D)} {S : Sto} {g : D → D} : ∀ (xs : List D), (∀ d ∈ xs, f d S = .ok (some (g d)) S) → lcL f xs S = .ok (xs.map g) S
  | [], _ => rfl
  | d :: ds, h => by simp only [List.map_cons, lcL, h d List.mem_cons_self, lcL_all ds fun x hx => h x (List.mem_cons_of_mem _ hx), Res.bind]
@[simp] theorem bind_ok {α β : Type} (a : α) (S : Sto) (f : α → Sto → Res β) : (Res.ok a S).bind f = f a S := (rfl)
@[simp] theorem bind_exc {α β : Type} (c : Nat) (d : D) (S : Sto) (f : α → Sto → Res β) : (Res.exc c d S).bind f = .exc c d S := (rfl)
@[simp] theorem of_some {α : Type} (a : α) (S : Sto) : Res.of (some a) S = .ok a S := (rfl)
@[simp] theorem srof_ok (env : Env) (d : D) (S : Sto) (f : D → Sto → SR) : SR.of env (.ok d S) f = f d S := (rfl)
@[simp] theorem srof_exc (env : Env) (c : Nat) (d : D) (S : Sto) (f : D → Sto → SR) : SR.of env (.exc c d S) f = .exc c d env S := (rfl)
@[simp] theorem next_nx (e : Env) (S : Sto) (f : Env → Sto → SR) : SR.next (.ok (.nx e) S) f = f e S := (rfl)
@[simp] theorem next_rt (d : D) (S : Sto) (f : Env → Sto → SR) : SR.next (.ok (.rt d) S) f = .ok (.rt d) S := (rfl)
@[simp] theorem next_exc (c : Nat) (d : D) (e : Env) (S : Sto) (f : Env → Sto → SR) : SR.next (.exc c d e S) f = .exc c d e S := (rfl)
@[simp] theorem fin_rt (d : D) (S : Sto) : SR.fin (.ok (.rt d) S) = .ok d S := (rfl)
@[simp] theorem fin_nx (e : Env) (S : Sto) : SR.fin (.ok (.nx e) S) = .ok .non S := (rfl)
@[simp] theorem fin_exc (c : Nat) (d : D) (e : Env) (S : Sto) : SR.fin (.exc c d e S) = .exc c d S := (rfl)
@[simp] theorem opI_add (i j : Int) : opB .add (.int i) (.int j) = some (.int (i + j)) := (rfl)
@[simp] theorem opI_sub (i j : Int) : opB .sub (.int i) (.int j) = some (.int (i - j)) := (rfl)
theorem opI_mul {i j : Int} (h : (small i || small j) = true) : opB .mul (.int i) (.int j) = some (.int (i * j)) := if_pos h
theorem opI_mod {i j : Int} (h : 0 < j) : opB .mod (.int i) (.int j) = some (.int (i % j)) := if_pos h
theorem opI_fdiv {i j : Int} (h : 0 < j) (h2 : j < 1073741824) : opB .fdiv (.int i) (.int j) = some (.int (i / j)) := if_pos ⟨h, h2⟩
@[simp] theorem cmpI_lt (i j : Int) : cmpB .lt (.int i) (.int j) = some (decide (i < j)) := (rfl)
@[simp] theorem cmpI_le (i j : Int) : cmpB .le (.int i) (.int j) = some (decide (i ≤ j)) := (rfl)
@[simp] theorem cmpI_gt (i j : Int) : cmpB .gt (.int i) (.int j) = some (decide (j < i)) := (rfl)
@[simp] theorem cmpI_ge (i j : Int) : cmpB .ge (.int i) (.int j) = some (decide (j ≤ i)) := (rfl)
@[simp] theorem eqI (i j : Int) : eqB (.int i) (.int j) = some (decide (i = j)) := by
  unfold eqB
  rw [if_pos (by simp [D.flat])]
  simp only [D.eqv]
  congr 1
@[simp] theorem cmpI_eq (i j : Int) : cmpB .eq (.int i) (.int j) = some (decide (i = j)) := eqI i j
@[simp] theorem cmpI_ne (i j : Int) : cmpB .ne (.int i) (.int j) = some (!decide (i = j)) := by
  simp [cmpB]
section
variable (F : Fns) (W : Nat) (env : Env) (S : Sto)
@[simp] theorem evE_var (i : Nat) : evE F (.var i) env S = match env[i]? with | some (.fz d) => .ok d S | _ => .stuck := by simp only [evE] <;> rfl
@[simp] theorem evE_cst (d : D) : evE F (.cst d) env S = .ok d S := by simp only [evE]
@[simp] theorem evE_tup (es : List Ex) : evE F (.tup es) env S = (evEs F es env S).bind fun ds S => if ds.length ≤ SZ then .ok (.tup ds) S else .stuck := by simp only [evE]
@[simp] theorem evE_lst (es : List Ex) : evE F (.lst es) env S = (evEs F es env S).bind fun ds S => if ds.length ≤ SZ then .ok (.lst ds) S else .stuck := by simp only [evE]
@[simp] theorem evE_bin (o : Bop) (a b : Ex) : evE F (.bin o a b) env S = (rd a env S (evE F a env S)).bind fun x S => (rd b env S (evE F b env S)).bind fun y S => .of (opB o x y) S := by simp only [evE]
@[simp] theorem evE_neg (a : Ex) : evE F (.neg a) env S = (evE F a env S).bind fun x S => match x with | .int i => .ok (.int (-i)) S | _ => .stuck := by simp only [evE] <;> rfl
@[simp] theorem evE_not (a : Ex) : evE F (.not a) env S = (evE F a env S).bind fun x S => match x with | .bl b => .ok (.bl (!b)) S | _ => .stuck := by simp only [evE] <;> rfl
@[simp] theorem evE_cmp (o : Cop) (a b : Ex) : evE F (.cmp o a b) env S = (rd a env S (evE F a env S)).bind fun x S => (rd b env S (evE F b env S)).bind fun y S => .of ((cmpB o x y).map .bl) S := by simp only [evE]
@[simp] theorem evE_chn (o p : Cop) (a b c : Ex) : evE F (.chn o p a b c) env S = (evE F a env S).bind fun x S => (evE F b env S).bind fun y S => match cmpB o x y with
    | some true => (evE F c env S).bind fun z S => .of ((cmpB p y z).map .bl) S
    | some false => .ok (.bl false) S
    | none => .stuck := by simp only [evE] <;> rfl
@[simp] theorem evE_and (es : List Ex) : evE F (.and es) env S = evAnd F es env S := by simp only [evE]
@[simp] theorem evE_or (es : List Ex) : evE F (.or es) env S = evOr F es env S := by simp only [evE]
@[simp] theorem evE_ite (c a b : Ex) : evE F (.ite c a b) env S = (evE F c env S).bind fun x S => match x with | .bl true => evE F a env S | .bl false => evE F b env S | _ => .stuck := by simp only [evE] <;> rfl
@[simp] theorem evE_idx (a i : Ex) : evE F (.idx a i) env S = (rd a env S (evE F a env S)).bind fun x S => (evE F i env S).bind fun y S => .of (idxB x y) S := by simp only [evE]
@[simp] theorem evE_isi (a : Ex) (k : Kd) : evE F (.isi a k) env S = (rd a env S (evE F a env S)).bind fun x S => .of ((isK k x).map .bl) S := by simp only [evE]
@[simp] theorem evE_call (f : Nat) (es ks : List Ex) (bs : List (Nat ⊕ D)) : evE F (.call f es ks bs) env S = (evEs F es env S).bind fun ds S => (evEs F ks env S).bind fun zs S => match binds (ds ++ zs) bs with | some vs => F.call f vs S | none => .stuck := by simp only [evE] <;> rfl
@[simp] theorem evE_drawn (q : Nat) (k m : Ex) : evE F (.drawn q k m) env S = match env[q]? with
    | some (.fz .scr) => (evE F k env S).bind fun x S => (evE F m env S).bind fun y S => match x, y with
      | .int i, .int j => if 0 ≤ i ∧ i < 1000000 ∧ 0 < j ∧ j ≤ 1073741824 then .ok (.int (F.dr i j)) S else .stuck
      | _, _ => .stuck
    | _ => .stuck := by simp only [evE] <;> rfl
@[simp] theorem evE_blt (b : Blt) (es : List Ex) : evE F (.blt b es) env S = (evRs F es env S).bind fun ds S => .of (bltB b ds) S := by simp only [evE]
@[simp] theorem evE_rng (es : List Ex) : evE F (.rng es) env S = (evEs F es env S).bind fun ds S => .of ((rngB ds).map .lst) S := by simp only [evE]
@[simp] theorem evE_zip (a b : Ex) : evE F (.zip a b) env S = (rd a env S (evE F a env S)).bind fun x S => (rd b env S (evE F b env S)).bind fun y S => .of (zipB x y) S := by simp only [evE]
@[simp] theorem evE_enm (a : Ex) : evE F (.enm a) env S = (rd a env S (evE F a env S)).bind fun x S => .of (enmB x) S := by simp only [evE]
@[simp] theorem evE_rev (a : Ex) : evE F (.rev a) env S = (rd a env S (evE F a env S)).bind fun x S => .of (revB x) S := by simp only [evE]
@[simp] theorem evE_lrng (es : List Ex) : evE F (.lrng es) env S = (evEs F es env S).bind fun ds S => .of (lrgB ds) S := by simp only [evE]
@[simp] theorem evE_mth (m : Mth) (a b : Ex) : evE F (.mth m a b) env S = (rd a env S (evE F a env S)).bind fun x S => if mthK m x = true then (evE F b env S).bind fun y S => .of (mthB m x y) S else .stuck := by simp only [evE]
@[simp] theorem evE_sset (a : Ex) : evE F (.sset a) env S = (rd a env S (evE F a env S)).bind fun x S => .of (ssB x) S := by simp only [evE]
@[simp] theorem evE_lset (a : Ex) : evE F (.lset a) env S = (rd a env S (evE F a env S)).bind fun x S => .of (lsB x) S := by simp only [evE]
@[simp] theorem evE_lc2 (e : Ex) (t1 : Tg) (it1 : Ex) (t2 : Tg) (it2 c : Ex) : evE F (.lc2 e t1 it1 t2 it2 c) env S = (rd it1 env S (evE F it1 env S)).bind fun x S => match itB x with
    | some xs => if (decide (xs.length ≤ 4000) && okW env (slots t1 ++ slots t2)) = true then (catL (ctF F e t1 t2 it2 c env) xs S).bind fun ys S => .ok (.lst ys) S else .stuck
    | none => .stuck := by simp only [evE] <;> rfl
@[simp] theorem evE_slc (a lo hi : Ex) : evE F (.slc a lo hi) env S = (rd a env S (evE F a env S)).bind fun x S => (evE F lo env S).bind fun l S => match part lo l with
    | some l => (evE F hi env S).bind fun h S => match part hi h with
      | some h => .of (slcB x l h) S
      | none => .stuck
    | none => .stuck := by simp only [evE] <;> rfl
@[simp] theorem evE_lc (e : Ex) (t : Tg) (it c : Ex) : evE F (.lc e t it c) env S = (rd it env S (evE F it env S)).bind fun x S => match itB x with
    | some xs => if (decide (xs.length ≤ SZ) && okW env (slots t)) = true then (lcL (lcF F e t c env) xs S).bind fun ys S => .ok (.lst ys) S else .stuck
    | none => .stuck := by simp only [evE] <;> rfl
@[simp] theorem evE_efld (i C : Nat) : evE F (.efld i C) env S = match env[i]? with | some (.exn c d) => if c = C then .ok d S else .stuck | _ => .stuck := by simp only [evE] <;> rfl
@[simp] theorem evE_eis (i C : Nat) : evE F (.eis i C) env S = match env[i]? with | some (.exn c _) => .ok (.bl (isSub c C)) S | _ => .stuck := by simp only [evE] <;> rfl
@[simp] theorem evEs_nil : evEs F [] env S = .ok [] S := by simp only [evEs]
@[simp] theorem evEs_cons (e : Ex) (es : List Ex) : evEs F (e :: es) env S = (evE F e env S).bind fun d S => (evEs F es env S).bind fun ds S => .ok (d :: ds) S := by simp only [evEs]
@[simp] theorem evRs_nil : evRs F [] env S = .ok [] S := by simp only [evRs]
@[simp] theorem evRs_cons (e : Ex) (es : List Ex) : evRs F (e :: es) env S = (rd e env S (evE F e env S)).bind fun d S => (evRs F es env S).bind fun ds S => .ok (d :: ds) S := by simp only [evRs]
@[simp] theorem evAnd_one (e : Ex) : evAnd F [e] env S = evE F e env S := by simp only [evAnd]
@[simp] theorem evAnd_two (e f : Ex) (es : List Ex) : evAnd F (e :: f :: es) env S = (evE F e env S).bind fun x S => match x with | .bl true => evAnd F (f :: es) env S | .bl false => .ok (.bl false) S | _ => .stuck := by simp only [evAnd] <;> rfl
@[simp] theorem evOr_one (e : Ex) : evOr F [e] env S = evE F e env S := by simp only [evOr]
@[simp] theorem evOr_two (e f : Ex) (es : List Ex) : evOr F (e :: f :: es) env S = (evE F e env S).bind fun x S => match x with | .bl true => .ok (.bl true) S | .bl false => evOr F (f :: es) env S | _ => .stuck := by simp only [evOr] <;> rfl
@[simp] theorem rd_var (i : Nat) (r : Res D) : rd (.var i) env S r = match env[i]? with | some (.fz d) => .ok d S | some (.own xs) => .ok (.lst xs) S | _ => .stuck := (rfl)
@[simp] theorem rd_cst (d : D) (r : Res D) : rd (.cst d) env S r = r := (rfl)
@[simp] theorem rd_tup (d : List Ex) (r : Res D) : rd (.tup d) env S r = r := (rfl)
@[simp] theorem rd_lst (d : List Ex) (r : Res D) : rd (.lst d) env S r = r := (rfl)
@[simp] theorem rd_bin (o : Bop) (a b : Ex) (r : Res D) : rd (.bin o a b) env S r = r := (rfl)
@[simp] theorem rd_neg (a : Ex) (r : Res D) : rd (.neg a) env S r = r := (rfl)
@[simp] theorem rd_not0 (a : Ex) (r : Res D) : rd (.not a) env S r = r := (rfl)
@[simp] theorem rd_cmp (o : Cop) (a b : Ex) (r : Res D) : rd (.cmp o a b) env S r = r := (rfl)
@[simp] theorem rd_chn (o p : Cop) (a b c : Ex) (r : Res D) : rd (.chn o p a b c) env S r = r := (rfl)
@[simp] theorem rd_and (a : List Ex) (r : Res D) : rd (.and a) env S r = r := (rfl)
@[simp] theorem rd_or (a : List Ex) (r : Res D) : rd (.or a) env S r = r := (rfl)
@[simp] theorem rd_ite (a b c : Ex) (r : Res D) : rd (.ite a b c) env S r = r := (rfl)
@[simp] theorem rd_idx (a b : Ex) (r : Res D) : rd (.idx a b) env S r = r := (rfl)
@[simp] theorem rd_slc (a b c : Ex) (r : Res D) : rd (.slc a b c) env S r = r := (rfl)
@[simp] theorem rd_isi (a : Ex) (k : Kd) (r : Res D) : rd (.isi a k) env S r = r := (rfl)
@[simp] theorem rd_call (f : Nat) (es ks : List Ex) (bs : List (Nat ⊕ D)) (r : Res D) : rd (.call f es ks bs) env S r = r := (rfl)
@[simp] theorem rd_drawn (i : Nat) (a b : Ex) (r : Res D) : rd (.drawn i a b) env S r = r := (rfl)
@[simp] theorem rd_blt (b : Blt) (es : List Ex) (r : Res D) : rd (.blt b es) env S r = r := (rfl)
@[simp] theorem rd_rng (es : List Ex) (r : Res D) : rd (.rng es) env S r = r := (rfl)
@[simp] theorem rd_zip (a b : Ex) (r : Res D) : rd (.zip a b) env S r = r := (rfl)
@[simp] theorem rd_enm (a : Ex) (r : Res D) : rd (.enm a) env S r = r := (rfl)
@[simp] theorem rd_lc (a : Ex) (t : Tg) (b c : Ex) (r : Res D) : rd (.lc a t b c) env S r = r := (rfl)
@[simp] theorem rd_rev (a : Ex) (r : Res D) : rd (.rev a) env S r = r := (rfl)
@[simp] theorem rd_lrng (es : List Ex) (r : Res D) : rd (.lrng es) env S r = r := (rfl)
@[simp] theorem rd_mth (m : Mth) (a b : Ex) (r : Res D) : rd (.mth m a b) env S r = r := (rfl)
@[simp] theorem rd_sset (a : Ex) (r : Res D) : rd (.sset a) env S r = r := (rfl)
@[simp] theorem rd_lset (a : Ex) (r : Res D) : rd (.lset a) env S r = r := (rfl)
@[simp] theorem rd_lc2 (e : Ex) (t1 : Tg) (it1 : Ex) (t2 : Tg) (it2 c : Ex) (r : Res D) : rd (.lc2 e t1 it1 t2 it2 c) env S r = r := (rfl)
@[simp] theorem exSs_nil : exSs F W [] env S = .ok (.nx env) S := by simp only [exSs]
@[simp] theorem exSs_cons (s : St) (ss : List St) : exSs F W (s :: ss) env S = (exS F W s env S).next (exSs F W ss) := by simp only [exSs]
@[simp] theorem exS_set (t : Tg) (e : Ex) : exS F W (.set t e) env S = .of env (evE F e env S) fun d S => match asg t d env with | some env' => .ok (.nx env') S | none => .stuck := by simp only [exS] <;> rfl
@[simp] theorem exS_own (i : Nat) (e : Ex) : exS F W (.own i e) env S = .of env (evE F e env S) fun d S => match d with | .lst xs => .ok (.nx (env.set i (.own xs))) S | _ => .stuck := by simp only [exS] <;> rfl
@[simp] theorem exS_par (is : List (Nat × Bool)) (es : List Ex) : exS F W (.par is es) env S = match evWs F (is.map (·.2)) es env S with
    | .ok ds S => match puts is ds env with
      | some env' => .ok (.nx env') S
      | none => .stuck
    | .exc c d S => .exc c d env S
    | .stuck => .stuck := by simp only [exS] <;> rfl
@[simp] theorem exS_app (i : Nat) (e : Ex) : exS F W (.app i e) env S = match env[i]? with
    | some (.own xs) => .of env (evE F e env S) fun d S => if xs.length < SZ then .ok (.nx (env.set i (.own (xs ++ [d])))) S else .stuck
    | _ => .stuck := by simp only [exS] <;> rfl
@[simp] theorem exS_aug (i : Nat) (e : Ex) : exS F W (.aug i e) env S = match env[i]? with
    | some (.fz (.int a)) => .of env (evE F e env S) fun d S => match d with
      | .int b => .ok (.nx (env.set i (.fz (.int (a + b))))) S
      | _ => .stuck
    | _ => .stuck := by simp only [exS] <;> rfl
@[simp] theorem exS_star (i j : Nat) (e : Ex) : exS F W (.star i j e) env S = .of env (evE F e env S) fun d S => match d with
    | .lst xs => match xs.getLast? with
      | some y => .ok (.nx ((env.set i (.fz (.lst xs.dropLast))).set j (.fz y))) S
      | none => .stuck
    | _ => .stuck := by simp only [exS] <;> rfl
@[simp] theorem exS_pop (j i : Nat) : exS F W (.pop j i) env S = match env[i]? with
    | some (.own xs) => match xs.getLast? with
      | some d => .ok (.nx ((env.set i (.own xs.dropLast)).set j (.fz d))) S
      | none => .stuck
    | _ => .stuck := by simp only [exS] <;> rfl
@[simp] theorem exS_put (i : Nat) (k e : Ex) : exS F W (.put i k e) env S = match env[i]? with
    | some (.own xs) => .of env (evE F e env S) fun d S => .of env (evE F k env S) fun kd S => match kd with
      | .int n => if 0 ≤ n ∧ n < xs.length then .ok (.nx (env.set i (.own (xs.set n.toNat d)))) S else .stuck
      | _ => .stuck
    | _ => .stuck := by simp only [exS] <;> rfl
@[simp] theorem exS_frz (i : Nat) : exS F W (.frz i) env S = match env[i]? with
    | some (.own xs) => .ok (.nx (env.set i (.fz (.lst xs)))) S
    | some (.fz _) => .ok (.nx env) S
    | _ => .stuck := by simp only [exS] <;> rfl
@[simp] theorem exS_exp (e : Ex) : exS F W (.exp e) env S = .of env (evE F e env S) fun _ S => .ok (.nx env) S := by simp only [exS]
@[simp] theorem exS_ite (c : Ex) (a b : List St) : exS F W (.ite c a b) env S = .of env (evE F c env S) fun x S => match x with | .bl true => exSs F W a env S | .bl false => exSs F W b env S | _ => .stuck := by simp only [exS] <;> rfl
@[simp] theorem exS_whl (c : Ex) (b : List St) : exS F W (.whl c b) env S = whlR F W c b W env S := by simp only [exS] <;> rfl
@[simp] theorem exS_for (t : Tg) (it : Ex) (b : List St) : exS F W (.for_ t it b) env S = if noOwnIt it env = true then .of env (evE F it env S) fun x S => match itB x with
      | some xs => forL (forF F W t b) xs env S
      | none => .stuck
    else .stuck := by simp only [exS] <;> rfl
@[simp] theorem exS_ret (e : Ex) : exS F W (.ret e) env S = .of env (evE F e env S) fun d S => .ok (.rt d) S := by simp only [exS]
@[simp] theorem exS_rse (c : Nat) (e : Ex) : exS F W (.rse c e) env S = .of env (evE F e env S) fun d S => .exc c d env S := by simp only [exS]
@[simp] theorem exS_try (b : List St) (hs : List (Nat × Nat × List St)) : exS F W (.try_ b hs) env S = match exSs F W b env S with | .exc c d env' S' => exHs F W hs c d env' S' | r => r := by simp only [exS] <;> rfl
@[simp] theorem exS_pass : exS F W .pass env S = .ok (.nx env) S := by simp only [exS]
@[simp] theorem exHs_nil (c : Nat) (d : D) : exHs F W [] c d env S = .exc c d env S := by simp only [exHs]
@[simp] theorem exHs_cons (C i : Nat) (b : List St) (hs : List (Nat × Nat × List St)) (c : Nat) (d : D) : exHs F W ((C, i, b) :: hs) c d env S = if isSub c C = true then exEnd i (exSs F W b (env.set i (.exn c d)) S) else exHs F W hs c d env S := by simp only [exHs]
@[simp] theorem exEnd_nx (i : Nat) : exEnd i (.ok (.nx env) S) = if noX (env.set i .un) = true then .ok (.nx (env.set i .un)) S else .stuck := (rfl)
@[simp] theorem exEnd_rt (i : Nat) (d : D) : exEnd i (.ok (.rt d) S) = .ok (.rt d) S := (rfl)
@[simp] theorem evWs_nil : evWs F [] [] env S = .ok [] S := (rfl)
@[simp] theorem evWs_cons (b : Bool) (bs : List Bool) (e : Ex) (es : List Ex) : evWs F (b :: bs) (e :: es) env S = (evE F e env S).bind fun d S => if (b && !isL d) = true then .stuck else (evWs F bs es env S).bind fun ds S => .ok (d :: ds) S := (rfl)
end
@[simp] theorem asg_v (i : Nat) (d : D) (env : Env) : asg (.v i) d env = some (env.set i (.fz d)) := by simp only [asg]
@[simp] theorem asg_t (ts : List Tg) (ds : List D) (env : Env) : asg (.t ts) (.tup ds) env = asgs ts ds env := by simp only [asg]
@[simp] theorem asgs_nil (env : Env) : asgs [] [] env = some env := by simp only [asgs]
@[simp] theorem asgs_cons (t : Tg) (ts : List Tg) (d : D) (ds : List D) (env : Env) : asgs (t :: ts) (d :: ds) env = match asg t d env with | some env' => asgs ts ds env' | none => none := by simp only [asgs] <;> rfl
@[simp] theorem slots_v (i : Nat) : slots (.v i) = [i] := by simp only [slots]
@[simp] theorem slots_t (ts : List Tg) : slots (.t ts) = slotss ts := by simp only [slots]
@[simp] theorem slotss_nil : slotss [] = [] := by simp only [slotss]
@[simp] theorem slotss_cons (t : Tg) (ts : List Tg) : slotss (t :: ts) = slots t ++ slotss ts := by simp only [slotss]
@[simp] theorem itB_lst (xs : List D) : itB (.lst xs) = some xs := (rfl)
@[simp] theorem itB_tup (xs : List D) : itB (.tup xs) = some xs := (rfl)
@[simp] theorem part_int (i : Int) : part (.cst (.int i)) (.int i) = some (some i) := (rfl)
@[simp] theorem part_non : part (.cst .non) .non = some none := (rfl)
@[simp] theorem SZ_eq : SZ = 16777216 := (rfl)
theorem len_le_SZ {α : Type} {xs : List α} (h : xs.length ≤ 1000000) : xs.length ≤ SZ := Nat.le_trans h (by decide)
end Mi

set_option maxRecDepth 100000
set_option maxHeartbeats 4000000
namespace Mi
open PySem PySem.Spec PyProof.Rows
open L2 (V Hp HO upd upd_same upd_ne SqL SqT VK XK FnOk FunD Only)
theorem bnd_drM (ns : List Int) : Bnd (drM ns) := fun _ _ h => drM_bnd ns h
def spLaw (K : PySem.W.Frag) : L2.Sp := fun vs H Q _ => ∃ (a : Addr) (ns : List Int), vs = [.ref a] ∧ Only H ∧ SqL K H a (ns.map V.int) ∧ ns.length ≤ 63 ∧ ∀ H', Q (.bl true) H'
theorem fr_law {K : PySem.W.Frag} {xc : Xc} {H : Hp} {a : Addr} {ns : List Int} {cl : List (Nat × Addr)} {fdn : List Str} {nd : fdn.Nodup} (ho : Only H) (hs : SqL K H a (ns.map V.int)) : Fr ⟨K, a, ns, cl, fdn, nd⟩ xc none (fun _ => False) [] no H [] [] [] where
  slot := fun i p e => by simp at e
  out := fun i a e => by cases e
  inj := fun i j a e => by cases e
  dis := fun i a e => by cases e
  zr := fun a h => by cases h
  al := fun a h => by
    rcases h with h | h | ⟨_, h⟩
    · exact h.elim
    · cases h
    · cases h
  sto := ⟨rfl, List.nodup_nil, fun n a c e => by simp at e⟩
  len := rfl
  scr := hs
  scf := by
    rcases hs with (h | ⟨o, h⟩) | h
    · rcases ho a with z | ⟨o, xs, z⟩
      · rw [h] at z; cases z
      · rw [h] at z; cases z
    · exact .inl ⟨o, _, h⟩
    · exact .inr fun H' => .inr h
theorem fn_law {P : Program} {w : World} {K : PySem.W.Frag} {mg : Str → Option Value} {base : Heap} {T : Tbl} {xc : Xc} {fn : Nat → Option Def} {n wf : Nat} {e : Ent} {f : Addr} {fd : FuncData} {cl : List (Nat × Addr)} {fdn : List Str} {nd : fdn.Nodup} (he : e ∈ T.ents) (hps : e.ps.length = 1) (F : e.At K f fd)
    (ok : ∀ a ns, ns.length ≤ 63 → RunOk ⟨P, w, K, mg, base, a, ns, xc, fn, drM ns, wf, cl, fdn, nd⟩ T) (law : ∀ dr, Bnd dr → ∃ S, callN fn dr wf n e.id [.scr] [] = .ok (.bl true) S) : FnOk P w K mg base (L2.CX P w) (2 * n + 2) f fd e.ps (spLaw K) := by
  refine ⟨fun vs H Q E h => ?_, fun A outer s H args us vs Q E hr h0 hb hv h => ?_⟩
  · obtain ⟨a, ns, rfl, _⟩ := h
    exact hps.symm
  · obtain ⟨a, ns, rfl, ho, hs, hl, q⟩ := h
    refine (def_ok (ok a ns hl) n e he f fd F).run A outer s H args us _ Q E hr h0 hb hv ⟨hps.symm, fun _ => False, [], [], [.scr], fr_law ho hs, .cons (by rw [Rep]; rfl) Reps.nil, ?_⟩
    show PostE _ _ _ _ _ _ _ _ _ _ (callN fn (drM ns) wf n e.id [.scr] [])
    obtain ⟨S, el⟩ := law _ (bnd_drM ns)
    rw [el]
    intro v H' r' st fr rp
    rw [Rep] at rp
    subst rp
    exact q H'
def okBs : List (Nat ⊕ D) → Bool
  | [] => true
  | .inl _ :: r => okBs r
  | .inr d :: r => okC d && okBs r
theorem okB : ∀ {bs : List (Nat ⊕ D)}, okBs bs = true → ∀ d, .inr d ∈ bs → okC d = true
  | [], _, d, h => by cases h
  | .inl _ :: r, h, d, hd => by
    simp only [okBs] at h
    rcases List.mem_cons.mp hd with e | e
    · cases e
    · exact okB h d e
  | .inr c :: r, h, d, hd => by
    simp only [okBs, Bool.and_eq_true] at h
    rcases List.mem_cons.mp hd with e | e
    · cases e; exact h.1
    · exact okB h.2 d e
def initOf : Stmt → Stmt
  | .ClassDef _ _ _ (st :: _) _ _ _ _ _ _ _ => st
  | st => st
def oexB (K : PySem.W.Frag) (C : Addr) (f : Str) : Bool := (match K.lookup C with
  | some ⟨.type "type", _, .cls cd, sl⟩ => (match cd.mro, sl.toList with
    | .ref C2 :: bm, [_, _, _, _, some (.builtin nw), _] => C2 == C && (nw == "ValueError.__new__" && (!cd.hasDel && (cd.hasDict && PySem.HandSPX.refsVE bm)))
    | _, _ => false)
  | _ => false) && (decide (PySem.W.findIn K (.ref C) "__setattr__" = some (some (.builtin "object.__setattr__"))) && (decide (PySem.W.subIn K (.ref C) (.type "BaseException") = some true) && (decide (PySem.W.typeIn K (.ref C) = some (.type "type")) && (PySem.W.keepIn K (.ref C) && decide (PySem.W.findIn K (.ref C) f = some none)))))
theorem oexB_ok {K : PySem.W.Frag} {C : Addr} {f : Str} (h : oexB K C f = true) : L2.OexC K C ∧ PySem.W.findIn K (.ref C) f = some none := by
  unfold oexB at h
  simp only [Bool.and_eq_true, decide_eq_true_eq] at h
  obtain ⟨h1, h2, h3, h4, h5, h6⟩ := h
  refine ⟨⟨?_, h2, h3, h4, h5⟩, h6⟩
  split at h1
  · rename_i dd cd sl ho
    split at h1
    · rename_i C2 bm k0 k1 k2 k3 nw k5 hm hs
      simp only [Bool.and_eq_true, beq_iff_eq, Bool.not_eq_true'] at h1
      obtain ⟨e1, e2, e3, e4, e5⟩ := h1
      subst e1 e2
      obtain ⟨nm, bs, mro, ns, qn, hd, sn, sub, ab, col, del⟩ := cd
      dsimp only at hm e3 e4
      subst hm e3 e4
      have hsl : sl = #[k0, k1, k2, k3, some (.builtin "ValueError.__new__"), k5] := by
        obtain ⟨l⟩ := sl
        simp only at hs
        rw [hs]
      subst hsl
      exact ⟨_, _, _, _, _, _, _, _, _, _, _, _, _, _, _, ho, e5⟩
    · cases h1
  · cases h1
theorem mem_lk {α : Type} {c : Nat} {C : α} : ∀ {l : List (Nat × α)}, l.lookup c = some C → (c, C) ∈ l
  | [], h => by cases h
  | (k, v) :: l, h => by
    rw [List.lookup_cons] at h
    split at h
    · rename_i e
      cases h
      rw [eq_of_beq e]
      exact List.mem_cons_self
    · exact List.mem_cons_of_mem _ (mem_lk h)
def prsB (K : PySem.W.Frag) (pl : List (Nat × Addr)) : Bool := pl.all fun p => pl.all fun q => decide (PySem.W.kitOne K (.ref p.2) (.ref q.2) = some (isSub p.1 q.1)) && decide (PySem.W.exmOne K (.ref p.2) (.ref q.2) = some (isSub p.1 q.1))
theorem prsB_ok {K : PySem.W.Frag} {pl : List (Nat × Addr)} (h : prsB K pl = true) : ∀ c C c' C', (c, C) ∈ pl → (c', C') ∈ pl → PySem.W.kitOne K (.ref C) (.ref C') = some (isSub c c') ∧ PySem.W.exmOne K (.ref C) (.ref C') = some (isSub c c') := by
  intro c C c' C' h1 h2
  have k := List.all_eq_true.mp (List.all_eq_true.mp h _ h1) _ h2
  simp only [Bool.and_eq_true, decide_eq_true_eq] at k
  exact k
def clsAt (st : Stmt) (i : Nat) : Stmt := match st with
  | .ClassDef _ _ _ b _ _ _ _ _ _ _ => b.getD i (.Pass ⟨0, 0, 0, 0⟩)
  | st => st
def kcB (K : PySem.W.Frag) (C : Addr) (fd : List Str) : Bool := PySem.W.plainGet K C Str.empty && (PySem.W.hasDictIn K C && (PySem.W.plainOver K C && (decide (PySem.W.findIn K (.ref C) "__setattr__" = some (some (.builtin "object.__setattr__"))) && fd.all fun f => decide (PySem.W.findIn K (.ref C) f = some none))))
theorem kcB_ok {K : PySem.W.Frag} {C : Addr} {fd : List Str} (h : kcB K C fd = true) : L2.Cls K C ∧ ∀ f ∈ fd, L2.NoAttr K C f := by
  unfold kcB at h
  simp only [Bool.and_eq_true, decide_eq_true_eq] at h
  obtain ⟨h1, h2, h3, h4, h5⟩ := h
  refine ⟨⟨h1, h2, h3, h4⟩, fun f hf => ?_⟩
  have := List.all_eq_true.mp h5 f hf
  show PySem.W.findIn K (.ref C) f = some none
  simpa using this
end Mi

set_option maxRecDepth 100000
set_option maxHeartbeats 4000000
namespace Mi
section
variable {F : Fns} {W : Nat} {env : Env} {S : Sto}
@[simp] theorem evE_fld (i : Nat) (a : Ex) : evE F (.fld i a) env S = (evE F a env S).bind fun x S => .of (fldB S i x) S := by simp only [evE]
@[simp] theorem evE_meth (c f : Nat) (a : Ex) (es ks : List Ex) (bs : List (Nat ⊕ D)) : evE F (.meth c f a es ks bs) env S = (evE F a env S).bind fun x S => match x with
    | .ref n => if isIns S n c = true then (evEs F es env S).bind fun ds S => (evEs F ks env S).bind fun zs S => match binds (.ref n :: (ds ++ zs)) bs with
        | some vs => F.call f vs S
        | none => .stuck
      else .stuck
    | _ => .stuck := by simp only [evE] <;> rfl
@[simp] theorem evE_mk (c f : Nat) (es ks : List Ex) (bs : List (Nat ⊕ D)) : evE F (.mk c f es ks bs) env S = (evEs F es env S).bind fun ds S => (evEs F ks env S).bind fun zs S => match binds (.ref S.length :: (ds ++ zs)) bs with
    | some vs => (F.call f vs (S ++ [.ins c []])).bind fun d S' => match d with
      | .non => .ok (.ref S.length) S'
      | _ => .stuck
    | none => .stuck := by simp only [evE] <;> rfl
@[simp] theorem evE_new (a : Ex) : evE F (.new a) env S = (evE F a env S).bind fun d S => match d with
    | .lst xs => .ok (.ref S.length) (S ++ [.lst xs])
    | _ => .stuck := by simp only [evE] <;> rfl
@[simp] theorem evE_cpop (z : Bool) (a : Ex) : evE F (.cpop z a) env S = (evE F a env S).bind fun x S => match popB z S x with
    | some (y, S') => .ok y S'
    | none => .stuck := by simp only [evE] <;> rfl
@[simp] theorem evE_cmpC (o : Cop) (a b : Ex) : evE F (.cmpC o a b) env S = (evE F a env S).bind fun x S => (evE F b env S).bind fun y S => .of ((cmpB o (drf S x) (drf S y)).map .bl) S := by simp only [evE]
@[simp] theorem evE_binC (o : Bop) (a b : Ex) : evE F (.binC o a b) env S = (evE F a env S).bind fun x S => (evE F b env S).bind fun y S => .of (opB o (drf S x) (drf S y)) S := by simp only [evE]
@[simp] theorem evE_idxC (a i : Ex) : evE F (.idxC a i) env S = (evE F a env S).bind fun x S => (evE F i env S).bind fun y S => .of (idxB (drf S x) y) S := by simp only [evE]
@[simp] theorem evE_slcC (a lo hi : Ex) : evE F (.slcC a lo hi) env S = (evE F a env S).bind fun x S => (evE F lo env S).bind fun l S => match part lo l with
    | some l => (evE F hi env S).bind fun h S => match part hi h with
      | some h => .of (slcB (drf S x) l h) S
      | none => .stuck
    | none => .stuck := by simp only [evE] <;> rfl
@[simp] theorem evE_bltC (b : Blt) (a : Ex) : evE F (.bltC b a) env S = (evE F a env S).bind fun x S => .of (bltB b [drf S x]) S := by simp only [evE]
@[simp] theorem evE_ilen (c f : Nat) (a : Ex) : evE F (.ilen c f a) env S = (evE F a env S).bind fun x S => match x with
    | .ref n => if isIns S n c = true then (F.call f [.ref n] S).bind fun d S => match d with
        | .int i => if 0 ≤ i ∧ i < 1000000 then .ok (.int i) S else .stuck
        | _ => .stuck
      else .stuck
    | _ => .stuck := by simp only [evE] <;> rfl
@[simp] theorem evE_dget (a k : Ex) : evE F (.dget a k) env S = (evE F a env S).bind fun x S => (evE F k env S).bind fun y S => .of (dgetB S x y) S := by simp only [evE]
@[simp] theorem evE_din (neg : Bool) (k a : Ex) : evE F (.din neg k a) env S = (evE F k env S).bind fun y S => (evE F a env S).bind fun x S => .of ((dinB S x y).map fun b => .bl (if neg = true then !b else b)) S := by simp only [evE]
@[simp] theorem evE_dnew (t : Bool) : evE F (.dnew t) env S = .ok (.ref S.length) (S ++ [.dct t []]) := by simp only [evE]
@[simp] theorem evE_ddsp (es : List Ex) : evE F (.ddsp es) env S = (evEs F es env S).bind fun ds S => match prsD ds with
    | some kvs => if kvs.length ≤ 15 then .ok (.ref S.length) (S ++ [.dct false (dMrg [] kvs)]) else .stuck
    | none => .stuck := by simp only [evE] <;> rfl
@[simp] theorem exS_as1 (t : Lv) (e : Ex) : exS F W (.as1 t e) env S = .of env (evE F e env S) fun d S => lvA F d t env S := by simp only [exS]
@[simp] theorem exS_asN (ts : List Lv) (e : Ex) : exS F W (.asN ts e) env S = .of env (evE F e env S) fun d S => match d with
    | .tup ds => if ds.length = ts.length then lvN F ts ds env S else .stuck
    | _ => .stuck := by simp only [exS] <;> rfl
@[simp] theorem exS_capp (a e : Ex) : exS F W (.capp a e) env S = .of env (evE F a env S) fun x S => if isLs S x = true then .of env (evE F e env S) fun d S => match x with
    | .ref n => match S[n]? with
      | some (.lst xs) => if xs.length < SZ then .ok (.nx env) (S.set n (.lst (xs ++ [d]))) else .stuck
      | _ => .stuck
    | _ => .stuck
    else .stuck := by simp only [exS] <;> rfl
@[simp] theorem rd_fld (i : Nat) (a : Ex) (r : Res D) : rd (.fld i a) env S r = r := (rfl)
@[simp] theorem rd_meth (c f : Nat) (a : Ex) (es ks : List Ex) (bs : List (Nat ⊕ D)) (r : Res D) : rd (.meth c f a es ks bs) env S r = r := (rfl)
@[simp] theorem rd_mk (c f : Nat) (es ks : List Ex) (bs : List (Nat ⊕ D)) (r : Res D) : rd (.mk c f es ks bs) env S r = r := (rfl)
@[simp] theorem rd_new (a : Ex) (r : Res D) : rd (.new a) env S r = r := (rfl)
@[simp] theorem rd_cpop (z : Bool) (a : Ex) (r : Res D) : rd (.cpop z a) env S r = r := (rfl)
@[simp] theorem rd_cmpC (o : Cop) (a b : Ex) (r : Res D) : rd (.cmpC o a b) env S r = r := (rfl)
@[simp] theorem rd_binC (o : Bop) (a b : Ex) (r : Res D) : rd (.binC o a b) env S r = r := (rfl)
@[simp] theorem rd_idxC (a b : Ex) (r : Res D) : rd (.idxC a b) env S r = r := (rfl)
@[simp] theorem rd_slcC (a b c : Ex) (r : Res D) : rd (.slcC a b c) env S r = r := (rfl)
@[simp] theorem rd_bltC (b : Blt) (a : Ex) (r : Res D) : rd (.bltC b a) env S r = r := (rfl)
@[simp] theorem rd_ilen (c f : Nat) (a : Ex) (r : Res D) : rd (.ilen c f a) env S r = r := (rfl)
@[simp] theorem rd_dget (a b : Ex) (r : Res D) : rd (.dget a b) env S r = r := (rfl)
@[simp] theorem rd_din (g : Bool) (a b : Ex) (r : Res D) : rd (.din g a b) env S r = r := (rfl)
@[simp] theorem evE_dcp (a : Ex) : evE F (.dcp a) env S = (evE F a env S).bind fun x S => match x with
    | .ref n => match S[n]? with
      | some (.dct t kvs) => if kvs.length ≤ 1000000 then .ok (.ref S.length) (S ++ [.dct t kvs]) else .stuck
      | _ => .stuck
    | _ => .stuck := by simp only [evE] <;> rfl
@[simp] theorem drf_lst (xs : List D) : drf S (.lst xs) = .lst xs := (rfl)
@[simp] theorem drf_tup (xs : List D) : drf S (.tup xs) = .tup xs := (rfl)
@[simp] theorem drf_int (i : Int) : drf S (.int i) = .int i := (rfl)
@[simp] theorem drf_str (i : List Nat) : drf S (.str i) = .str i := (rfl)
@[simp] theorem drf_bl (i : Bool) : drf S (.bl i) = .bl i := (rfl)
@[simp] theorem drf_non : drf S .non = .non := (rfl)
end
theorem ssApp {F : Fns} {W : Nat} : ∀ {a b : List St} {env env' : Env} {S S' : Sto}, exSs F W a env S = .ok (.nx env') S' → exSs F W (a ++ b) env S = exSs F W b env' S'
  | [], b, env, env', S, S', h => by
    simp only [exSs_nil, SR.ok.injEq, Fl.nx.injEq] at h
    rw [h.1, h.2]; rfl
  | s :: a, b, env, env', S, S', h => by
    simp only [exSs_cons] at h
    simp only [List.cons_append, exSs_cons]
    cases e : exS F W s env S with
    | ok f S1 =>
      cases f with
      | nx e1 =>
        rw [e] at h
        simp only [next_nx] at h ⊢
        exact ssApp h
      | rt d => rw [e] at h; cases h
    | exc c d e1 S1 => rw [e] at h; cases h
    | stuck => rw [e] at h; cases h
theorem ssOne {F : Fns} {W : Nat} {s : St} {env env' : Env} {S S' : Sto} (h : exS F W s env S = .ok (.nx env') S') : exSs F W [s] env S = .ok (.nx env') S' := by
  simp only [exSs_cons, h, next_nx, exSs_nil]
end Mi

set_option maxRecDepth 100000
set_option maxHeartbeats 4000000
namespace Mi
def d_is_number : Def := ⟨3, 3, [.ret (.and [(.isi (.var 0) .int), (.not (.isi (.var 0) .bool)), (.chn .le .le (.var 1) (.var 0) (.var 2))])]⟩
def d_is_letter : Def := ⟨1, 1, [.ret (.and [(.isi (.var 0) .str), (.cmp .eq (.blt .len [(.var 0)]) (.cst (.int 1))), (.cmp .isin (.var 0) (.cst (.str [97, 98, 99, 100, 101, 102, 103, 104, 105, 106, 107, 108, 109, 110, 111, 112, 113, 114, 115, 116, 117, 118, 119, 120, 121, 122])))])]⟩
def d_is_clock : Def := ⟨1, 1, [.ite (.or [(.not (.isi (.var 0) .tuple)), (.cmp .ne (.blt .len [(.var 0)]) (.cst (.int 4))), (.not (.call 27 [(.idx (.var 0) (.cst (.int 0)))] [] [.inl 0])), (.not (.call 30 [(.idx (.var 0) (.cst (.int 1))), (.cst (.int 0)), (.cst (.int 999))] [] [.inl 0, .inl 1, .inl 2]))]) [.ret (.cst (.bl false))] [], .ret (.and [(.call 30 [(.idx (.var 0) (.cst (.int 2))), (.cst (.int 1)), (.cst (.int 999))] [] [.inl 0, .inl 1, .inl 2]), (.call 30 [(.idx (.var 0) (.cst (.int 3))), (.idx (.var 0) (.cst (.int 2))), (.cst (.int 999))] [] [.inl 0, .inl 1, .inl 2])])]⟩
def d_need_clock : Def := ⟨1, 1, [.ite (.not (.call 24 [(.var 0)] [] [.inl 0])) [.rse 4 (.cst (.str [110, 111, 32, 99, 108, 111, 99, 107]))] []]⟩
def d_can_tick : Def := ⟨2, 8, [.set (.t [(.v 2), (.v 3), (.v 4), (.v 5)]) (.var 0), .ite (.or [(.not (.isi (.var 1) .list)), (.cmp .eq (.var 1) (.lst [])), (.not (.blt .all [(.lc (.call 30 [(.var 6), (.cst (.int 0)), (.cst (.int 1000000))] [] [.inl 0, .inl 1, .inl 2]) (.v 6) (.var 1) (.cst (.bl true)))]))]) [.ret (.cst (.bl false))] [], .ret (.and [(.cmp .eq (.idx (.var 1) (.cst (.int 0))) (.var 3)), (.blt .all [(.lc (.chn .le .le (.var 4) (.bin .sub (.var 7) (.var 6)) (.var 5)) (.t [(.v 6), (.v 7)]) (.zip (.var 1) (.slc (.var 1) (.cst (.int 1)) (.cst .non))) (.cst (.bl true)))])])]⟩
def d_is_ticks : Def := ⟨2, 2, [.exp (.call 56 [(.var 0)] [] [.inl 0]), .ret (.call 9 [(.var 0), (.var 1)] [] [.inl 0, .inl 1])]⟩
def d_need_bits : Def := ⟨2, 3, [.ite (.or [(.not (.isi (.var 0) .list)), (.not (.blt .all [(.lc (.call 30 [(.var 2), (.cst (.int 0)), (.var 1)] [] [.inl 0, .inl 1, .inl 2]) (.v 2) (.var 0) (.cst (.bl true)))]))]) [.rse 2 (.cst (.str [110, 111, 32, 99, 104, 111, 105, 99, 101, 115]))] []]⟩
def d_ticks_by_b0 : List St := [.app 6 (.bin .add (.bin .add (.idx (.var 6) (.neg (.cst (.int 1)))) (.var 4)) (.bin .mod (.var 7) (.bin .add (.bin .sub (.var 5) (.var 4)) (.cst (.int 1)))))]
def d_ticks_by : Def := ⟨2, 8, [.exp (.call 56 [(.var 0)] [] [.inl 0]), .exp (.call 54 [(.var 1), (.cst (.int 999))] [] [.inl 0, .inl 1]), .set (.t [(.v 2), (.v 3), (.v 4), (.v 5)]) (.var 0), .own 6 (.lst [(.var 3)]), .for_ (.v 7) (.var 1) d_ticks_by_b0, .frz 6, .ret (.var 6)]⟩
def d_law_clock : Def := ⟨3, 5, [.set (.v 3) (.bin .add (.cst (.int 1)) (.drawn 0 (.var 1) (.idx (.lst [(.cst (.int 4)), (.cst (.int 30))]) (.drawn 0 (.bin .add (.var 1) (.cst (.int 1))) (.cst (.int 2)))))), .set (.v 4) (.drawn 0 (.bin .add (.var 1) (.cst (.int 3))) (.idx (.lst [(.cst (.int 1)), (.cst (.int 4)), (.cst (.int 30))]) (.drawn 0 (.bin .add (.var 1) (.cst (.int 4))) (.cst (.int 3))))), .ret (.tup [(.var 2), (.drawn 0 (.bin .add (.var 1) (.cst (.int 2))) (.cst (.int 12))), (.var 3), (.bin .add (.var 3) (.var 4))])]⟩
def d_law_ticks_b0 : List St := [.app 4 (.bin .add (.bin .add (.idx (.var 4) (.neg (.cst (.int 1)))) (.idx (.var 2) (.cst (.int 2)))) (.drawn 0 (.bin .add (.var 1) (.var 5)) (.bin .add (.bin .sub (.idx (.var 2) (.cst (.int 3))) (.idx (.var 2) (.cst (.int 2)))) (.cst (.int 1)))))]
def d_law_ticks : Def := ⟨4, 6, [.own 4 (.lst [(.idx (.var 2) (.cst (.int 1)))]), .for_ (.v 5) (.rng [(.var 3)]) d_law_ticks_b0, .frz 4, .ret (.var 4)]⟩
def d_law_no : Def := ⟨3, 4, [.try_ [.ite (.cmp .eq (.var 0) (.cst (.int 0))) [.exp (.call 38 [(.var 1), (.var 2)] [] [.inl 0, .inl 1])] [.exp (.call 86 [(.var 1), (.var 2)] [] [.inl 0, .inl 1])]] [(0, 3, [.ret (.lst [(.eis 3 4), (.eis 3 2)])])], .ret (.lst [])]⟩
def d_need_number : Def := ⟨4, 4, [.ite (.not (.call 30 [(.var 0), (.var 2), (.var 3)] [] [.inl 0, .inl 1, .inl 2])) [.rse 8 (.var 1)] []]⟩
def d_fewest_ticks : Def := ⟨2, 2, [.exp (.call 56 [(.var 0)] [] [.inl 0]), .exp (.call 62 [(.var 1)] [(.cst (.str [115, 112, 97, 110]))] [.inl 0, .inl 1, .inr (.int 0), .inr (.int 999)]), .ret (.bin .fdiv (.var 1) (.idx (.var 0) (.cst (.int 3))))]⟩
def d_most_ticks : Def := ⟨2, 2, [.exp (.call 56 [(.var 0)] [] [.inl 0]), .exp (.call 62 [(.var 1)] [(.cst (.str [115, 112, 97, 110]))] [.inl 0, .inl 1, .inr (.int 0), .inr (.int 999)]), .ret (.ite (.cmp .gt (.var 1) (.cst (.int 0))) (.bin .add (.bin .fdiv (.bin .sub (.var 1) (.cst (.int 1))) (.idx (.var 0) (.cst (.int 2)))) (.cst (.int 1))) (.cst (.int 0)))]⟩
def d_law_rows_b0 : List St := [.pop 4 2, .ite (.cmp .gt (.idx (.var 4) (.neg (.cst (.int 1)))) (.var 1)) [.app 3 (.var 4)] [.own 2 (.bin .add (.var 2) (.lc (.bin .add (.var 4) (.lst [(.bin .add (.idx (.var 4) (.neg (.cst (.int 1)))) (.var 5))])) (.v 5) (.rng [(.idx (.var 0) (.cst (.int 2))), (.bin .add (.idx (.var 0) (.cst (.int 3))) (.cst (.int 1)))]) (.cst (.bl true))))]]
def d_law_rows : Def := ⟨2, 6, [.par [(2, true), (3, true)] [(.lst [(.lst [(.idx (.var 0) (.cst (.int 1)))])]), (.lst [])], .whl (.cmp .ne (.var 2) (.lst [])) d_law_rows_b0, .frz 3, .ret (.var 3)]⟩
def d_law_no_k02 : Def := ⟨3, 4, [.try_ [.ite (.cmp .eq (.var 0) (.cst (.int 0))) [.exp (.call 15 [(.var 1), (.var 2)] [] [.inl 0, .inl 1])] [.exp (.call 51 [(.var 1), (.var 2)] [] [.inl 0, .inl 1])]] [(8, 3, [.ret (.efld 3 8)]), (0, 3, [.ret (.eis 3 4)])], .ret (.cst .non)]⟩
def d_need_ticks : Def := ⟨2, 2, [.exp (.call 56 [(.var 0)] [] [.inl 0]), .ite (.not (.call 9 [(.var 0), (.var 1)] [] [.inl 0, .inl 1])) [.rse 10 (.cst (.str [110, 111, 32, 116, 105, 99, 107, 115]))] []]⟩
def d_merged_b0 : List St := [.exp (.call 67 [(.var 3), (.var 4)] [] [.inl 0, .inl 1]), .set (.v 2) (.bin .add (.var 2) (.lc (.tup [(.var 5), (.idx (.var 3) (.cst (.int 0)))]) (.v 5) (.var 4) (.cst (.bl true))))]
def d_merged : Def := ⟨1, 6, [.ite (.not (.isi (.var 0) .list)) [.rse 10 (.cst (.str [110, 111, 32, 114, 117, 110, 115]))] [], .ite (.not (.blt .all [(.lc (.and [(.isi (.var 1) .tuple), (.cmp .eq (.blt .len [(.var 1)]) (.cst (.int 2)))]) (.v 1) (.var 0) (.cst (.bl true)))])) [.rse 10 (.cst (.str [110, 111, 32, 114, 117, 110]))] [], .set (.v 2) (.lst []), .for_ (.t [(.v 3), (.v 4)]) (.var 0) d_merged_b0, .ret (.blt .sorted [(.var 2)])]⟩
def d_law_no_k04 : Def := ⟨1, 2, [.try_ [.exp (.call 49 [(.var 0)] [] [.inl 0])] [(0, 1, [.ret (.lst [(.eis 1 4), (.eis 1 10)])])], .ret (.lst [])]⟩
def d_how_many_ticks_b0 : List St := [.put 6 (.var 7) (.ite (.cmp .eq (.var 7) (.var 3)) (.cst (.int 1)) (.blt .sum [(.slc (.var 6) (.blt .max2 [(.var 3), (.bin .sub (.var 7) (.var 5))]) (.blt .max2 [(.var 3), (.bin .add (.bin .sub (.var 7) (.var 4)) (.cst (.int 1)))]))]))]
def d_how_many_ticks : Def := ⟨2, 8, [.exp (.call 56 [(.var 0)] [] [.inl 0]), .exp (.call 62 [(.var 1)] [(.cst (.str [117, 110, 116, 105, 108]))] [.inl 0, .inl 1, .inr (.int 0), .inr (.int 999)]), .set (.t [(.v 2), (.v 3), (.v 4), (.v 5)]) (.var 0), .own 6 (.lc (.cst (.int 0)) (.v 7) (.rng [(.bin .add (.var 1) (.cst (.int 1)))]) (.cst (.bl true))), .for_ (.v 7) (.rng [(.var 3), (.bin .add (.var 1) (.cst (.int 1)))]) d_how_many_ticks_b0, .ret (.idx (.var 6) (.var 1))]⟩
def d_leads_b0 : List St := [.put 2 (.var 3) (.cmp .isin (.cst (.bl true)) (.slc (.var 2) (.bin .add (.var 3) (.idx (.var 0) (.cst (.int 2)))) (.bin .add (.bin .add (.var 3) (.idx (.var 0) (.cst (.int 3)))) (.cst (.int 1)))))]
def d_leads : Def := ⟨2, 4, [.own 2 (.bin .add (.lc (.cst (.bl false)) (.v 3) (.rng [(.var 1)]) (.cst (.bl true))) (.lst [(.cst (.bl true))])), .for_ (.v 3) (.rng [(.bin .sub (.var 1) (.cst (.int 1))), (.neg (.cst (.int 1))), (.neg (.cst (.int 1)))]) d_leads_b0, .frz 2, .ret (.var 2)]⟩
def d_all_ticks_b0 : List St := [.ite (.idx (.var 6) (.var 10)) [.app 7 (.bin .add (.var 9) (.lst [(.var 10)]))] []]
def d_all_ticks_b1 : List St := [.pop 9 7, .ite (.cmp .eq (.idx (.var 9) (.neg (.cst (.int 1)))) (.var 1)) [.app 8 (.var 9)] [], .for_ (.v 10) (.rng [(.bin .add (.idx (.var 9) (.neg (.cst (.int 1)))) (.var 4)), (.bin .add (.blt .min2 [(.var 1), (.bin .add (.idx (.var 9) (.neg (.cst (.int 1)))) (.var 5))]) (.cst (.int 1)))]) d_all_ticks_b0]
def d_all_ticks : Def := ⟨2, 11, [.ite (.cmp .gt (.call 20 [(.var 0), (.var 1)] [] [.inl 0, .inl 1]) (.cst (.int 1000))) [.rse 8 (.cst (.str [117, 110, 116, 105, 108]))] [], .set (.t [(.v 2), (.v 3), (.v 4), (.v 5)]) (.var 0), .set (.v 6) (.call 39 [(.var 0), (.var 1)] [] [.inl 0, .inl 1]), .own 7 (.ite (.and [(.cmp .le (.var 3) (.var 1)), (.idx (.var 6) (.var 3))]) (.lst [(.lst [(.var 3)])]) (.lst [])), .own 8 (.lst []), .whl (.cmp .ne (.var 7) (.lst [])) d_all_ticks_b1, .ret (.blt .sorted [(.var 8)])]⟩
def d_law_no_k05 : Def := ⟨3, 4, [.try_ [.ite (.cmp .eq (.var 0) (.cst (.int 0))) [.exp (.call 20 [(.var 1), (.var 2)] [] [.inl 0, .inl 1])] [.exp (.call 3 [(.var 1), (.var 2)] [] [.inl 0, .inl 1])]] [(8, 3, [.ret (.efld 3 8)]), (0, 3, [.ret (.eis 3 4)])], .ret (.cst .non)]⟩
def d_need_code : Def := ⟨1, 1, [.exp (.call 62 [(.var 0)] [(.cst (.str [99, 111, 100, 101])), (.cst (.int 1048575))] [.inl 0, .inl 1, .inr (.int 0), .inl 2])]⟩
def d_gray : Def := ⟨1, 1, [.exp (.call 62 [(.var 0)] [(.cst (.str [110, 117, 109, 98, 101, 114])), (.cst (.int 1048575))] [.inl 0, .inl 1, .inr (.int 0), .inl 2]), .ret (.bin .bxor (.var 0) (.bin .shr (.var 0) (.cst (.int 1))))]⟩
def d_ungray_b0 : List St := [.par [(1, false), (0, false)] [(.bin .bxor (.var 1) (.var 0)), (.bin .shr (.var 0) (.cst (.int 1)))]]
def d_ungray : Def := ⟨1, 2, [.exp (.call 57 [(.var 0)] [] [.inl 0]), .set (.v 1) (.cst (.int 0)), .whl (.cmp .gt (.var 0) (.cst (.int 0))) d_ungray_b0, .ret (.var 1)]⟩
def d_ones_b0 : List St := [.par [(1, false), (0, false)] [(.bin .add (.var 1) (.bin .mod (.var 0) (.cst (.int 2)))), (.bin .fdiv (.var 0) (.cst (.int 2)))]]
def d_ones : Def := ⟨1, 2, [.set (.v 1) (.cst (.int 0)), .whl (.cmp .gt (.var 0) (.cst (.int 0))) d_ones_b0, .ret (.var 1)]⟩
def d_are_near : Def := ⟨2, 2, [.exp (.call 57 [(.var 0)] [] [.inl 0]), .exp (.call 57 [(.var 1)] [] [.inl 0]), .ret (.cmp .eq (.call 69 [(.bin .bxor (.var 0) (.var 1))] [] [.inl 0]) (.cst (.int 1)))]⟩
def d_bits_of : Def := ⟨2, 3, [.exp (.call 62 [(.var 0)] [(.cst (.str [110, 117, 109, 98, 101, 114])), (.cst (.int 1048575))] [.inl 0, .inl 1, .inr (.int 0), .inl 2]), .exp (.call 62 [(.var 1)] [(.cst (.str [119, 105, 100, 101])), (.cst (.int 1)), (.cst (.int 20))] [.inl 0, .inl 1, .inl 2, .inl 3]), .ret (.blt .tuple [(.lc (.bin .mod (.bin .shr (.var 0) (.var 2)) (.cst (.int 2))) (.v 2) (.rng [(.var 1)]) (.cst (.bl true)))])]⟩
def d_ring : Def := ⟨1, 2, [.exp (.call 62 [(.var 0)] [(.cst (.str [119, 105, 100, 101])), (.cst (.int 1)), (.cst (.int 10))] [.inl 0, .inl 1, .inl 2, .inl 3]), .ret (.lc (.call 19 [(.var 1)] [] [.inl 0]) (.v 1) (.rng [(.bin .shl (.cst (.int 1)) (.var 0))]) (.cst (.bl true)))]⟩
def d_mixtures_b0 : List St := [.ite (.cmp .eq (.bin .band (.bin .shr (.bin .bxor (.var 0) (.var 1)) (.var 3)) (.cst (.int 1))) (.cst (.int 1))) [.set (.v 2) (.bin .add (.var 2) (.lc (.bin .bor (.var 4) (.bin .shl (.cst (.int 1)) (.var 3))) (.v 4) (.var 2) (.cst (.bl true))))] []]
def d_mixtures : Def := ⟨2, 5, [.exp (.call 57 [(.var 0)] [] [.inl 0]), .exp (.call 57 [(.var 1)] [] [.inl 0]), .set (.v 2) (.lst [(.bin .band (.var 0) (.var 1))]), .for_ (.v 3) (.rng [(.cst (.int 20))]) d_mixtures_b0, .ret (.blt .sorted [(.var 2)])]⟩
def d_law_bits : Def := ⟨2, 3, [.ret (.lc (.bin .mod (.bin .fdiv (.var 0) (.bin .shl (.cst (.int 1)) (.var 2))) (.cst (.int 2))) (.v 2) (.rng [(.var 1)]) (.cst (.bl true)))]⟩
def d_law_no_k10 : Def := ⟨3, 4, [.try_ [.ite (.cmp .eq (.var 0) (.cst (.int 0))) [.exp (.call 19 [(.var 1)] [] [.inl 0])] [.ite (.cmp .eq (.var 0) (.cst (.int 1))) [.exp (.call 88 [(.var 1)] [] [.inl 0])] [.ite (.cmp .eq (.var 0) (.cst (.int 2))) [.exp (.call 4 [(.var 1), (.var 2)] [] [.inl 0, .inl 1])] [.ite (.cmp .eq (.var 0) (.cst (.int 3))) [.exp (.call 8 [(.var 1), (.var 2)] [] [.inl 0, .inl 1])] [.ite (.cmp .eq (.var 0) (.cst (.int 4))) [.exp (.call 78 [(.var 1)] [] [.inl 0])] [.exp (.call 50 [(.var 1), (.var 2)] [] [.inl 0, .inl 1])]]]]]] [(8, 3, [.ret (.ite (.eis 3 0) (.efld 3 8) (.cst .non))])], .ret (.cst .non)]⟩
def d_is_change : Def := ⟨1, 1, [.ite (.or [(.not (.isi (.var 0) .tuple)), (.cmp .ne (.blt .len [(.var 0)]) (.cst (.int 2))), (.not (.call 30 [(.idx (.var 0) (.cst (.int 0))), (.cst (.int 0)), (.cst (.int 1000000))] [] [.inl 0, .inl 1, .inl 2]))]) [.ret (.cst (.bl false))] [], .ret (.call 30 [(.idx (.var 0) (.cst (.int 1))), (.cst (.int 0)), (.cst (.int 255))] [] [.inl 0, .inl 1, .inl 2])]⟩
def d_is_history : Def := ⟨1, 3, [.ite (.or [(.not (.isi (.var 0) .tuple)), (.cmp .eq (.var 0) (.tup [])), (.not (.blt .all [(.lc (.call 22 [(.var 1)] [] [.inl 0]) (.v 1) (.var 0) (.cst (.bl true)))])), (.cmp .ne (.idx (.idx (.var 0) (.cst (.int 0))) (.cst (.int 0))) (.cst (.int 0)))]) [.ret (.cst (.bl false))] [], .ret (.blt .all [(.lc (.and [(.cmp .lt (.idx (.var 1) (.cst (.int 0))) (.idx (.var 2) (.cst (.int 0)))), (.cmp .ne (.idx (.var 1) (.cst (.int 1))) (.idx (.var 2) (.cst (.int 1))))]) (.t [(.v 1), (.v 2)]) (.zip (.var 0) (.slc (.var 0) (.cst (.int 1)) (.cst .non))) (.cst (.bl true)))])]⟩
def d_need_history : Def := ⟨1, 1, [.ite (.not (.call 26 [(.var 0)] [] [.inl 0])) [.rse 7 (.cst (.str [110, 111, 32, 104, 105, 115, 116, 111, 114, 121]))] []]⟩
def d_need_moment : Def := ⟨2, 2, [.exp (.call 62 [(.var 0)] [(.cst (.str [116, 105, 109, 101])), (.cst (.int 1000000))] [.inl 0, .inl 1, .inr (.int 0), .inl 2]), .exp (.call 62 [(.var 1)] [(.cst (.str [119, 105, 110, 100, 111, 119]))] [.inl 0, .inl 1, .inr (.int 0), .inr (.int 999)])]⟩
def d_stands_b0 : List St := [.ite (.cmp .le (.var 3) (.var 1)) [.set (.v 2) (.var 4)] []]
def d_stands : Def := ⟨2, 5, [.set (.v 2) (.idx (.idx (.var 0) (.cst (.int 0))) (.cst (.int 1))), .for_ (.t [(.v 3), (.v 4)]) (.var 0) d_stands_b0, .ret (.var 2)]⟩
def d_loose_b0 : List St := [.ite (.cmp .lt (.blt .abs [(.bin .sub (.idx (.var 5) (.cst (.int 0))) (.var 1))]) (.var 2)) [.set (.v 3) (.bin .bor (.var 3) (.bin .bxor (.idx (.var 4) (.cst (.int 1))) (.idx (.var 5) (.cst (.int 1)))))] []]
def d_loose : Def := ⟨3, 6, [.set (.v 3) (.cst (.int 0)), .for_ (.t [(.v 4), (.v 5)]) (.zip (.var 0) (.slc (.var 0) (.cst (.int 1)) (.cst .non))) d_loose_b0, .ret (.var 3)]⟩
def d_word_at : Def := ⟨2, 2, [.exp (.call 59 [(.var 0)] [] [.inl 0]), .exp (.call 61 [(.var 1), (.cst (.int 0))] [] [.inl 0, .inl 1]), .ret (.call 82 [(.var 0), (.var 1)] [] [.inl 0, .inl 1])]⟩
def d_free_bits : Def := ⟨3, 3, [.exp (.call 59 [(.var 0)] [] [.inl 0]), .exp (.call 61 [(.var 1), (.var 2)] [] [.inl 0, .inl 1]), .ret (.call 44 [(.var 0), (.var 1), (.var 2)] [] [.inl 0, .inl 1, .inl 2])]⟩
def d_is_sure : Def := ⟨3, 3, [.ret (.cmp .eq (.call 18 [(.var 0), (.var 1), (.var 2)] [] [.inl 0, .inl 1, .inl 2]) (.cst (.int 0)))]⟩
def d_around_b0 : List St := [.ite (.cmp .eq (.bin .band (.bin .shr (.var 3) (.var 5)) (.cst (.int 1))) (.cst (.int 1))) [.set (.v 4) (.bin .add (.var 4) (.lc (.bin .bor (.var 6) (.bin .shl (.cst (.int 1)) (.var 5))) (.v 6) (.var 4) (.cst (.bl true))))] []]
def d_around : Def := ⟨3, 7, [.set (.v 3) (.call 18 [(.var 0), (.var 1), (.var 2)] [] [.inl 0, .inl 1, .inl 2]), .set (.v 4) (.lst [(.bin .band (.call 82 [(.var 0), (.var 1)] [] [.inl 0, .inl 1]) (.bin .bxor (.cst (.int 255)) (.var 3)))]), .for_ (.v 5) (.rng [(.cst (.int 8))]) d_around_b0, .ret (.blt .sorted [(.var 4)])]⟩
def d_read_by : Def := ⟨4, 5, [.set (.v 4) (.call 18 [(.var 0), (.var 1), (.var 2)] [] [.inl 0, .inl 1, .inl 2]), .exp (.call 62 [(.var 3)] [(.cst (.str [99, 104, 111, 105, 99, 101])), (.cst (.int 255))] [.inl 0, .inl 1, .inr (.int 0), .inl 2]), .ret (.bin .bxor (.call 82 [(.var 0), (.var 1)] [] [.inl 0, .inl 1]) (.bin .band (.var 3) (.var 4)))]⟩
def d_made_history_b0 : List St := [.ite (.or [(.cmp .eq (.var 2) (.lst [])), (.cmp .ne (.idx (.idx (.var 2) (.neg (.cst (.int 1)))) (.cst (.int 1))) (.var 4))]) [.app 2 (.tup [(.var 3), (.var 4)])] []]
def d_made_history : Def := ⟨1, 5, [.ite (.or [(.not (.isi (.var 0) .list)), (.not (.blt .all [(.lc (.call 22 [(.var 1)] [] [.inl 0]) (.v 1) (.var 0) (.cst (.bl true)))]))]) [.rse 7 (.cst (.str [110, 111, 32, 99, 104, 97, 110, 103, 101, 115]))] [], .own 2 (.lst []), .for_ (.t [(.v 3), (.v 4)]) (.blt .sorted [(.var 0)]) d_made_history_b0, .ite (.not (.call 26 [(.blt .tuple [(.var 2)])] [] [.inl 0])) [.rse 7 (.cst (.str [110, 111, 32, 104, 105, 115, 116, 111, 114, 121]))] [], .ret (.blt .tuple [(.var 2)])]⟩
def d_law_history_b0 : List St := [.set (.v 4) (.bin .add (.bin .add (.var 4) (.cst (.int 1))) (.drawn 0 (.bin .add (.bin .add (.var 1) (.bin .mul (.cst (.int 2)) (.var 6))) (.cst (.int 1))) (.cst (.int 9)))), .set (.v 7) (.drawn 0 (.bin .add (.bin .add (.var 1) (.bin .mul (.cst (.int 2)) (.var 6))) (.cst (.int 2))) (.var 3)), .ite (.cmp .ne (.var 7) (.idx (.idx (.var 5) (.neg (.cst (.int 1)))) (.cst (.int 1)))) [.app 5 (.tup [(.var 4), (.var 7)])] []]
def d_law_history : Def := ⟨4, 8, [.par [(4, false), (5, true)] [(.cst (.int 0)), (.lst [(.tup [(.cst (.int 0)), (.drawn 0 (.var 1) (.var 3))])])], .for_ (.v 6) (.rng [(.var 2)]) d_law_history_b0, .ret (.blt .tuple [(.var 5)])]⟩
def d_law_stands : Def := ⟨2, 4, [.ret (.idx (.lc (.var 3) (.t [(.v 2), (.v 3)]) (.var 0) (.cmp .le (.var 2) (.var 1))) (.neg (.cst (.int 1))))]⟩
def d_law_loose_b0 : List St := [.ite (.cmp .lt (.blt .abs [(.bin .sub (.idx (.idx (.var 0) (.var 4)) (.cst (.int 0))) (.var 1))]) (.var 2)) [.set (.v 3) (.bin .bor (.var 3) (.bin .bxor (.idx (.idx (.var 0) (.var 4)) (.cst (.int 1))) (.idx (.idx (.var 0) (.bin .sub (.var 4) (.cst (.int 1)))) (.cst (.int 1)))))] []]
def d_law_loose : Def := ⟨3, 5, [.set (.v 3) (.cst (.int 0)), .for_ (.v 4) (.rng [(.cst (.int 1)), (.blt .len [(.var 0)])]) d_law_loose_b0, .ret (.var 3)]⟩
def d_law_coded_b0_0 : St := .set (.v 5) (.drawn 0 (.bin .add (.cst (.int 82)) (.var 4)) (.bin .mul (.cst (.int 6)) (.var 2)))
def d_law_coded_b0_1 : St := .set (.v 6) (.bin .add (.cst (.int 1)) (.drawn 0 (.bin .add (.cst (.int 90)) (.var 4)) (.blt .max2 [(.cst (.int 1)), (.bin .fdiv (.var 2) (.cst (.int 2)))])))
def d_law_coded_b0_2 : St := .set (.v 7) (.call 5 [(.var 3), (.var 5), (.var 6)] [] [.inl 0, .inl 1, .inl 2])
def d_law_coded_b0_3 : St := .ite (.or [(.cmp .gt (.blt .len [(.var 7)]) (.cst (.int 2))), (.and [(.cmp .eq (.blt .len [(.var 7)]) (.cst (.int 2))), (.not (.call 4 [(.idx (.var 7) (.cst (.int 0))), (.idx (.var 7) (.cst (.int 1)))] [] [.inl 0, .inl 1]))])]) [.ret (.cst (.bl false))] []
def d_law_coded_b0 : List St := [d_law_coded_b0_0, d_law_coded_b0_1, d_law_coded_b0_2, d_law_coded_b0_3]
def d_law_coded : Def := ⟨1, 8, [.par [(1, false), (2, false)] [(.drawn 0 (.cst (.int 80)) (.cst (.int 200))), (.bin .add (.cst (.int 2)) (.drawn 0 (.cst (.int 81)) (.cst (.int 9))))], .set (.v 3) (.call 45 [(.lc (.tup [(.bin .mul (.var 2) (.var 4)), (.call 19 [(.bin .add (.var 1) (.var 4))] [] [.inl 0])]) (.v 4) (.rng [(.cst (.int 6))]) (.cst (.bl true)))] [] [.inl 0]), .for_ (.v 4) (.rng [(.cst (.int 4))]) d_law_coded_b0, .ret (.cst (.bl true))]⟩
def d_law_reads_so : Def := ⟨5, 12, [.set (.v 5) (.call 90 [(.var 1), (.var 2)] [] [.inl 0, .inl 1]), .ite (.cmp .ne (.call 73 [(.var 1), (.var 2), (.var 3), (.cst (.int 0))] [] [.inl 0, .inl 1, .inl 2, .inl 3]) (.var 5)) [.ret (.cst (.bl false))] [], .ite (.cmp .ne (.lc (.var 6) (.v 6) (.slc (.var 4) (.cst .non) (.cst (.int 9))) (.cmp .ne (.call 73 [(.var 1), (.var 2), (.var 3), (.bin .bxor (.var 6) (.var 5))] [] [.inl 0, .inl 1, .inl 2, .inl 3]) (.var 6))) (.lst [])) [.ret (.cst (.bl false))] [], .set (.v 7) (.lc (.drawn 0 (.bin .add (.cst (.int 100)) (.var 8)) (.cst (.int 256))) (.v 8) (.rng [(.cst (.int 9))]) (.cst (.bl true))), .ite (.cmp .ne (.lc (.var 9) (.v 9) (.var 7) (.cmp .notin (.call 73 [(.var 1), (.var 2), (.var 3), (.var 9)] [] [.inl 0, .inl 1, .inl 2, .inl 3]) (.var 4))) (.lst [])) [.ret (.cst (.bl false))] [], .set (.v 10) (.call 18 [(.var 1), (.var 2), (.var 3)] [] [.inl 0, .inl 1, .inl 2]), .ite (.cmp .ne (.blt .len [(.var 4)]) (.bin .shl (.cst (.int 1)) (.blt .len [(.lc (.var 11) (.v 11) (.rng [(.cst (.int 8))]) (.cmp .eq (.bin .mod (.bin .fdiv (.var 10) (.bin .shl (.cst (.int 1)) (.var 11))) (.cst (.int 2))) (.cst (.int 1))))]))) [.ret (.cst (.bl false))] [], .ret (.cst (.bl true))]⟩
def d_law_ask : Def := ⟨5, 5, [.ite (.cmp .eq (.var 0) (.cst (.int 0))) [.ret (.call 90 [(.var 1), (.var 2)] [] [.inl 0, .inl 1])] [], .ite (.cmp .eq (.var 0) (.cst (.int 1))) [.ret (.call 18 [(.var 1), (.var 2), (.var 3)] [] [.inl 0, .inl 1, .inl 2])] [], .ite (.cmp .eq (.var 0) (.cst (.int 2))) [.ret (.call 36 [(.var 1), (.var 2), (.var 3)] [] [.inl 0, .inl 1, .inl 2])] [], .ite (.cmp .eq (.var 0) (.cst (.int 3))) [.ret (.call 5 [(.var 1), (.var 2), (.var 3)] [] [.inl 0, .inl 1, .inl 2])] [], .ret (.ite (.cmp .eq (.var 0) (.cst (.int 4))) (.call 73 [(.var 1), (.var 2), (.var 3), (.var 4)] [] [.inl 0, .inl 1, .inl 2, .inl 3]) (.call 45 [(.var 1)] [] [.inl 0]))]⟩
def d_law_no_k17 : Def := ⟨5, 6, [.try_ [.exp (.call 214 [(.var 0), (.var 1), (.var 2), (.var 3), (.var 4)] [] [.inl 0, .inl 1, .inl 2, .inl 3, .inl 4])] [(8, 5, [.ret (.efld 5 8)]), (0, 5, [.ret (.ite (.eis 5 7) (.cst (.str [104, 105, 115, 116, 111, 114, 121])) (.cst (.str [111, 116, 104, 101, 114])))])], .ret (.cst .non)]⟩
def d_needed : Def := ⟨2, 2, [.exp (.call 56 [(.var 0)] [] [.inl 0]), .exp (.call 62 [(.var 1)] [(.cst (.str [115, 101, 116, 116, 108, 101]))] [.inl 0, .inl 1, .inr (.int 0), .inr (.int 999)]), .ret (.blt .max2 [(.cst (.int 1)), (.bin .fdiv (.bin .sub (.bin .add (.var 1) (.idx (.var 0) (.cst (.int 2)))) (.cst (.int 1))) (.idx (.var 0) (.cst (.int 2))))])]⟩
def d_is_bit_history : Def := ⟨1, 3, [.ret (.blt .all [(.lc (.cmp .lt (.var 2) (.cst (.int 2))) (.t [(.v 1), (.v 2)]) (.var 0) (.cst (.bl true)))])]⟩
def d_need_row : Def := ⟨7, 7, [.exp (.call 59 [(.var 0)] [] [.inl 0]), .ite (.not (.call 21 [(.var 0)] [] [.inl 0])) [.rse 7 (.cst (.str [109, 111, 114, 101, 32, 116, 104, 97, 110, 32, 97, 32, 98, 105, 116]))] [], .exp (.call 67 [(.var 1), (.var 2)] [] [.inl 0, .inl 1]), .exp (.call 62 [(.var 3)] [(.cst (.str [119, 105, 110, 100, 111, 119]))] [.inl 0, .inl 1, .inr (.int 0), .inr (.int 999)]), .exp (.call 62 [(.var 4)] [(.cst (.str [115, 101, 116, 116, 108, 101]))] [.inl 0, .inl 1, .inr (.int 0), .inr (.int 999)]), .exp (.call 62 [(.var 5)] [(.cst (.str [115, 116, 101, 112, 115])), (.cst (.int 1)), (.cst (.int 9))] [.inl 0, .inl 1, .inl 2, .inl 3]), .exp (.call 54 [(.var 6), (.cst (.int 1))] [] [.inl 0, .inl 1])]⟩
def d_first_held : Def := ⟨4, 4, [.ite (.cmp .eq (.call 44 [(.var 0), (.var 1), (.var 2)] [] [.inl 0, .inl 1, .inl 2]) (.cst (.int 0))) [.ret (.tup [(.call 82 [(.var 0), (.var 1)] [] [.inl 0, .inl 1]), (.cst .non)])] [], .ret (.tup [(.var 3), (.var 1)])]⟩
def d_is_settled : Def := ⟨3, 3, [.ret (.or [(.cmp .is (.idx (.var 0) (.cst (.int 1))) (.cst .non)), (.cmp .ge (.bin .sub (.var 1) (.idx (.var 0) (.cst (.int 1)))) (.var 2))])]⟩
def d_row_reads_b0_0 : St := .app 9 (.ite (.call 33 [(.idx (.var 7) (.neg (.cst (.int 1)))), (.var 11), (.var 4)] [] [.inl 0, .inl 1, .inl 2]) (.idx (.idx (.var 7) (.neg (.cst (.int 1)))) (.cst (.int 0))) (.cst .non))
def d_row_reads_b0_1 : St := .set (.v 12) (.ite (.cmp .lt (.var 10) (.blt .len [(.var 6)])) (.idx (.var 6) (.var 10)) (.cst (.int 0)))
def d_row_reads_b0_2 : St := .star 13 14 (.bin .add (.lst [(.call 16 [(.var 0), (.var 11), (.var 3), (.var 12)] [] [.inl 0, .inl 1, .inl 2, .inl 3])]) (.var 7))
def d_row_reads_b0_3 : St := .set (.v 7) (.var 13)
def d_row_reads_b0 : List St := [d_row_reads_b0_0, d_row_reads_b0_1, d_row_reads_b0_2, d_row_reads_b0_3]
def d_row_reads : Def := ⟨7, 15, [.exp (.call 64 [(.var 0), (.var 1), (.var 2), (.var 3), (.var 4), (.var 5), (.var 6)] [] [.inl 0, .inl 1, .inl 2, .inl 3, .inl 4, .inl 5, .inl 6]), .set (.v 7) (.lc (.tup [(.idx (.idx (.var 0) (.cst (.int 0))) (.cst (.int 1))), (.cst .non)]) (.v 8) (.rng [(.var 5)]) (.cst (.bl true))), .own 9 (.lst []), .for_ (.t [(.v 10), (.v 11)]) (.enm (.var 2)) d_row_reads_b0, .frz 9, .ret (.var 9)]⟩
def d_unsettled : Def := ⟨7, 10, [.set (.v 7) (.call 80 [(.var 0), (.var 1), (.var 2), (.var 3), (.var 4), (.var 5), (.var 6)] [] [.inl 0, .inl 1, .inl 2, .inl 3, .inl 4, .inl 5, .inl 6]), .ret (.lc (.var 8) (.t [(.v 8), (.v 9)]) (.enm (.var 7)) (.cmp .is (.var 9) (.cst .non)))]⟩
def d_law_reads_b0_0 : St := .set (.t [(.v 10), (.v 11)]) (.idx (.var 6) (.neg (.cst (.int 1))))
def d_law_reads_b0_1 : St := .app 7 (.ite (.or [(.cmp .is (.var 11) (.cst .non)), (.cmp .ge (.bin .sub (.var 9) (.var 11)) (.var 3))]) (.var 10) (.cst .non))
def d_law_reads_b0_2 : St := .set (.v 12) (.ite (.cmp .lt (.var 8) (.blt .len [(.var 5)])) (.idx (.var 5) (.var 8)) (.cst (.int 0)))
def d_law_reads_b0_3 : St := .set (.v 13) (.ite (.cmp .eq (.call 211 [(.var 0), (.var 9), (.var 2)] [] [.inl 0, .inl 1, .inl 2]) (.cst (.int 0))) (.tup [(.call 210 [(.var 0), (.var 9)] [] [.inl 0, .inl 1]), (.cst .non)]) (.tup [(.var 12), (.var 9)]))
def d_law_reads_b0_4 : St := .set (.v 6) (.bin .add (.lst [(.var 13)]) (.slc (.var 6) (.cst .non) (.neg (.cst (.int 1)))))
def d_law_reads_b0 : List St := [d_law_reads_b0_0, d_law_reads_b0_1, d_law_reads_b0_2, d_law_reads_b0_3, d_law_reads_b0_4]
def d_law_reads : Def := ⟨6, 14, [.par [(6, false), (7, true)] [(.bin .mul (.lst [(.tup [(.idx (.idx (.var 0) (.cst (.int 0))) (.cst (.int 1))), (.cst .non)])]) (.var 4)), (.lst [])], .for_ (.t [(.v 8), (.v 9)]) (.enm (.var 1)) d_law_reads_b0, .frz 7, .ret (.var 7)]⟩
def d_law_sharp : Def := ⟨4, 6, [.ite (.cmp .gt (.var 2) (.cst (.int 1))) [.set (.v 4) (.call 86 [(.var 0), (.bin .mul (.lst [(.cst (.int 0))]) (.cst (.int 12)))] [] [.inl 0, .inl 1]), .set (.v 5) (.call 45 [(.lst [(.tup [(.cst (.int 0)), (.cst (.int 0))]), (.tup [(.blt .max2 [(.cst (.int 1)), (.idx (.var 4) (.cst (.int 0)))]), (.cst (.int 1))])])] [] [.inl 0]), .ret (.cmp .isin (.bin .sub (.var 2) (.cst (.int 1))) (.call 89 [(.var 5), (.var 0), (.var 4), (.cst (.int 2)), (.var 1), (.bin .sub (.var 2) (.cst (.int 1))), (.var 3)] [] [.inl 0, .inl 1, .inl 2, .inl 3, .inl 4, .inl 5, .inl 6]))] [], .ret (.cst (.bl true))]⟩
def d_law_no_k22 : Def := ⟨2, 4, [.try_ [.ite (.cmp .eq (.var 0) (.cst (.int 0))) [.exp (.call 80 [(.idx (.var 1) (.cst (.int 0))), (.idx (.var 1) (.cst (.int 1))), (.idx (.var 1) (.cst (.int 2))), (.idx (.var 1) (.cst (.int 3))), (.idx (.var 1) (.cst (.int 4))), (.idx (.var 1) (.cst (.int 5))), (.idx (.var 1) (.cst (.int 6)))] [] [.inl 0, .inl 1, .inl 2, .inl 3, .inl 4, .inl 5, .inl 6])] [.ite (.cmp .eq (.var 0) (.cst (.int 1))) [.exp (.call 89 [(.idx (.var 1) (.cst (.int 0))), (.idx (.var 1) (.cst (.int 1))), (.idx (.var 1) (.cst (.int 2))), (.idx (.var 1) (.cst (.int 3))), (.idx (.var 1) (.cst (.int 4))), (.idx (.var 1) (.cst (.int 5))), (.idx (.var 1) (.cst (.int 6)))] [] [.inl 0, .inl 1, .inl 2, .inl 3, .inl 4, .inl 5, .inl 6])] [.exp (.call 68 [(.idx (.var 1) (.cst (.int 0))), (.idx (.var 1) (.cst (.int 1)))] [] [.inl 0, .inl 1])]]] [(8, 2, [.ret (.efld 2 8)]), (0, 2, [.set (.v 3) (.lst [(.eis 2 7), (.eis 2 4), (.eis 2 10)]), .set (.v 3) (.bin .add (.var 3) (.lst [(.eis 2 2)])), .ret (.ite (.cmp .eq (.mth .lcnt (.var 3) (.cst (.bl true))) (.cst (.int 1))) (.mth .lidx (.var 3) (.cst (.bl true))) (.neg (.cst (.int 1))))])], .ret (.cst .non)]⟩
def d_law_side : Def := ⟨1, 1, [.ret (.ddsp [(.cst (.str [98, 105, 116])), (.cst (.int 0)), (.cst (.str [119, 97, 115])), (.cst (.int 0)), (.cst (.str [110, 101, 119])), (.cst (.bl false)), (.cst (.str [115, 101, 101, 110])), (.bin .mul (.lst [(.cst (.int 0))]) (.var 0))])]⟩
def d_law_read : Def := ⟨2, 4, [.set (.v 2) (.idx (.idx (.var 0) (.cst (.str [115, 101, 101, 110]))) (.neg (.cst (.int 1)))), .set (.v 3) (.ite (.and [(.idx (.var 0) (.cst (.str [110, 101, 119]))), (.var 1)]) (.idx (.var 0) (.cst (.str [119, 97, 115]))) (.idx (.var 0) (.cst (.str [98, 105, 116])))), .put 0 (.cst (.str [115, 101, 101, 110])) (.bin .add (.lst [(.var 3)]) (.slc (.idx (.var 0) (.cst (.str [115, 101, 101, 110]))) (.cst .non) (.neg (.cst (.int 1))))), .put 0 (.cst (.str [110, 101, 119])) (.cst (.bl false)), .ret (.var 2)]⟩
def d_law_can : Def := ⟨1, 1, [.ite (.cmp .eq (.idx (.var 0) (.cst (.str [112, 104, 97, 115, 101, 115]))) (.cst (.int 2))) [.ret (.cmp .eq (.idx (.idx (.var 0) (.cst (.str [97, 115, 107]))) (.cst (.str [98, 105, 116]))) (.idx (.var 0) (.cst (.str [116, 111, 108, 100]))))] [], .ret (.and [(.cmp .eq (.idx (.idx (.var 0) (.cst (.str [97, 115, 107]))) (.cst (.str [98, 105, 116]))) (.cst (.int 0))), (.cmp .eq (.idx (.var 0) (.cst (.str [116, 111, 108, 100]))) (.cst (.int 0)))])]⟩
def d_Signal___init__ : Def := ⟨2, 3, [.as1 (.f (.var 0) 3) (.cst (.int 0)), .as1 (.f (.var 0) 24) (.cst (.int 0)), .as1 (.f (.var 0) 11) (.cst (.bl false)), .as1 (.f (.var 0) 18) (.lc (.cst (.int 0)) (.v 2) (.rng [(.var 1)]) (.cst (.bl true)))]⟩
def d_Signal_turn : Def := ⟨2, 2, [.ite (.cmp .ne (.var 1) (.fld 3 (.var 0))) [.asN [(.f (.var 0) 3), (.f (.var 0) 24), (.f (.var 0) 11)] (.tup [(.var 1), (.fld 3 (.var 0)), (.cst (.bl true))])] []]⟩
def d_Signal_read : Def := ⟨2, 6, [.set (.v 2) (.idx (.fld 18 (.var 0)) (.neg (.cst (.int 1)))), .set (.v 3) (.ite (.and [(.fld 11 (.var 0)), (.var 1)]) (.fld 24 (.var 0)) (.fld 3 (.var 0))), .star 4 5 (.bin .add (.lst [(.var 3)]) (.fld 18 (.var 0))), .as1 (.f (.var 0) 18) (.var 4), .as1 (.f (.var 0) 11) (.cst (.bl false)), .ret (.var 2)]⟩
def d_Signal_shown : Def := ⟨1, 1, [.ret (.tup [(.fld 3 (.var 0)), (.blt .tuple [(.fld 18 (.var 0))])])]⟩
def d_Shake___init__ : Def := ⟨3, 3, [.exp (.call 62 [(.var 1)] [(.cst (.str [115, 116, 101, 112, 115])), (.cst (.int 1)), (.cst (.int 9))] [.inl 0, .inl 1, .inl 2, .inl 3]), .ite (.or [(.not (.call 30 [(.var 2), (.cst (.int 2)), (.cst (.int 4))] [] [.inl 0, .inl 1, .inl 2])), (.cmp .eq (.var 2) (.cst (.int 3)))]) [.rse 8 (.cst (.str [112, 104, 97, 115, 101, 115]))] [], .as1 (.f (.var 0) 15) (.var 2), .as1 (.f (.var 0) 1) (.mk 0 1041 [(.var 1)] [] [.inl 0, .inl 1]), .as1 (.f (.var 0) 0) (.mk 0 1041 [(.var 1)] [] [.inl 0, .inl 1]), .as1 (.f (.var 0) 25) (.cst (.int 0)), .as1 (.f (.var 0) 2) (.cst (.int 0)), .as1 (.f (.var 0) 22) (.cst (.int 0)), .as1 (.f (.var 0) 19) (.new (.lst [])), .as1 (.f (.var 0) 9) (.new (.lst []))]⟩
def d_Shake_is_ready : Def := ⟨1, 1, [.ite (.cmp .eq (.fld 15 (.var 0)) (.cst (.int 2))) [.ret (.cmp .eq (.fld 3 (.fld 1 (.var 0))) (.fld 22 (.var 0)))] [], .ret (.and [(.cmp .eq (.fld 3 (.fld 1 (.var 0))) (.cst (.int 0))), (.cmp .eq (.fld 22 (.var 0)) (.cst (.int 0)))])]⟩
def d_Shake_send : Def := ⟨2, 2, [.exp (.call 62 [(.var 1)] [(.cst (.str [119, 111, 114, 100])), (.cst (.int 255))] [.inl 0, .inl 1, .inr (.int 0), .inl 2]), .ite (.not (.meth 1 1034 (.var 0) [] [] [.inl 0])) [.rse 11 (.fld 25 (.var 0))] [], .as1 (.f (.var 0) 25) (.var 1), .capp (.fld 19 (.var 0)) (.var 1), .exp (.meth 0 1044 (.fld 1 (.var 0)) [(.bin .sub (.cst (.int 1)) (.fld 3 (.fld 1 (.var 0))))] [] [.inl 0, .inl 1])]⟩
def d_Shake_tick_a : Def := ⟨2, 2, [.as1 (.f (.var 0) 22) (.meth 0 1042 (.fld 0 (.var 0)) [(.var 1)] [] [.inl 0, .inl 1]), .ite (.and [(.cmp .eq (.fld 15 (.var 0)) (.cst (.int 4))), (.cmp .eq (.fld 3 (.fld 1 (.var 0))) (.cst (.int 1))), (.cmp .eq (.fld 22 (.var 0)) (.cst (.int 1)))]) [.exp (.meth 0 1044 (.fld 1 (.var 0)) [(.cst (.int 0))] [] [.inl 0, .inl 1])] []]⟩
def d_Shake_tick_b : Def := ⟨2, 4, [.set (.v 2) (.meth 0 1042 (.fld 1 (.var 0)) [(.var 1)] [] [.inl 0, .inl 1]), .set (.v 3) (.ite (.cmp .eq (.fld 15 (.var 0)) (.cst (.int 2))) (.cmp .ne (.var 2) (.fld 2 (.var 0))) (.and [(.cmp .eq (.var 2) (.cst (.int 1))), (.cmp .eq (.fld 2 (.var 0)) (.cst (.int 0)))])), .as1 (.f (.var 0) 2) (.var 2), .ite (.var 3) [.capp (.fld 9 (.var 0)) (.fld 25 (.var 0))] [], .exp (.meth 0 1044 (.fld 0 (.var 0)) [(.var 2)] [] [.inl 0, .inl 1]), .ret (.var 3)]⟩
def d_Shake_tick : Def := ⟨3, 3, [.ite (.or [(.not (.isi (.var 1) .str)), (.cmp .notin (.var 1) (.cst (.tup [(.str [97]), (.str [98])]))), (.not (.isi (.var 2) .bool))]) [.rse 5 (.cst (.str [110, 111, 32, 116, 105, 99, 107]))] [], .ite (.cmp .eq (.var 1) (.cst (.str [97]))) [.exp (.meth 1 1037 (.var 0) [(.var 2)] [] [.inl 0, .inl 1]), .ret (.cst .non)] [], .ret (.ite (.meth 1 1038 (.var 0) [(.var 2)] [] [.inl 0, .inl 1]) (.idxC (.fld 9 (.var 0)) (.neg (.cst (.int 1)))) (.cst .non))]⟩
def d_Shake_flags : Def := ⟨1, 1, [.ret (.tup [(.meth 0 1043 (.fld 1 (.var 0)) [] [] [.inl 0]), (.meth 0 1043 (.fld 0 (.var 0)) [] [] [.inl 0])])]⟩
def d_Shake_words_sent : Def := ⟨1, 1, [.ret (.bltC .list (.fld 19 (.var 0)))]⟩
def d_Shake_words_got : Def := ⟨1, 1, [.ret (.bltC .list (.fld 9 (.var 0)))]⟩
def d_Shake___len__ : Def := ⟨1, 1, [.ret (.blt .len [(.slcC (.fld 19 (.var 0)) (.bltC .len (.fld 9 (.var 0))) (.cst .non))])]⟩
def d_led_over_b0 : List St := [.ite (.and [(.cmpC .ne (.var 7) (.lst [])), (.meth 1 1034 (.var 4) [] [] [.inl 0])]) [.exp (.meth 1 1035 (.var 4) [(.cpop true (.var 7))] [] [.inl 0, .inl 1])] [], .exp (.meth 1 1036 (.var 4) [(.var 8)] [(.var 9)] [.inl 0, .inl 1, .inl 2])]
def d_led_over : Def := ⟨4, 10, [.set (.v 4) (.mk 1 1031 [] [(.var 2), (.var 3)] [.inl 0, .inl 1, .inl 2]), .ite (.or [(.not (.isi (.var 0) .list)), (.not (.blt .all [(.lc (.call 30 [(.var 5), (.cst (.int 0)), (.cst (.int 255))] [] [.inl 0, .inl 1, .inl 2]) (.v 5) (.var 0) (.cst (.bl true)))]))]) [.rse 8 (.cst (.str [119, 111, 114, 100]))] [], .ite (.or [(.not (.isi (.var 1) .list)), (.not (.blt .all [(.lc (.and [(.isi (.var 6) .tuple), (.cmp .eq (.blt .len [(.var 6)]) (.cst (.int 2)))]) (.v 6) (.var 1) (.cst (.bl true)))]))]) [.rse 5 (.cst (.str [110, 111, 32, 116, 105, 99, 107, 115]))] [], .set (.v 7) (.new (.bltC .list (.var 0))), .for_ (.t [(.v 8), (.v 9)]) (.var 1) d_led_over_b0, .ret (.meth 1 1039 (.var 4) [] [] [.inl 0])]⟩
def d_law_led_b0 : List St := [.exp (.meth 1 1036 (.var 0) [(.var 6)] [(.cmp .eq (.bin .mod (.var 5) (.cst (.int 2))) (.cst (.int 0)))] [.inl 0, .inl 1, .inl 2])]
def d_law_led_b1 : List St := [.for_ (.v 6) (.cst (.str [97, 98])) d_law_led_b0]
def d_law_led_b2 : List St := [.exp (.meth 1 1036 (.var 0) [(.cst (.str [98]))] [(.cmp .eq (.var 7) (.cst (.int 0)))] [.inl 0, .inl 1, .inl 2]), .set (.v 7) (.bin .add (.var 7) (.cst (.int 1)))]
def d_law_led_b3_0 : St := .for_ (.v 5) (.rng [(.bin .add (.bin .mul (.cst (.int 4)) (.var 3)) (.cst (.int 12)))]) d_law_led_b1
def d_law_led_b3_1 : St := .ite (.or [(.not (.meth 1 1034 (.var 0) [] [] [.inl 0])), (.cmp .ne (.ilen 1 1032 (.var 0)) (.cst (.int 0)))]) [.ret (.cst (.bl false))] []
def d_law_led_b3_2 : St := .exp (.meth 1 1035 (.var 0) [(.var 4)] [] [.inl 0, .inl 1])
def d_law_led_b3_3 : St := .set (.v 7) (.cst (.int 0))
def d_law_led_b3_4 : St := .whl (.and [(.cmp .eq (.ilen 1 1032 (.var 0)) (.cst (.int 1))), (.cmp .lt (.var 7) (.cst (.int 9)))]) d_law_led_b2
def d_law_led_b3_5 : St := .ite (.cmp .ne (.var 7) (.bin .add (.var 3) (.cst (.int 2)))) [.ret (.cst (.bl false))] []
def d_law_led_b3 : List St := [d_law_led_b3_0, d_law_led_b3_1, d_law_led_b3_2, d_law_led_b3_3, d_law_led_b3_4, d_law_led_b3_5]
def d_law_led : Def := ⟨4, 8, [.for_ (.v 4) (.binC .add (.var 2) (.lst [(.cst (.int 7))])) d_law_led_b3, .ret (.and [(.cmp .eq (.meth 1 1039 (.var 0) [] [] [.inl 0]) (.bin .add (.var 1) (.lst [(.cst (.int 7))]))), (.cmp .eq (.call 41 [(.var 1), (.lst [])] [(.var 3)] [.inl 0, .inl 1, .inl 2, .inr (.int 2)]) (.lst []))])]⟩
def d_law_no_k27 : Def := ⟨4, 5, [.try_ [.ite (.cmp .eq (.var 0) (.cst (.int 0))) [.exp (.mk 1 1031 [] [(.var 1), (.var 2)] [.inl 0, .inl 1, .inl 2])] [.ite (.cmp .eq (.var 0) (.cst (.int 1))) [.exp (.meth 1 1035 (.var 1) [(.var 2)] [] [.inl 0, .inl 1])] [.ite (.cmp .eq (.var 0) (.cst (.int 2))) [.exp (.meth 1 1036 (.var 1) [(.var 2)] [(.var 3)] [.inl 0, .inl 1, .inl 2])] [.exp (.call 41 [(.var 1), (.var 2)] [(.var 3)] [.inl 0, .inl 1, .inl 2, .inr (.int 2)])]]]] [(8, 4, [.ret (.efld 4 8)]), (0, 4, [.ret (.lst [(.eis 4 5), (.eis 4 11)])])], .ret (.cst .non)]⟩
def d_wall_b0 : List St := [.pass]
def d_wall : Def := ⟨1, 1, [.whl (.cst (.bl true)) d_wall_b0]⟩
def d_need_queue : Def := ⟨3, 3, [.ite (.or [(.not (.call 30 [(.var 0), (.cst (.int 2)), (.cst (.int 16))] [] [.inl 0, .inl 1, .inl 2])), (.cmp .notin (.var 0) (.cst (.tup [(.int 2), (.int 4), (.int 8), (.int 16)])))]) [.rse 8 (.cst (.str [115, 105, 122, 101]))] [], .exp (.call 62 [(.var 1)] [(.cst (.str [115, 116, 101, 112, 115])), (.cst (.int 1)), (.cst (.int 9))] [.inl 0, .inl 1, .inl 2, .inl 3]), .ite (.or [(.not (.isi (.var 2) .str)), (.cmp .notin (.var 2) (.cst (.tup [(.str [103, 114, 97, 121]), (.str [112, 108, 97, 105, 110])])))]) [.rse 8 (.cst (.str [99, 111, 100, 101, 100]))] []]⟩
def d_law_gray : Def := ⟨1, 1, [.ret (.bin .bxor (.var 0) (.bin .fdiv (.var 0) (.cst (.int 2))))]⟩
def d_law_mark : Def := ⟨1, 1, [.ret (.ddsp [(.cst (.str [110, 117, 109, 98, 101, 114])), (.cst (.int 0)), (.cst (.str [119, 97, 115])), (.cst (.int 0)), (.cst (.str [110, 101, 119])), (.cst (.bl false)), (.cst (.str [115, 101, 101, 110])), (.bin .mul (.lst [(.cst (.int 0))]) (.var 0))])]⟩
def d_law_view : Def := ⟨3, 4, [.ite (.cmp .eq (.var 1) (.cst (.str [112, 108, 97, 105, 110]))) [.ret (.idx (.idx (.var 0) (.cst (.str [115, 101, 101, 110]))) (.neg (.cst (.int 1))))] [], .ret (.idx (.lc (.var 3) (.v 3) (.rng [(.bin .mul (.cst (.int 2)) (.var 2))]) (.cmp .eq (.call 227 [(.var 3)] [] [.inl 0]) (.idx (.idx (.var 0) (.cst (.str [115, 101, 101, 110]))) (.neg (.cst (.int 1)))))) (.cst (.int 0)))]⟩
def d_law_pass : Def := ⟨3, 6, [.set (.v 3) (.lst [(.idx (.var 0) (.cst (.str [110, 117, 109, 98, 101, 114]))), (.idx (.var 0) (.cst (.str [119, 97, 115])))]), .ite (.cmp .eq (.var 1) (.cst (.str [103, 114, 97, 121]))) [.set (.v 3) (.lc (.call 227 [(.var 4)] [] [.inl 0]) (.v 4) (.var 3) (.cst (.bl true)))] [], .set (.v 5) (.ite (.idx (.var 0) (.cst (.str [110, 101, 119]))) (.bin .bxor (.idx (.var 3) (.cst (.int 0))) (.bin .band (.var 2) (.bin .bxor (.idx (.var 3) (.cst (.int 0))) (.idx (.var 3) (.cst (.int 1)))))) (.idx (.var 3) (.cst (.int 0)))), .put 0 (.cst (.str [115, 101, 101, 110])) (.bin .add (.lst [(.var 5)]) (.slc (.idx (.var 0) (.cst (.str [115, 101, 101, 110]))) (.cst .non) (.neg (.cst (.int 1))))), .put 0 (.cst (.str [110, 101, 119])) (.cst (.bl false))]⟩
def d_Mark___init__ : Def := ⟨4, 5, [.as1 (.f (.var 0) 20) (.var 1), .as1 (.f (.var 0) 6) (.var 3), .as1 (.f (.var 0) 14) (.cst (.int 0)), .as1 (.f (.var 0) 24) (.cst (.int 0)), .as1 (.f (.var 0) 11) (.cst (.bl false)), .as1 (.f (.var 0) 18) (.blt .tuple [(.lc (.cst (.int 0)) (.v 4) (.rng [(.var 2)]) (.cst (.bl true)))])]⟩
def d_Mark_twin : Def := ⟨1, 1, [.exp (.call 1 [(.cst (.int 0))] [] [.inl 0])]⟩
def d_Mark_code : Def := ⟨2, 2, [.ret (.ite (.cmp .eq (.fld 6 (.var 0)) (.cst (.str [103, 114, 97, 121]))) (.call 19 [(.var 1)] [] [.inl 0]) (.var 1))]⟩
def d_Mark_step : Def := ⟨1, 1, [.asN [(.f (.var 0) 14), (.f (.var 0) 24), (.f (.var 0) 11)] (.tup [(.bin .mod (.bin .add (.fld 14 (.var 0)) (.cst (.int 1))) (.bin .mul (.cst (.int 2)) (.fld 20 (.var 0)))), (.fld 14 (.var 0)), (.cst (.bl true))])]⟩
def d_Mark_view : Def := ⟨1, 1, [.ret (.ite (.cmp .eq (.fld 6 (.var 0)) (.cst (.str [103, 114, 97, 121]))) (.call 88 [(.idx (.fld 18 (.var 0)) (.neg (.cst (.int 1))))] [] [.inl 0]) (.idx (.fld 18 (.var 0)) (.neg (.cst (.int 1)))))]⟩
def d_Mark_pass_on : Def := ⟨2, 3, [.set (.v 2) (.meth 2 1013 (.var 0) [(.fld 14 (.var 0))] [] [.inl 0, .inl 1]), .ite (.fld 11 (.var 0)) [.set (.v 2) (.bin .bxor (.var 2) (.bin .band (.var 1) (.bin .bxor (.var 2) (.meth 2 1013 (.var 0) [(.fld 24 (.var 0))] [] [.inl 0, .inl 1]))))] [], .as1 (.f (.var 0) 18) (.bin .add (.tup [(.var 2)]) (.slc (.fld 18 (.var 0)) (.cst .non) (.neg (.cst (.int 1))))), .as1 (.f (.var 0) 11) (.cst (.bl false))]⟩
def d_Mark_shown : Def := ⟨1, 1, [.ret (.tup [(.fld 14 (.var 0)), (.fld 24 (.var 0)), (.fld 11 (.var 0)), (.fld 18 (.var 0))])]⟩
def d_Queue___init__ : Def := ⟨4, 5, [.exp (.call 63 [(.var 1), (.var 2), (.var 3)] [] [.inl 0, .inl 1, .inl 2]), .as1 (.f (.var 0) 20) (.var 1), .as1 (.f (.var 0) 17) (.new (.lc (.cst (.int 0)) (.v 4) (.rng [(.var 1)]) (.cst (.bl true)))), .as1 (.f (.var 0) 16) (.mk 2 1012 [(.var 1), (.var 2), (.var 3)] [] [.inl 0, .inl 1, .inl 2, .inl 3]), .as1 (.f (.var 0) 21) (.mk 2 1012 [(.var 1), (.var 2), (.var 3)] [] [.inl 0, .inl 1, .inl 2, .inl 3]), .as1 (.f (.var 0) 26) (.new (.lst [])), .as1 (.f (.var 0) 27) (.new (.lst []))]⟩
def d_Queue_is_full : Def := ⟨1, 1, [.ret (.cmp .ge (.bin .mod (.bin .sub (.fld 14 (.fld 16 (.var 0))) (.meth 2 1018 (.fld 21 (.var 0)) [] [] [.inl 0])) (.bin .mul (.cst (.int 2)) (.fld 20 (.var 0)))) (.fld 20 (.var 0)))]⟩
def d_Queue_is_empty : Def := ⟨1, 1, [.ret (.cmp .eq (.fld 14 (.fld 21 (.var 0))) (.meth 2 1018 (.fld 16 (.var 0)) [] [] [.inl 0]))]⟩
def d_Queue_need_mask : Def := ⟨2, 2, [.exp (.call 62 [(.var 1)] [(.cst (.str [109, 97, 115, 107])), (.bin .sub (.bin .mul (.cst (.int 2)) (.fld 20 (.var 0))) (.cst (.int 1)))] [.inl 0, .inl 1, .inr (.int 0), .inl 2])]⟩
def d_Queue_write : Def := ⟨3, 4, [.ite (.cmp .isnot (.var 1) (.cst .non)) [.exp (.call 62 [(.var 1)] [(.cst (.str [119, 111, 114, 100])), (.cst (.int 255))] [.inl 0, .inl 1, .inr (.int 0), .inl 2])] [], .exp (.meth 3 1025 (.var 0) [(.var 2)] [] [.inl 0, .inl 1]), .set (.v 3) (.and [(.cmp .isnot (.var 1) (.cst .non)), (.not (.meth 3 1022 (.var 0) [] [] [.inl 0]))]), .exp (.meth 2 1014 (.fld 21 (.var 0)) [(.var 2)] [] [.inl 0, .inl 1]), .ite (.var 3) [.as1 (.s false (.fld 17 (.var 0)) (.bin .mod (.fld 14 (.fld 16 (.var 0))) (.fld 20 (.var 0)))) (.var 1), .capp (.fld 26 (.var 0)) (.var 1), .exp (.meth 2 1016 (.fld 16 (.var 0)) [] [] [.inl 0])] [], .ret (.var 3)]⟩
def d_Queue_read : Def := ⟨3, 5, [.ite (.not (.isi (.var 1) .bool)) [.rse 5 (.cst (.str [110, 111, 32, 119, 105, 115, 104]))] [], .exp (.meth 3 1025 (.var 0) [(.var 2)] [] [.inl 0, .inl 1]), .set (.v 3) (.and [(.var 1), (.not (.meth 3 1021 (.var 0) [] [] [.inl 0]))]), .exp (.meth 2 1014 (.fld 16 (.var 0)) [(.var 2)] [] [.inl 0, .inl 1]), .ite (.not (.var 3)) [.ret (.cst .non)] [], .set (.v 4) (.idxC (.fld 17 (.var 0)) (.bin .mod (.fld 14 (.fld 21 (.var 0))) (.fld 20 (.var 0)))), .capp (.fld 27 (.var 0)) (.var 4), .exp (.meth 2 1016 (.fld 21 (.var 0)) [] [] [.inl 0]), .ret (.var 4)]⟩
def d_Queue_level : Def := ⟨1, 1, [.ret (.bin .mod (.bin .sub (.fld 14 (.fld 16 (.var 0))) (.fld 14 (.fld 21 (.var 0)))) (.bin .mul (.cst (.int 2)) (.fld 20 (.var 0))))]⟩
def d_Queue_views : Def := ⟨1, 3, [.set (.v 1) (.bin .mul (.cst (.int 2)) (.fld 20 (.var 0))), .set (.v 2) (.bin .mod (.bin .sub (.fld 14 (.fld 16 (.var 0))) (.meth 2 1018 (.fld 21 (.var 0)) [] [] [.inl 0])) (.var 1)), .ret (.tup [(.var 2), (.bin .mod (.bin .sub (.meth 2 1018 (.fld 16 (.var 0)) [] [] [.inl 0]) (.fld 14 (.fld 21 (.var 0)))) (.var 1))])]⟩
def d_Queue_put : Def := ⟨1, 1, [.ret (.bltC .list (.fld 26 (.var 0)))]⟩
def d_Queue_taken : Def := ⟨1, 1, [.ret (.bltC .list (.fld 27 (.var 0)))]⟩
def d_Queue_marks : Def := ⟨1, 1, [.ret (.tup [(.meth 2 1015 (.fld 16 (.var 0)) [] [] [.inl 0]), (.meth 2 1015 (.fld 21 (.var 0)) [] [] [.inl 0])])]⟩
def d_Queue___len__ : Def := ⟨1, 1, [.ret (.blt .len [(.lrng [(.meth 3 1023 (.var 0) [] [] [.inl 0])])])]⟩
def d_is_side : Def := ⟨1, 1, [.ret (.and [(.isi (.var 0) .str), (.cmp .isin (.var 0) (.tup [(.cst (.str [119])), (.cst (.str [114]))]))])]⟩
def d_led_through_b0 : List St := [.ite (.cmp .eq (.idx (.var 5) (.cst (.int 0))) (.cst (.str [119]))) [.exp (.meth 3 1030 (.var 4) [(.idx (.var 5) (.cst (.int 1)))] [(.idx (.var 5) (.cst (.int 2)))] [.inl 0, .inl 1, .inl 2])] [.exp (.meth 3 1027 (.var 4) [(.idx (.var 5) (.cst (.int 1)))] [(.idx (.var 5) (.cst (.int 2)))] [.inl 0, .inl 1, .inl 2])]]
def d_led_through : Def := ⟨4, 6, [.set (.v 4) (.mk 3 1019 [(.var 0)] [(.var 2), (.var 3)] [.inl 0, .inl 1, .inl 2, .inl 3]), .ite (.not (.isi (.var 1) .list)) [.rse 5 (.cst (.str [110, 111, 32, 100, 101, 101, 100, 115]))] [], .ite (.not (.blt .all [(.lc (.and [(.isi (.var 5) .tuple), (.cmp .eq (.blt .len [(.var 5)]) (.cst (.int 3))), (.call 35 [(.idx (.var 5) (.cst (.int 0)))] [] [.inl 0])]) (.v 5) (.var 1) (.cst (.bl true)))])) [.rse 5 (.cst (.str [110, 111, 32, 100, 101, 101, 100]))] [], .for_ (.v 5) (.var 1) d_led_through_b0, .ret (.meth 3 1028 (.var 4) [] [] [.inl 0])]⟩
def d_law_drained_b0 : List St := [.exp (.meth 3 1027 (.var 0) [] [(.cst (.int 0))] [.inl 0, .inr (.bl true), .inl 1]), .exp (.meth 3 1030 (.var 0) [] [(.cst (.int 0))] [.inl 0, .inr .non, .inl 1])]
def d_law_drained_b1 : List St := [.set (.v 4) (.bin .add (.var 4) (.blt .int [(.meth 3 1030 (.var 0) [(.var 3)] [] [.inl 0, .inl 1, .inr (.int 0)])]))]
def d_law_drained : Def := ⟨3, 5, [.for_ (.v 3) (.rng [(.bin .add (.bin .add (.bin .mul (.cst (.int 2)) (.var 1)) (.bin .mul (.cst (.int 4)) (.var 2))) (.cst (.int 4)))]) d_law_drained_b0, .ite (.or [(.cmp .ne (.meth 3 1028 (.var 0) [] [] [.inl 0]) (.meth 3 1026 (.var 0) [] [] [.inl 0])), (.cmp .ne (.meth 3 1023 (.var 0) [] [] [.inl 0]) (.cst (.int 0))), (.cmp .ne (.meth 3 1029 (.var 0) [] [] [.inl 0]) (.tup [(.cst (.int 0)), (.cst (.int 0))]))]) [.ret (.cst (.bl false))] [], .set (.v 4) (.cst (.int 0)), .for_ (.v 3) (.rng [(.bin .add (.var 1) (.cst (.int 3)))]) d_law_drained_b1, .ret (.and [(.cmp .eq (.var 4) (.var 1)), (.meth 3 1022 (.var 0) [] [] [.inl 0]), (.cmp .eq (.meth 3 1023 (.var 0) [] [] [.inl 0]) (.var 1))])]⟩
def d_law_safe : Def := ⟨2, 5, [.par [(2, false), (3, false), (4, false)] [(.meth 3 1026 (.var 0) [] [] [.inl 0]), (.meth 3 1028 (.var 0) [] [] [.inl 0]), (.meth 3 1023 (.var 0) [] [] [.inl 0])], .ite (.or [(.cmp .ne (.var 3) (.slc (.var 2) (.cst .non) (.blt .len [(.var 3)]))), (.cmp .ne (.bin .sub (.blt .len [(.var 2)]) (.blt .len [(.var 3)])) (.var 4)), (.cmp .gt (.var 4) (.var 1))]) [.ret (.cst (.bl false))] [], .ite (.cmp .ne (.ilen 3 1020 (.var 0)) (.var 4)) [.ret (.cst (.bl false))] [], .ite (.not (.and [(.cmp .le (.idx (.meth 3 1029 (.var 0) [] [] [.inl 0]) (.cst (.int 1))) (.var 4)), (.cmp .le (.var 4) (.idx (.meth 3 1029 (.var 0) [] [] [.inl 0]) (.cst (.int 0)))), (.cmp .le (.idx (.meth 3 1029 (.var 0) [] [] [.inl 0]) (.cst (.int 0))) (.var 1))])) [.ret (.cst (.bl false))] [], .ite (.or [(.and [(.cmp .eq (.var 4) (.var 1)), (.not (.meth 3 1022 (.var 0) [] [] [.inl 0]))]), (.and [(.cmp .eq (.var 4) (.cst (.int 0))), (.not (.meth 3 1021 (.var 0) [] [] [.inl 0]))])]) [.ret (.cst (.bl false))] [], .ret (.cst (.bl true))]⟩
def d_law_no_k32 : Def := ⟨4, 5, [.try_ [.ite (.cmp .eq (.var 0) (.cst (.int 0))) [.exp (.mk 3 1019 [(.var 1)] [(.var 2), (.var 3)] [.inl 0, .inl 1, .inl 2, .inl 3])] [.ite (.cmp .eq (.var 0) (.cst (.int 1))) [.exp (.meth 3 1030 (.var 1) [(.var 2)] [(.var 3)] [.inl 0, .inl 1, .inl 2])] [.ite (.cmp .eq (.var 0) (.cst (.int 2))) [.exp (.meth 3 1027 (.var 1) [(.var 2)] [(.var 3)] [.inl 0, .inl 1, .inl 2])] [.exp (.call 42 [(.var 1), (.var 2)] [(.var 3)] [.inl 0, .inl 1, .inl 2, .inr (.str [103, 114, 97, 121])])]]]] [(8, 4, [.ret (.efld 4 8)]), (0, 4, [.ret (.eis 4 5)])], .ret (.cst .non)]⟩
def d_need_small : Def := ⟨3, 3, [.ite (.or [(.not (.call 30 [(.var 0), (.cst (.int 2)), (.cst (.int 4))] [] [.inl 0, .inl 1, .inl 2])), (.cmp .eq (.var 0) (.cst (.int 3)))]) [.rse 8 (.cst (.str [115, 105, 122, 101]))] [], .exp (.call 63 [(.var 0), (.ite (.call 30 [(.var 1), (.cst (.int 1)), (.cst (.int 2))] [] [.inl 0, .inl 1, .inl 2]) (.var 1) (.cst (.int 0))), (.var 2)] [] [.inl 0, .inl 1, .inl 2])]⟩
def d_begun : Def := ⟨3, 3, [.ret (.tup [(.meth 2 1015 (.mk 2 1012 [(.var 0), (.var 1), (.var 2)] [] [.inl 0, .inl 1, .inl 2, .inl 3]) [] [] [.inl 0]), (.meth 2 1015 (.mk 2 1012 [(.var 0), (.var 1), (.var 2)] [] [.inl 0, .inl 1, .inl 2, .inl 3]) [] [] [.inl 0])])]⟩
def d_mark_of : Def := ⟨3, 4, [.set (.v 3) (.mk 2 1012 [(.var 0), (.blt .len [(.idx (.var 2) (.cst (.int 3)))]), (.var 1)] [] [.inl 0, .inl 1, .inl 2, .inl 3]), .asN [(.f (.var 3) 14), (.f (.var 3) 24), (.f (.var 3) 11), (.f (.var 3) 18)] (.var 2), .ret (.var 3)]⟩
def d_is_shown : Def := ⟨2, 3, [.ite (.or [(.not (.isi (.var 0) .tuple)), (.cmp .ne (.blt .len [(.var 0)]) (.cst (.int 4))), (.not (.isi (.idx (.var 0) (.cst (.int 3))) .tuple)), (.cmp .ne (.blt .len [(.idx (.var 0) (.cst (.int 3)))]) (.var 1))]) [.ret (.cst (.bl false))] [], .ret (.and [(.isi (.idx (.var 0) (.cst (.int 2))) .bool), (.blt .all [(.lc (.call 30 [(.var 2), (.cst (.int 0)), (.cst (.int 31))] [] [.inl 0, .inl 1, .inl 2]) (.v 2) (.bin .add (.slc (.var 0) (.cst .non) (.cst (.int 2))) (.idx (.var 0) (.cst (.int 3)))) (.cst (.bl true)))])])]⟩
def d_law_view_of : Def := ⟨3, 3, [.ret (.call 229 [(.ddsp [(.cst (.str [115, 101, 101, 110])), (.blt .list [(.idx (.var 0) (.cst (.int 3)))])]), (.var 1), (.var 2)] [] [.inl 0, .inl 1, .inl 2])]⟩
def d_law_moves_b0 : List St := [.set (.v 15) (.ite (.and [(.var 14), (.var 11)]) (.tup [(.bin .mod (.bin .add (.idx (.var 6) (.cst (.int 0))) (.cst (.int 1))) (.bin .mul (.cst (.int 2)) (.var 2))), (.idx (.var 6) (.cst (.int 0))), (.cst (.bl true)), (.idx (.var 6) (.cst (.int 3)))]) (.var 6)), .app 3 (.tup [(.tup [(.var 4), (.var 14), (.var 12)]), (.ite (.cmp .eq (.var 4) (.cst (.str [119]))) (.tup [(.var 15), (.var 13)]) (.tup [(.var 13), (.var 15)]))])]
def d_law_moves_b1 : List St := [.set (.v 13) (.tup [(.idx (.var 5) (.cst (.int 0))), (.idx (.var 5) (.cst (.int 1))), (.cst (.bl false)), (.bin .add (.tup [(.bin .bxor (.idx (.var 7) (.cst (.int 0))) (.var 12))]) (.slc (.idx (.var 5) (.cst (.int 3))) (.cst .non) (.neg (.cst (.int 1)))))]), .for_ (.v 14) (.tup [(.cst (.bl false)), (.cst (.bl true))]) d_law_moves_b0]
def d_law_moves_b2_0 : St := .set (.v 5) (.ite (.cmp .eq (.var 4) (.cst (.str [119]))) (.idx (.var 0) (.cst (.int 1))) (.idx (.var 0) (.cst (.int 0))))
def d_law_moves_b2_1 : St := .set (.v 6) (.ite (.cmp .eq (.var 4) (.cst (.str [119]))) (.idx (.var 0) (.cst (.int 0))) (.idx (.var 0) (.cst (.int 1))))
def d_law_moves_b2_2 : St := .set (.v 7) (.lc (.ite (.cmp .eq (.var 1) (.cst (.str [103, 114, 97, 121]))) (.call 227 [(.var 8)] [] [.inl 0]) (.var 8)) (.v 8) (.slc (.var 5) (.cst .non) (.cst (.int 2))) (.cst (.bl true)))
def d_law_moves_b2_3 : St := .set (.v 9) (.ite (.idx (.var 5) (.cst (.int 2))) (.bin .bxor (.idx (.var 7) (.cst (.int 0))) (.idx (.var 7) (.cst (.int 1)))) (.cst (.int 0)))
def d_law_moves_b2_4 : St := .set (.v 10) (.call 236 [(.var 5), (.var 1), (.var 2)] [] [.inl 0, .inl 1, .inl 2])
def d_law_moves_b2_5 : St := .set (.v 11) (.ite (.cmp .eq (.var 4) (.cst (.str [119]))) (.cmp .lt (.bin .mod (.bin .sub (.idx (.var 6) (.cst (.int 0))) (.var 10)) (.bin .mul (.cst (.int 2)) (.var 2))) (.var 2)) (.cmp .ne (.idx (.var 6) (.cst (.int 0))) (.var 10)))
def d_law_moves_b2_6 : St := .for_ (.v 12) (.lc (.var 12) (.v 12) (.rng [(.bin .mul (.cst (.int 2)) (.var 2))]) (.cmp .eq (.bin .band (.var 12) (.var 9)) (.var 12))) d_law_moves_b1
def d_law_moves_b2 : List St := [d_law_moves_b2_0, d_law_moves_b2_1, d_law_moves_b2_2, d_law_moves_b2_3, d_law_moves_b2_4, d_law_moves_b2_5, d_law_moves_b2_6]
def d_law_moves : Def := ⟨3, 16, [.own 3 (.lst []), .for_ (.v 4) (.cst (.str [119, 114])) d_law_moves_b2, .frz 3, .ret (.var 3)]⟩
def d_law_right : Def := ⟨3, 6, [.set (.v 3) (.bin .mod (.bin .sub (.idx (.idx (.var 0) (.cst (.int 0))) (.cst (.int 0))) (.idx (.idx (.var 0) (.cst (.int 1))) (.cst (.int 0)))) (.bin .mul (.cst (.int 2)) (.var 2))), .set (.v 4) (.bin .mod (.bin .sub (.idx (.idx (.var 0) (.cst (.int 0))) (.cst (.int 0))) (.call 236 [(.idx (.var 0) (.cst (.int 1))), (.var 1), (.var 2)] [] [.inl 0, .inl 1, .inl 2])) (.bin .mul (.cst (.int 2)) (.var 2))), .set (.v 5) (.bin .mod (.bin .sub (.call 236 [(.idx (.var 0) (.cst (.int 0))), (.var 1), (.var 2)] [] [.inl 0, .inl 1, .inl 2]) (.idx (.idx (.var 0) (.cst (.int 1))) (.cst (.int 0)))) (.bin .mul (.cst (.int 2)) (.var 2))), .ret (.and [(.cmp .le (.var 5) (.var 3)), (.cmp .le (.var 3) (.var 4)), (.cmp .le (.var 4) (.var 2))])]⟩
def d_is_name : Def := ⟨1, 2, [.ite (.or [(.not (.isi (.var 0) .str)), (.not (.chn .le .le (.cst (.int 1)) (.blt .len [(.var 0)]) (.cst (.int 4)))), (.cmp .notin (.idx (.var 0) (.cst (.int 0))) (.slc (.cst (.str [97, 98, 99, 100, 101, 102, 103, 104, 105, 106, 107, 108, 109, 110, 111, 112, 113, 114, 115, 116, 117, 118, 119, 120, 121, 122, 48, 49, 50, 51, 52, 53, 54, 55, 56, 57])) (.cst .non) (.cst (.int 26))))]) [.ret (.cst (.bl false))] [], .ret (.blt .all [(.lc (.cmp .isin (.var 1) (.cst (.str [97, 98, 99, 100, 101, 102, 103, 104, 105, 106, 107, 108, 109, 110, 111, 112, 113, 114, 115, 116, 117, 118, 119, 120, 121, 122, 48, 49, 50, 51, 52, 53, 54, 55, 56, 57]))) (.v 1) (.var 0) (.cst (.bl true)))])]⟩
def d_is_row : Def := ⟨1, 2, [.ite (.or [(.not (.isi (.var 0) .tuple)), (.cmp .ne (.blt .len [(.var 0)]) (.cst (.int 4))), (.not (.call 28 [(.idx (.var 0) (.cst (.int 0)))] [] [.inl 0])), (.not (.call 27 [(.idx (.var 0) (.cst (.int 1)))] [] [.inl 0]))]) [.ret (.cst (.bl false))] [], .ite (.or [(.not (.isi (.idx (.var 0) (.cst (.int 2))) .str)), (.cmp .notin (.idx (.var 0) (.cst (.int 2))) (.cst (.tup [(.str [115, 111, 117, 114, 99, 101]), (.str [104, 111, 108, 100, 101, 114]), (.str [108, 111, 103, 105, 99])]))), (.not (.isi (.idx (.var 0) (.cst (.int 3))) .tuple))]) [.ret (.cst (.bl false))] [], .ite (.or [(.not (.blt .all [(.lc (.call 28 [(.var 1)] [] [.inl 0]) (.v 1) (.idx (.var 0) (.cst (.int 3))) (.cst (.bl true)))])), (.cmp .lt (.lset (.idx (.var 0) (.cst (.int 3)))) (.blt .len [(.idx (.var 0) (.cst (.int 3)))]))]) [.ret (.cst (.bl false))] [], .ite (.cmp .eq (.idx (.var 0) (.cst (.int 2))) (.cst (.str [115, 111, 117, 114, 99, 101]))) [.ret (.cmp .eq (.idx (.var 0) (.cst (.int 3))) (.tup []))] [], .ret (.chn .le .le (.cst (.int 1)) (.blt .len [(.idx (.var 0) (.cst (.int 3)))]) (.ite (.cmp .eq (.idx (.var 0) (.cst (.int 2))) (.cst (.str [104, 111, 108, 100, 101, 114]))) (.cst (.int 1)) (.cst (.int 4))))]⟩
def d_row_of : Def := ⟨2, 3, [.ret (.idx (.lc (.var 2) (.v 2) (.var 0) (.cmp .eq (.idx (.var 2) (.cst (.int 0))) (.var 1))) (.cst (.int 0)))]⟩
def d_is_chip_b0 : List St := [.ite (.cmp .eq (.var 6) (.cst (.str [104, 111, 108, 100, 101, 114]))) [.set (.v 8) (.call 79 [(.var 0), (.idx (.var 7) (.cst (.int 0)))] [] [.inl 0, .inl 1]), .ite (.and [(.cmp .eq (.idx (.var 8) (.cst (.int 2))) (.cst (.str [104, 111, 108, 100, 101, 114]))), (.or [(.cmp .ne (.idx (.var 8) (.cst (.int 1))) (.var 5)), (.cmp .ge (.mth .lidx (.var 2) (.idx (.var 7) (.cst (.int 0)))) (.var 4))])]) [.ret (.cst (.bl false))] []] []]
def d_is_chip : Def := ⟨1, 9, [.ite (.or [(.not (.isi (.var 0) .tuple)), (.not (.chn .le .le (.cst (.int 1)) (.blt .len [(.var 0)]) (.cst (.int 8)))), (.not (.blt .all [(.lc (.call 32 [(.var 1)] [] [.inl 0]) (.v 1) (.var 0) (.cst (.bl true)))]))]) [.ret (.cst (.bl false))] [], .set (.v 2) (.lc (.idx (.var 1) (.cst (.int 0))) (.v 1) (.var 0) (.cst (.bl true))), .ite (.or [(.cmp .lt (.lset (.var 2)) (.blt .len [(.var 2)])), (.not (.blt .all [(.lc2 (.cmp .isin (.var 3) (.var 2)) (.v 1) (.var 0) (.v 3) (.idx (.var 1) (.cst (.int 3))) (.cst (.bl true)))]))]) [.ret (.cst (.bl false))] [], .for_ (.t [(.v 4), (.t [(.v 3), (.v 5), (.v 6), (.v 7)])]) (.enm (.var 0)) d_is_chip_b0, .ret (.cst (.bl true))]⟩
def d_need_chip : Def := ⟨1, 1, [.ite (.not (.call 23 [(.var 0)] [] [.inl 0])) [.rse 3 (.cst (.str [110, 111, 32, 99, 104, 105, 112]))] []]⟩
def d_chain_b0 : List St := [.aug 3 (.cst (.int 1)), .set (.v 4) (.call 79 [(.var 0), (.idx (.idx (.var 4) (.cst (.int 3))) (.cst (.int 0)))] [] [.inl 0, .inl 1])]
def d_chain : Def := ⟨2, 5, [.par [(2, false), (3, false)] [(.idx (.call 79 [(.var 0), (.var 1)] [] [.inl 0, .inl 1]) (.cst (.int 1))), (.cst (.int 0))], .set (.v 4) (.call 79 [(.var 0), (.var 1)] [] [.inl 0, .inl 1]), .whl (.and [(.cmp .eq (.idx (.var 4) (.cst (.int 2))) (.cst (.str [104, 111, 108, 100, 101, 114]))), (.cmp .eq (.idx (.var 4) (.cst (.int 1))) (.var 2))]) d_chain_b0, .ret (.tup [(.var 3), (.ite (.and [(.cmp .ne (.idx (.var 4) (.cst (.int 1))) (.var 2)), (.cmp .gt (.var 3) (.cst (.int 0)))]) (.idx (.var 4) (.cst (.int 0))) (.cst .non))])]⟩
def d_chain_of : Def := ⟨2, 3, [.exp (.call 55 [(.var 0)] [] [.inl 0]), .ite (.or [(.not (.call 28 [(.var 1)] [] [.inl 0])), (.cmp .notin (.var 1) (.lc (.idx (.var 2) (.cst (.int 0))) (.v 2) (.var 0) (.cst (.bl true))))]) [.rse 3 (.cst (.str [110, 111, 32, 114, 111, 119]))] [], .ret (.call 10 [(.var 0), (.var 1)] [] [.inl 0, .inl 1])]⟩
def d_law_chip_b0 : List St := [.set (.v 5) (.idx (.var 2) (.drawn 0 (.bin .add (.bin .add (.var 1) (.cst (.int 3))) (.bin .mul (.cst (.int 2)) (.var 4))) (.blt .len [(.var 2)]))), .set (.v 6) (.lc (.idx (.var 7) (.cst (.int 0))) (.v 7) (.var 3) (.or [(.cmp .ne (.idx (.var 7) (.cst (.int 2))) (.cst (.str [104, 111, 108, 100, 101, 114]))), (.cmp .eq (.idx (.var 7) (.cst (.int 1))) (.var 5))])), .app 3 (.tup [(.bin .add (.cst (.str [104])) (.blt .str [(.var 4)])), (.var 5), (.cst (.str [104, 111, 108, 100, 101, 114])), (.tup [(.idx (.var 6) (.drawn 0 (.bin .add (.bin .add (.var 1) (.cst (.int 4))) (.bin .mul (.cst (.int 2)) (.var 4))) (.blt .len [(.var 6)])))])])]
def d_law_chip_b1 : List St := [.set (.v 10) (.idx (.idx (.var 3) (.drawn 0 (.bin .add (.bin .add (.bin .add (.var 1) (.cst (.int 14))) (.bin .mul (.cst (.int 5)) (.var 4))) (.var 9)) (.blt .len [(.var 3)]))) (.cst (.int 0))), .set (.v 8) (.bin .add (.var 8) (.ite (.cmp .notin (.var 10) (.var 8)) (.lst [(.var 10)]) (.lst [])))]
def d_law_chip_b2_0 : St := .set (.v 8) (.lst [])
def d_law_chip_b2_1 : St := .for_ (.v 9) (.rng [(.bin .add (.cst (.int 1)) (.drawn 0 (.bin .add (.bin .add (.var 1) (.cst (.int 13))) (.bin .mul (.cst (.int 5)) (.var 4))) (.cst (.int 3))))]) d_law_chip_b1
def d_law_chip_b2_2 : St := .set (.v 5) (.idx (.var 2) (.drawn 0 (.bin .add (.bin .add (.var 1) (.cst (.int 18))) (.bin .mul (.cst (.int 5)) (.var 4))) (.blt .len [(.var 2)])))
def d_law_chip_b2_3 : St := .app 3 (.tup [(.bin .add (.cst (.str [103])) (.blt .str [(.var 4)])), (.var 5), (.cst (.str [108, 111, 103, 105, 99])), (.blt .tuple [(.var 8)])])
def d_law_chip_b2 : List St := [d_law_chip_b2_0, d_law_chip_b2_1, d_law_chip_b2_2, d_law_chip_b2_3]
def d_law_chip : Def := ⟨2, 11, [.set (.v 2) (.idx (.lst [(.cst (.str [97, 98])), (.cst (.str [97, 98])), (.cst (.str [97, 98, 99]))]) (.drawn 0 (.var 1) (.cst (.int 3)))), .own 3 (.lst [(.tup [(.cst (.str [115, 48])), (.cst (.str [97])), (.cst (.str [115, 111, 117, 114, 99, 101])), (.tup [])]), (.tup [(.cst (.str [115, 49])), (.idx (.var 2) (.drawn 0 (.bin .add (.var 1) (.cst (.int 1))) (.blt .len [(.var 2)]))), (.cst (.str [115, 111, 117, 114, 99, 101])), (.tup [])])]), .for_ (.v 4) (.rng [(.drawn 0 (.bin .add (.var 1) (.cst (.int 2))) (.cst (.int 4)))]) d_law_chip_b0, .for_ (.v 4) (.rng [(.bin .add (.cst (.int 1)) (.drawn 0 (.bin .add (.var 1) (.cst (.int 12))) (.cst (.int 2))))]) d_law_chip_b2, .ret (.blt .tuple [(.var 3)])]⟩
def d_law_row : Def := ⟨2, 3, [.ret (.idx (.lc (.var 2) (.v 2) (.var 0) (.cmp .eq (.idx (.var 2) (.cst (.int 0))) (.var 1))) (.cst (.int 0)))]⟩
def d_law_chain_b0 : List St := [.par [(2, false), (3, false)] [(.call 241 [(.var 0), (.idx (.idx (.var 2) (.cst (.int 3))) (.cst (.int 0)))] [] [.inl 0, .inl 1]), (.bin .add (.var 3) (.cst (.int 1)))]]
def d_law_chain : Def := ⟨2, 5, [.par [(2, false), (3, false)] [(.call 241 [(.var 0), (.var 1)] [] [.inl 0, .inl 1]), (.cst (.int 0))], .set (.v 4) (.idx (.var 2) (.cst (.int 1))), .whl (.and [(.cmp .eq (.idx (.var 2) (.cst (.int 2))) (.cst (.str [104, 111, 108, 100, 101, 114]))), (.cmp .eq (.idx (.var 2) (.cst (.int 1))) (.var 4))]) d_law_chain_b0, .ret (.tup [(.var 3), (.ite (.and [(.cmp .gt (.var 3) (.cst (.int 0))), (.cmp .ne (.idx (.var 2) (.cst (.int 1))) (.var 4))]) (.idx (.var 2) (.cst (.int 0))) (.cst .non))])]⟩
def d_law_no_k40 : Def := ⟨2, 3, [.try_ [.exp (.call 11 [(.var 0), (.var 1)] [] [.inl 0, .inl 1])] [(0, 2, [.ret (.and [(.eis 2 3), (.not (.eis 2 8))])])], .ret (.cst (.bl false))]⟩
def d_need_steps : Def := ⟨1, 1, [.exp (.call 62 [(.var 0)] [(.cst (.str [115, 116, 101, 112, 115])), (.cst (.int 1)), (.cst (.int 4))] [.inl 0, .inl 1, .inl 2, .inl 3])]⟩
def d_led : Def := ⟨2, 7, [.set (.t [(.v 2), (.v 3), (.v 4), (.v 5)]) (.var 1), .ret (.blt .sorted [(.lc (.var 6) (.v 6) (.var 5) (.and [(.cmp .eq (.idx (.call 79 [(.var 0), (.var 6)] [] [.inl 0, .inl 1]) (.cst (.int 1))) (.var 3)), (.cmp .isnot (.idx (.call 10 [(.var 0), (.var 6)] [] [.inl 0, .inl 1]) (.cst (.int 1))) (.cst .non))]))])]⟩
def d_pairs : Def := ⟨2, 6, [.set (.v 2) (.call 40 [(.var 0), (.var 1)] [] [.inl 0, .inl 1]), .ret (.lc2 (.tup [(.var 4), (.var 5)]) (.t [(.v 3), (.v 4)]) (.enm (.var 2)) (.v 5) (.slc (.var 2) (.bin .add (.var 3) (.cst (.int 1))) (.cst .non)) (.cst (.bl true)))]⟩
def d_suspects_b0 : List St := [.ite (.cmp .eq (.idx (.var 3) (.cst (.int 2))) (.cst (.str [108, 111, 103, 105, 99]))) [.set (.v 2) (.bin .add (.var 2) (.lc (.tup [(.cst (.str [98, 97, 114, 101])), (.idx (.var 3) (.cst (.int 0))), (.var 4)]) (.v 4) (.idx (.var 3) (.cst (.int 3))) (.cmp .ne (.idx (.call 79 [(.var 0), (.var 4)] [] [.inl 0, .inl 1]) (.cst (.int 1))) (.idx (.var 3) (.cst (.int 1)))))), .set (.v 2) (.bin .add (.var 2) (.lc (.tup [(.cst (.str [115, 104, 111, 114, 116])), (.idx (.var 3) (.cst (.int 0))), (.var 4)]) (.v 4) (.call 40 [(.var 0), (.var 3)] [] [.inl 0, .inl 1]) (.cmp .lt (.idx (.call 10 [(.var 0), (.var 4)] [] [.inl 0, .inl 1]) (.cst (.int 0))) (.var 1)))), .set (.v 2) (.bin .add (.var 2) (.lc (.tup [(.cst (.str [112, 97, 114, 116, 101, 100])), (.idx (.var 3) (.cst (.int 0))), (.bin .add (.bin .add (.var 5) (.cst (.str [44]))) (.var 6))]) (.t [(.v 5), (.v 6)]) (.call 71 [(.var 0), (.var 3)] [] [.inl 0, .inl 1]) (.cst (.bl true))))] []]
def d_suspects : Def := ⟨2, 7, [.exp (.call 55 [(.var 0)] [] [.inl 0]), .exp (.call 66 [(.var 1)] [] [.inl 0]), .set (.v 2) (.lst []), .for_ (.v 3) (.var 0) d_suspects_b0, .ret (.blt .sorted [(.var 2)])]⟩
def d_mended_b0_0 : St := .set (.v 15) (.lc (.var 16) (.v 16) (.lc (.bin .add (.cst (.str [122])) (.blt .str [(.var 17)])) (.v 17) (.rng [(.cst (.int 99))]) (.cst (.bl true))) (.cmp .notin (.var 16) (.var 4)))
def d_mended_b0_1 : St := .app 3 (.tup [(.idx (.var 15) (.cst (.int 0))), (.var 7), (.cst (.str [104, 111, 108, 100, 101, 114])), (.tup [(.var 12)])])
def d_mended_b0_2 : St := .app 4 (.idx (.var 15) (.cst (.int 0)))
def d_mended_b0_3 : St := .set (.v 12) (.idx (.var 15) (.cst (.int 0)))
def d_mended_b0 : List St := [d_mended_b0_0, d_mended_b0_1, d_mended_b0_2, d_mended_b0_3]
def d_mended_b1_0 : St := .set (.v 12) (.var 11)
def d_mended_b1_1 : St := .set (.v 13) (.and [(.cmp .eq (.var 8) (.cst (.str [108, 111, 103, 105, 99]))), (.cmp .ne (.idx (.call 79 [(.var 0), (.var 11)] [] [.inl 0, .inl 1]) (.cst (.int 1))) (.var 7))])
def d_mended_b1_2 : St := .for_ (.v 14) (.rng [(.ite (.var 13) (.var 1) (.cst (.int 0)))]) d_mended_b0
def d_mended_b1_3 : St := .app 10 (.var 12)
def d_mended_b1 : List St := [d_mended_b1_0, d_mended_b1_1, d_mended_b1_2, d_mended_b1_3]
def d_mended_b2 : List St := [.own 10 (.lst []), .for_ (.v 11) (.var 9) d_mended_b1, .app 2 (.tup [(.var 6), (.var 7), (.var 8), (.blt .tuple [(.var 10)])])]
def d_mended : Def := ⟨2, 19, [.exp (.call 55 [(.var 0)] [] [.inl 0]), .exp (.call 66 [(.var 1)] [] [.inl 0]), .par [(2, true), (3, true)] [(.lst []), (.lst [])], .own 4 (.lc (.idx (.var 5) (.cst (.int 0))) (.v 5) (.var 0) (.cst (.bl true))), .for_ (.t [(.v 6), (.v 7), (.v 8), (.v 9)]) (.var 0) d_mended_b2, .set (.v 18) (.blt .tuple [(.bin .add (.var 2) (.var 3))]), .ret (.ite (.call 23 [(.var 18)] [] [.inl 0]) (.var 18) (.cst .non))]⟩
def d_law_pairs_b0 : List St := [.set (.v 4) (.bin .add (.var 4) (.lc (.tup [(.var 6), (.var 7)]) (.v 7) (.slc (.var 2) (.bin .add (.var 5) (.cst (.int 1))) (.cst .non)) (.cst (.bl true))))]
def d_law_pairs : Def := ⟨2, 8, [.set (.v 2) (.lc (.var 3) (.v 3) (.idx (.var 1) (.cst (.int 3))) (.cmp .eq (.idx (.call 241 [(.var 0), (.var 3)] [] [.inl 0, .inl 1]) (.cst (.int 1))) (.idx (.var 1) (.cst (.int 1))))), .set (.v 2) (.blt .sorted [(.lc (.var 3) (.v 3) (.var 2) (.cmp .isnot (.idx (.call 242 [(.var 0), (.var 3)] [] [.inl 0, .inl 1]) (.cst (.int 1))) (.cst .non)))]), .set (.v 4) (.lst []), .for_ (.t [(.v 5), (.v 6)]) (.enm (.var 2)) d_law_pairs_b0, .ret (.var 4)]⟩
def d_law_suspects_b0 : List St := [.set (.t [(.v 5), (.v 6)]) (.call 242 [(.var 0), (.var 4)] [] [.inl 0, .inl 1]), .ite (.cmp .ne (.idx (.call 241 [(.var 0), (.var 4)] [] [.inl 0, .inl 1]) (.cst (.int 1))) (.idx (.var 3) (.cst (.int 1)))) [.app 2 (.tup [(.cst (.str [98, 97, 114, 101])), (.idx (.var 3) (.cst (.int 0))), (.var 4)])] [.ite (.and [(.cmp .isnot (.var 6) (.cst .non)), (.cmp .lt (.var 5) (.var 1))]) [.app 2 (.tup [(.cst (.str [115, 104, 111, 114, 116])), (.idx (.var 3) (.cst (.int 0))), (.var 4)])] []]]
def d_law_suspects_b1 : List St := [.for_ (.v 4) (.idx (.var 3) (.cst (.int 3))) d_law_suspects_b0, .own 2 (.bin .add (.var 2) (.lc (.tup [(.cst (.str [112, 97, 114, 116, 101, 100])), (.idx (.var 3) (.cst (.int 0))), (.bin .add (.bin .add (.var 7) (.cst (.str [44]))) (.var 6))]) (.t [(.v 7), (.v 6)]) (.call 244 [(.var 0), (.var 3)] [] [.inl 0, .inl 1]) (.cst (.bl true))))]
def d_law_suspects : Def := ⟨2, 8, [.own 2 (.lst []), .for_ (.v 3) (.lc (.var 3) (.v 3) (.var 0) (.cmp .eq (.idx (.var 3) (.cst (.int 2))) (.cst (.str [108, 111, 103, 105, 99])))) d_law_suspects_b1, .ret (.blt .sorted [(.var 2)])]⟩
def d_law_no_k41 : Def := ⟨3, 4, [.try_ [.ite (.cmp .eq (.var 0) (.cst (.int 0))) [.exp (.call 84 [(.var 1)] [(.var 2)] [.inl 0, .inl 1])] [.exp (.call 48 [(.var 1)] [(.var 2)] [.inl 0, .inl 1])]] [(8, 3, [.ret (.efld 3 8)]), (0, 3, [.ret (.eis 3 3)])], .ret (.cst .non)]⟩
def d_law_mended_b0_0 : St := .set (.v 14) (.idx (.lc (.var 15) (.v 15) (.lc (.bin .add (.cst (.str [122])) (.blt .str [(.var 16)])) (.v 16) (.rng [(.cst (.int 40))]) (.cst (.bl true))) (.cmp .notin (.var 15) (.var 2))) (.cst (.int 0)))
def d_law_mended_b0_1 : St := .app 2 (.var 14)
def d_law_mended_b0_2 : St := .app 4 (.tup [(.var 14), (.var 7), (.cst (.str [104, 111, 108, 100, 101, 114])), (.tup [(.var 12)])])
def d_law_mended_b0_3 : St := .set (.v 12) (.var 14)
def d_law_mended_b0 : List St := [d_law_mended_b0_0, d_law_mended_b0_1, d_law_mended_b0_2, d_law_mended_b0_3]
def d_law_mended_b1 : List St := [.set (.v 12) (.var 11), .ite (.and [(.cmp .eq (.var 8) (.cst (.str [108, 111, 103, 105, 99]))), (.cmp .ne (.idx (.call 241 [(.var 0), (.var 11)] [] [.inl 0, .inl 1]) (.cst (.int 1))) (.var 7))]) [.for_ (.v 13) (.rng [(.var 1)]) d_law_mended_b0] [], .app 10 (.var 12)]
def d_law_mended_b2 : List St := [.own 10 (.lst []), .for_ (.v 11) (.var 9) d_law_mended_b1, .app 3 (.tup [(.var 6), (.var 7), (.var 8), (.blt .tuple [(.var 10)])])]
def d_law_mended : Def := ⟨2, 17, [.par [(2, true), (3, true), (4, true)] [(.lc (.idx (.var 5) (.cst (.int 0))) (.v 5) (.var 0) (.cst (.bl true))), (.lst []), (.lst [])], .for_ (.t [(.v 6), (.v 7), (.v 8), (.v 9)]) (.var 0) d_law_mended_b2, .ret (.blt .tuple [(.bin .add (.var 3) (.var 4))])]⟩
def d_origins_b0 : List St := [.app 1 (.tup [(.idx (.call 10 [(.var 0), (.var 3)] [] [.inl 0, .inl 1]) (.cst (.int 1))), (.idx (.call 10 [(.var 0), (.var 4)] [] [.inl 0, .inl 1]) (.cst (.int 1)))])]
def d_origins_b1 : List St := [.ite (.cmp .eq (.idx (.var 2) (.cst (.int 2))) (.cst (.str [108, 111, 103, 105, 99]))) [.for_ (.t [(.v 3), (.v 4)]) (.call 71 [(.var 0), (.var 2)] [] [.inl 0, .inl 1]) d_origins_b0] []]
def d_origins : Def := ⟨1, 5, [.own 1 (.lst []), .for_ (.v 2) (.var 0) d_origins_b1, .frz 1, .ret (.var 1)]⟩
def d_law_reading : Def := ⟨6, 8, [.set (.v 6) (.idx (.call 241 [(.var 1), (.var 3)] [] [.inl 0, .inl 1]) (.cst (.int 1))), .ite (.cmp .eq (.var 6) (.idx (.var 2) (.cst (.int 1)))) [.ret (.tup [(.idx (.idx (.var 0) (.cst (.str [98, 105, 116, 115]))) (.var 3)), (.blt .max2 [(.cst (.int 0)), (.bin .sub (.idx (.idx (.var 0) (.cst (.str [108, 101, 102, 116]))) (.var 3)) (.cst (.int 1)))])])] [], .set (.v 7) (.cmp .isin (.tup [(.var 3), (.idx (.var 2) (.cst (.int 1)))]) (.idx (.var 0) (.cst (.str [102, 114, 101, 115, 104])))), .ite (.and [(.not (.var 7)), (.cmp .eq (.idx (.idx (.var 0) (.cst (.str [108, 101, 102, 116]))) (.var 3)) (.cst (.int 0)))]) [.ret (.tup [(.idx (.idx (.var 0) (.cst (.str [98, 105, 116, 115]))) (.var 3)), (.cst (.int 0))])] [], .ret (.tup [(.ite (.and [(.var 7), (.cmp .isin (.idx (.var 2) (.cst (.int 0))) (.var 4))]) (.idx (.idx (.var 0) (.cst (.str [119, 97, 115]))) (.var 3)) (.idx (.idx (.var 0) (.cst (.str [98, 105, 116, 115]))) (.var 3))), (.var 5)])]⟩
def d_law_wrong_b0 : List St := [.ite (.cmp .gt (.idx (.idx (.var 3) (.var 5)) (.cst (.int 1))) (.cst (.int 0))) [.app 4 (.tup [(.ite (.cmp .eq (.idx (.call 241 [(.var 1), (.var 5)] [] [.inl 0, .inl 1]) (.cst (.int 1))) (.idx (.var 2) (.cst (.int 1)))) (.cst (.str [115, 104, 111, 114, 116])) (.cst (.str [98, 97, 114, 101]))), (.idx (.var 2) (.cst (.int 0))), (.var 5)])] []]
def d_law_wrong_b1 : List St := [.ite (.cmp .notin (.tup [(.idx (.idx (.var 3) (.var 6)) (.cst (.int 0))), (.idx (.idx (.var 3) (.var 7)) (.cst (.int 0)))]) (.idx (.idx (.var 0) (.cst (.str [115, 101, 101, 110]))) (.tup [(.var 6), (.var 7)]))) [.app 4 (.tup [(.cst (.str [112, 97, 114, 116, 101, 100])), (.idx (.var 2) (.cst (.int 0))), (.bin .add (.bin .add (.var 6) (.cst (.str [44]))) (.var 7))])] []]
def d_law_wrong : Def := ⟨4, 8, [.own 4 (.lst []), .for_ (.v 5) (.idx (.var 2) (.cst (.int 3))) d_law_wrong_b0, .for_ (.t [(.v 6), (.v 7)]) (.call 244 [(.var 1), (.var 2)] [] [.inl 0, .inl 1]) d_law_wrong_b1, .frz 4, .ret (.var 4)]⟩
def d_law_deed_b0 : List St := [.ite (.cmp .eq (.drawn 0 (.bin .add (.bin .add (.var 1) (.cst (.int 1))) (.var 8)) (.cst (.int 2))) (.cst (.int 0))) [.ite (.cmp .eq (.idx (.var 7) (.cst (.int 2))) (.cst (.str [115, 111, 117, 114, 99, 101]))) [.app 5 (.idx (.var 7) (.cst (.int 0)))] [.app 6 (.idx (.var 7) (.cst (.int 0)))]] []]
def d_law_deed : Def := ⟨3, 9, [.set (.v 3) (.idx (.idx (.var 2) (.drawn 0 (.var 1) (.blt .len [(.var 2)]))) (.cst (.int 1))), .par [(4, false), (5, true), (6, true)] [(.lc (.var 7) (.v 7) (.var 2) (.cmp .eq (.idx (.var 7) (.cst (.int 1))) (.var 3))), (.lst []), (.lst [])], .for_ (.t [(.v 8), (.v 7)]) (.enm (.var 4)) d_law_deed_b0, .ret (.tup [(.var 3), (.blt .tuple [(.blt .sorted [(.var 5)])]), (.blt .tuple [(.blt .sorted [(.var 6)])])])]⟩
def d_law_values_b0 : List St := [.app 1 (.tup [(.var 2), (.ite (.cmp .eq (.idx (.idx (.var 0) (.cst (.str [108, 101, 102, 116]))) (.var 2)) (.cst (.int 0))) (.idx (.idx (.var 0) (.cst (.str [98, 105, 116, 115]))) (.var 2)) (.cst .non))])]
def d_law_values : Def := ⟨1, 3, [.own 1 (.lst []), .for_ (.v 2) (.blt .sorted [(.idx (.var 0) (.cst (.str [98, 105, 116, 115])))]) d_law_values_b0, .frz 1, .ret (.var 1)]⟩
def d_Stand___init__ : Def := ⟨6, 6, [.as1 (.f (.var 0) 4) (.var 1), .as1 (.f (.var 0) 12) (.var 2), .as1 (.f (.var 0) 24) (.var 3), .as1 (.f (.var 0) 8) (.var 4), .as1 (.f (.var 0) 18) (.var 5)]⟩
def d_Stand_key : Def := ⟨1, 1, [.exp (.call 1 [(.cst (.int 0))] [] [.inl 0])]⟩
def d_Board___len__ : Def := ⟨1, 1, [.ret (.blt .len [(.idx (.fld 10 (.var 0)) (.cst (.int 1)))])]⟩
def d_Board_need_some : Def := ⟨4, 7, [.set (.v 4) (.lc (.idx (.var 5) (.cst (.int 0))) (.v 5) (.fld 5 (.var 0)) (.and [(.cmp .eq (.idx (.var 5) (.cst (.int 1))) (.var 2)), (.cmp .isin (.idx (.var 5) (.cst (.int 2))) (.var 3))])), .ite (.or [(.not (.isi (.var 1) .tuple)), (.not (.blt .all [(.lc (.and [(.isi (.var 6) .str), (.cmp .isin (.var 6) (.var 4))]) (.v 6) (.var 1) (.cst (.bl true)))]))]) [.rse 5 (.cst (.str [110, 111, 32, 114, 111, 119, 115]))] [], .ite (.cmp .lt (.lset (.var 1)) (.blt .len [(.var 1)])) [.rse 5 (.cst (.str [111, 110, 101, 32, 116, 119, 105, 99, 101]))] []]⟩
def d_Board_wrongs : Def := ⟨1, 4, [.ret (.lc2 (.bin .add (.tup [(.var 1)]) (.var 3)) (.t [(.v 1), (.v 2)]) (.enm (.idx (.fld 10 (.var 0)) (.cst (.int 2)))) (.v 3) (.var 2) (.cst (.bl true)))]⟩
def d_Board_log : Def := ⟨1, 1, [.ret (.blt .list [(.idx (.fld 10 (.var 0)) (.cst (.int 1)))])]⟩
def d_Board_back : Def := ⟨1, 2, [.ite (.cmpC .eq (.fld 7 (.var 0)) (.lst [])) [.rse 1 (.cst (.str [110, 111, 116, 104, 105, 110, 103, 32, 116, 111, 32, 116, 97, 107, 101, 32, 98, 97, 99, 107]))] [], .set (.v 1) (.idx (.idx (.fld 10 (.var 0)) (.cst (.int 1))) (.neg (.cst (.int 1)))), .capp (.fld 23 (.var 0)) (.fld 10 (.var 0)), .as1 (.f (.var 0) 10) (.cpop false (.fld 7 (.var 0))), .ret (.var 1)]⟩
def d_Board_forth : Def := ⟨1, 1, [.exp (.call 1 [(.cst (.int 1))] [] [.inl 0])]⟩
def d_Board_counts : Def := ⟨1, 1, [.ret (.tup [(.bltC .len (.fld 7 (.var 0))), (.bltC .len (.fld 23 (.var 0)))])]⟩
def d_Board_twin : Def := ⟨1, 1, [.exp (.call 1 [(.cst (.int 2))] [] [.inl 0])]⟩
def d_parts_b0 : List St := [.set (.v 1) (.bin .add (.var 1) (.lc (.bin .add (.var 3) (.tup [(.var 2)])) (.v 3) (.var 1) (.cst (.bl true))))]
def d_parts : Def := ⟨1, 4, [.set (.v 1) (.lst [(.tup [])]), .for_ (.v 2) (.var 0) d_parts_b0, .ret (.var 1)]⟩
def d_need_many : Def := ⟨1, 1, [.ite (.or [(.not (.isi (.var 0) .int)), (.isi (.var 0) .bool), (.not (.chn .le .le (.cst (.int 0)) (.var 0) (.cst (.int 9))))]) [.rse 5 (.cst (.str [110, 111, 32, 110, 117, 109, 98, 101, 114, 32, 111, 102, 32, 116, 105, 99, 107, 115]))] []]⟩
def d_law_all_deeds_b0 : List St := [.ite (.cmp .ne (.lc (.var 6) (.v 6) (.idx (.var 3) (.cst (.int 3))) (.cmp .ne (.idx (.call 241 [(.var 0), (.var 6)] [] [.inl 0, .inl 1]) (.cst (.int 1))) (.var 2))) (.lst [])) [.app 5 (.idx (.var 3) (.cst (.int 0)))] []]
def d_law_all_deeds_b1 : List St := [.set (.v 8) (.lc (.var 6) (.t [(.v 9), (.v 6)]) (.enm (.var 5)) (.cmp .eq (.bin .mod (.bin .fdiv (.var 7) (.bin .shl (.cst (.int 1)) (.var 9))) (.cst (.int 2))) (.cst (.int 1)))), .set (.v 10) (.blt .tuple [(.lc (.var 6) (.v 6) (.var 8) (.cmp .eq (.idx (.call 241 [(.var 0), (.var 6)] [] [.inl 0, .inl 1]) (.cst (.int 2))) (.cst (.str [115, 111, 117, 114, 99, 101]))))]), .app 1 (.tup [(.var 2), (.var 10), (.blt .tuple [(.lc (.var 6) (.v 6) (.var 8) (.cmp .notin (.var 6) (.var 10)))])])]
def d_law_all_deeds_b2_0 : St := .set (.v 4) (.lc (.var 3) (.v 3) (.var 0) (.cmp .eq (.idx (.var 3) (.cst (.int 1))) (.var 2)))
def d_law_all_deeds_b2_1 : St := .own 5 (.lc (.idx (.var 3) (.cst (.int 0))) (.v 3) (.var 4) (.cmp .eq (.idx (.var 3) (.cst (.int 2))) (.cst (.str [115, 111, 117, 114, 99, 101]))))
def d_law_all_deeds_b2_2 : St := .for_ (.v 3) (.var 4) d_law_all_deeds_b0
def d_law_all_deeds_b2_3 : St := .for_ (.v 7) (.rng [(.bin .shl (.cst (.int 1)) (.blt .len [(.var 5)]))]) d_law_all_deeds_b1
def d_law_all_deeds_b2 : List St := [d_law_all_deeds_b2_0, d_law_all_deeds_b2_1, d_law_all_deeds_b2_2, d_law_all_deeds_b2_3]
def d_law_all_deeds : Def := ⟨1, 11, [.own 1 (.lst []), .for_ (.v 2) (.sset (.lc (.idx (.var 3) (.cst (.int 1))) (.v 3) (.var 0) (.cst (.bl true)))) d_law_all_deeds_b2, .frz 1, .ret (.var 1)]⟩
def d_Board_readout : Def := ⟨1, 1, [.exp (.call 1 [(.cst (.int 0))] [] [.inl 0])]⟩
def d_is_names : Def := ⟨1, 2, [.ret (.and [(.isi (.var 0) .tuple), (.blt .all [(.lc (.call 28 [(.var 1)] [] [.inl 0]) (.v 1) (.var 0) (.cst (.bl true)))])])]⟩
def d_is_tick : Def := ⟨1, 1, [.ite (.or [(.not (.isi (.var 0) .tuple)), (.cmp .ne (.blt .len [(.var 0)]) (.cst (.int 3))), (.not (.call 27 [(.idx (.var 0) (.cst (.int 0)))] [] [.inl 0]))]) [.ret (.cst (.bl false))] [], .ret (.and [(.call 29 [(.idx (.var 0) (.cst (.int 1)))] [] [.inl 0]), (.call 29 [(.idx (.var 0) (.cst (.int 2)))] [] [.inl 0])])]⟩
def d_need_deeds : Def := ⟨1, 2, [.ite (.or [(.not (.isi (.var 0) .list)), (.not (.blt .all [(.lc (.call 37 [(.var 1)] [] [.inl 0]) (.v 1) (.var 0) (.cst (.bl true)))]))]) [.rse 6 (.cst (.str [110, 111, 32, 116, 105, 99, 107, 115]))] []]⟩
def d_law_spoilt : Def := ⟨3, 6, [.set (.v 3) (.drawn 0 (.var 1) (.bin .add (.blt .len [(.var 2)]) (.cst (.int 1)))), .set (.v 4) (.idx (.cst (.str [115, 48, 103, 49, 32, 44, 45, 10, 97, 98, 65])) (.drawn 0 (.bin .add (.var 1) (.cst (.int 1))) (.cst (.int 11)))), .set (.v 5) (.drawn 0 (.bin .add (.var 1) (.cst (.int 2))) (.cst (.int 5))), .ite (.cmp .eq (.var 5) (.cst (.int 0))) [.ret (.bin .add (.bin .add (.slc (.var 2) (.cst .non) (.var 3)) (.var 4)) (.slc (.var 2) (.var 3) (.cst .non)))] [], .ite (.cmp .eq (.var 5) (.cst (.int 1))) [.ret (.bin .add (.slc (.var 2) (.cst .non) (.var 3)) (.slc (.var 2) (.bin .add (.var 3) (.cst (.int 1))) (.cst .non)))] [], .ite (.cmp .eq (.var 5) (.cst (.int 2))) [.ret (.bin .add (.bin .add (.slc (.var 2) (.cst .non) (.var 3)) (.var 4)) (.slc (.var 2) (.bin .add (.var 3) (.cst (.int 1))) (.cst .non)))] [], .ret (.ite (.cmp .eq (.var 5) (.cst (.int 3))) (.bin .add (.var 2) (.slc (.var 2) (.cst .non) (.var 3))) (.slc (.var 2) (.cst .non) (.neg (.cst (.int 1)))))]⟩
def gtb : List (Nat × Def) := [(30, d_is_number), (27, d_is_letter), (24, d_is_clock), (56, d_need_clock), (9, d_can_tick), (38, d_is_ticks), (54, d_need_bits), (86, d_ticks_by), (200, d_law_clock), (201, d_law_ticks), (202, d_law_no), (62, d_need_number), (15, d_fewest_ticks), (51, d_most_ticks), (203, d_law_rows), (204, d_law_no_k02), (67, d_need_ticks), (49, d_merged), (205, d_law_no_k04), (20, d_how_many_ticks), (39, d_leads), (3, d_all_ticks), (206, d_law_no_k05), (57, d_need_code), (19, d_gray), (88, d_ungray), (69, d_ones), (4, d_are_near), (8, d_bits_of), (78, d_ring), (50, d_mixtures), (207, d_law_bits), (208, d_law_no_k10), (22, d_is_change), (26, d_is_history), (59, d_need_history), (61, d_need_moment), (82, d_stands), (44, d_loose), (90, d_word_at), (18, d_free_bits), (36, d_is_sure), (5, d_around), (73, d_read_by), (45, d_made_history), (209, d_law_history), (210, d_law_stands), (211, d_law_loose), (212, d_law_coded), (213, d_law_reads_so), (214, d_law_ask), (215, d_law_no_k17), (68, d_needed), (21, d_is_bit_history), (64, d_need_row), (16, d_first_held), (33, d_is_settled), (80, d_row_reads), (89, d_unsettled), (216, d_law_reads), (217, d_law_sharp), (218, d_law_no_k22), (219, d_law_side), (221, d_law_read), (223, d_law_can), (1041, d_Signal___init__), (1044, d_Signal_turn), (1042, d_Signal_read), (1043, d_Signal_shown), (1031, d_Shake___init__), (1034, d_Shake_is_ready), (1035, d_Shake_send), (1037, d_Shake_tick_a), (1038, d_Shake_tick_b), (1036, d_Shake_tick), (1033, d_Shake_flags), (1040, d_Shake_words_sent), (1039, d_Shake_words_got), (1032, d_Shake___len__), (41, d_led_over), (225, d_law_led), (226, d_law_no_k27), (1, d_wall), (63, d_need_queue), (227, d_law_gray), (228, d_law_mark), (229, d_law_view), (230, d_law_pass), (1012, d_Mark___init__), (1017, d_Mark_twin), (1013, d_Mark_code), (1016, d_Mark_step), (1018, d_Mark_view), (1014, d_Mark_pass_on), (1015, d_Mark_shown), (1019, d_Queue___init__), (1022, d_Queue_is_full), (1021, d_Queue_is_empty), (1025, d_Queue_need_mask), (1030, d_Queue_write), (1027, d_Queue_read), (1023, d_Queue_level), (1029, d_Queue_views), (1026, d_Queue_put), (1028, d_Queue_taken), (1024, d_Queue_marks), (1020, d_Queue___len__), (35, d_is_side), (42, d_led_through), (233, d_law_drained), (234, d_law_safe), (235, d_law_no_k32), (65, d_need_small), (7, d_begun), (46, d_mark_of), (34, d_is_shown), (236, d_law_view_of), (237, d_law_moves), (238, d_law_right), (28, d_is_name), (32, d_is_row), (79, d_row_of), (23, d_is_chip), (55, d_need_chip), (10, d_chain), (11, d_chain_of), (240, d_law_chip), (241, d_law_row), (242, d_law_chain), (243, d_law_no_k40), (66, d_need_steps), (40, d_led), (71, d_pairs), (84, d_suspects), (48, d_mended), (244, d_law_pairs), (245, d_law_suspects), (246, d_law_no_k41), (247, d_law_mended), (70, d_origins), (249, d_law_reading), (250, d_law_wrong), (252, d_law_deed), (253, d_law_values), (1045, d_Stand___init__), (1046, d_Stand_key), (1002, d_Board___len__), (1007, d_Board_need_some), (1011, d_Board_wrongs), (1006, d_Board_log), (1003, d_Board_back), (1005, d_Board_forth), (1004, d_Board_counts), (1010, d_Board_twin), (72, d_parts), (60, d_need_many), (258, d_law_all_deeds), (1008, d_Board_readout), (29, d_is_names), (37, d_is_tick), (58, d_need_deeds), (261, d_law_spoilt)]
/-- the defs of all laws, and one law -/
def mk (dl : Def) (i : Nat) : Option Def := if i = 2000 then some dl else gtb.lookup i
end Mi

set_option maxRecDepth 100000
set_option maxHeartbeats 4000000
namespace Mi
def d_law_b0_0 : St := .ite (.and [(.cmpC .ne (.var 7) (.lst [])), (.meth 1 1034 (.var 3) [] [] [.inl 0])]) [.ite (.cmp .ne (.ilen 1 1032 (.var 3)) (.cst (.int 0))) [.ret (.cst (.bl false))] [], .exp (.meth 1 1035 (.var 3) [(.cpop true (.var 7))] [] [.inl 0, .inl 1])] []
def d_law_b0_1 : St := .par [(9, false), (10, false)] [(.idx (.cst (.str [98, 97])) (.blt .int [(.cmp .lt (.drawn 0 (.bin .add (.cst (.int 20)) (.var 6)) (.cst (.int 10))) (.var 4))])), (.cmp .eq (.drawn 0 (.bin .add (.cst (.int 90)) (.var 6)) (.cst (.int 2))) (.cst (.int 0)))]
def d_law_b0_2 : St := .set (.v 11) (.blt .len [(.meth 1 1039 (.var 3) [] [] [.inl 0])])
def d_law_b0_3 : St := .set (.v 12) (.meth 1 1036 (.var 3) [(.var 9)] [(.var 10)] [.inl 0, .inl 1, .inl 2])
def d_law_b0_4 : St := .app 8 (.tup [(.var 9), (.var 10)])
def d_law_b0_5 : St := .ite (.cmp .ne (.cmp .is (.var 12) (.cst .non)) (.cmp .eq (.blt .len [(.meth 1 1039 (.var 3) [] [] [.inl 0])]) (.var 11))) [.ret (.cst (.bl false))] []
def d_law_b0_6 : St := .ite (.and [(.cmp .isnot (.var 12) (.cst .non)), (.or [(.cmp .ne (.var 9) (.cst (.str [98]))), (.cmp .ne (.idx (.meth 1 1039 (.var 3) [] [] [.inl 0]) (.neg (.cst (.int 1)))) (.var 12))])]) [.ret (.cst (.bl false))] []
def d_law_b0_7 : St := .par [(13, false), (14, false)] [(.meth 1 1040 (.var 3) [] [] [.inl 0]), (.meth 1 1039 (.var 3) [] [] [.inl 0])]
def d_law_b0_8 : St := .ite (.or [(.cmp .ne (.var 14) (.slc (.var 13) (.cst .non) (.blt .len [(.var 14)]))), (.cmp .notin (.bin .sub (.blt .len [(.var 13)]) (.blt .len [(.var 14)])) (.tup [(.cst (.int 0)), (.cst (.int 1))]))]) [.ret (.cst (.bl false))] []
def d_law_b0_9 : St := .ite (.cmp .ne (.ilen 1 1032 (.var 3)) (.bin .sub (.blt .len [(.var 13)]) (.blt .len [(.var 14)]))) [.ret (.cst (.bl false))] []
def d_law_b0 : List St := [d_law_b0_0, d_law_b0_1, d_law_b0_2, d_law_b0_3, d_law_b0_4, d_law_b0_5, d_law_b0_6, d_law_b0_7, d_law_b0_8, d_law_b0_9]
def d_law_0 : St := .par [(1, false), (2, false)] [(.bin .add (.cst (.int 1)) (.drawn 0 (.cst (.int 0)) (.cst (.int 4)))), (.idx (.lst [(.cst (.int 2)), (.cst (.int 4))]) (.drawn 0 (.cst (.int 1)) (.cst (.int 2))))]
def d_law_1 : St := .par [(3, false), (4, false)] [(.mk 1 1031 [] [(.var 1), (.var 2)] [.inl 0, .inl 1, .inl 2]), (.bin .add (.cst (.int 1)) (.drawn 0 (.cst (.int 2)) (.cst (.int 9))))]
def d_law_2 : St := .set (.v 5) (.lc (.drawn 0 (.bin .add (.cst (.int 10)) (.var 6)) (.cst (.int 256))) (.v 6) (.rng [(.bin .add (.cst (.int 1)) (.drawn 0 (.cst (.int 3)) (.cst (.int 6))))]) (.cst (.bl true)))
def d_law_3 : St := .par [(7, false), (8, true)] [(.new (.bltC .list (.var 5))), (.lst [])]
def d_law_4 : St := .for_ (.v 6) (.rng [(.bin .add (.cst (.int 30)) (.drawn 0 (.cst (.int 4)) (.cst (.int 30))))]) d_law_b0
def d_law_5 : St := .frz 8
def d_law_6 : St := .ite (.cmp .ne (.call 41 [(.var 5), (.var 8)] [(.var 1), (.var 2)] [.inl 0, .inl 1, .inl 2, .inl 3]) (.meth 1 1039 (.var 3) [] [] [.inl 0])) [.ret (.cst (.bl false))] []
def d_law_7 : St := .ite (.cmp .ne (.binC .add (.meth 1 1040 (.var 3) [] [] [.inl 0]) (.var 7)) (.var 5)) [.ret (.cst (.bl false))] []
def d_law_8 : St := .ret (.call 225 [(.var 3), (.var 5), (.var 7), (.var 1)] [] [.inl 0, .inl 1, .inl 2, .inl 3])
def d_law : Def := ⟨1, 15, [d_law_0, d_law_1, d_law_2, d_law_3, d_law_4, d_law_5, d_law_6, d_law_7, d_law_8]⟩
abbrev fn : Nat → Option Def := mk d_law
end Mi

set_option maxRecDepth 100000
set_option maxHeartbeats 4000000
namespace Mi
open PySem PySem.Spec PyProof.Rows
open L2 (SqL upd upd_same upd_ne FunD FnOk FnScope V Hp VK XK pv pe_op pe_int ps_set ps_if ps_ret ps_while pss_cons pss_one pss_nil pt_cmpR pw_and pw_and1 nomark pe_ix ix_list pe_callB call_len_seq pa_cons pa_nil pe_lst op_mul op_mod op_fdiv op_fdivW op_pow op_ge op_gt op_lt op_add op_sub op_neD defScope defBody defArgs)
def topS (i : Nat) : Stmt := PySem.Challenge.pw_driftgates_k26_whole_shakes.main.body.getD i (.Pass ⟨0, 0, 0, 0⟩)
def cns : List (Str × D) := [("MOST_WORD", (.int 255)), ("SIDES", (.tup [(.str [97]), (.str [98])]))]
def shp : List Shp := [⟨"is_number", 30, 3, [], [.inl 0, .inl 1, .inl 2]⟩, ⟨"led_over", 41, 2, ["steps"], [.inl 0, .inl 1, .inl 2, .inr (.int 2)]⟩, ⟨"led_over", 41, 2, ["steps", "phases"], [.inl 0, .inl 1, .inl 2, .inl 3]⟩, ⟨"_law_led", 225, 4, [], [.inl 0, .inl 1, .inl 2, .inl 3]⟩, ⟨"need_number", 62, 1, ["which", "least", "most"], [.inl 0, .inl 1, .inl 2, .inl 3]⟩, ⟨"need_number", 62, 1, ["which", "most"], [.inl 0, .inl 1, .inr (.int 0), .inl 2]⟩]
def xcl : List (Str × Nat) := [("GateError", 0), ("NoNumber", 8), ("NoDeed", 5), ("Waiting", 11)]
def fdN : List Str := ["answer", "ask", "asked", "bit", "bits", "chip", "coded", "done", "fresh", "got", "here", "is_fresh", "left", "most", "number", "phases", "put_mark", "room", "seen", "sent", "size", "take_mark", "told", "undone", "was", "word", "words_in", "words_out"]
theorem fdN_nd : fdN.Nodup := by decide +kernel
def msh : List MShp := [⟨1, "is_ready", 1034, 0, [], [.inl 0]⟩, ⟨1, "send", 1035, 1, [], [.inl 0, .inl 1]⟩, ⟨1, "tick", 1036, 1, ["late"], [.inl 0, .inl 1, .inl 2]⟩, ⟨1, "words_got", 1039, 0, [], [.inl 0]⟩, ⟨1, "__len__", 1032, 0, [], [.inl 0]⟩, ⟨1, "words_sent", 1040, 0, [], [.inl 0]⟩, ⟨0, "turn", 1044, 1, [], [.inl 0, .inl 1]⟩, ⟨0, "read", 1042, 1, [], [.inl 0, .inl 1]⟩, ⟨1, "tick_a", 1037, 1, [], [.inl 0, .inl 1]⟩, ⟨1, "tick_b", 1038, 1, [], [.inl 0, .inl 1]⟩]
def ksh : List MShp := [⟨1, "Shake", 1031, 0, ["steps", "phases"], [.inl 0, .inl 1, .inl 2]⟩, ⟨0, "Signal", 1041, 1, [], [.inl 0, .inl 1]⟩]
def ed_is_number : Ent := ⟨30, "is_number", (topS 7), ["thing", "least", "most"], ["thing", "least", "most"], d_is_number, [], "is_number", []⟩
def ed_need_number : Ent := ⟨62, "need_number", (topS 8), ["thing", "which", "least", "most"], ["thing", "which", "least", "most"], d_need_number, [("least", (.int 0)), ("most", (.int 999))], "need_number", []⟩
def ed_led_over : Ent := ⟨41, "led_over", (topS 14), ["words", "ticks", "steps", "phases", "found", "word", "tick", "left", "side", "is_late"], ["words", "ticks", "steps", "phases"], d_led_over, [("steps", (.int 2)), ("phases", (.int 2))], "led_over", []⟩
def ed_law_led : Ent := ⟨225, "_law_led", (topS 17), ["_law_shake", "_law_words", "_law_left", "_law_depth", "_law_word", "_law_k", "_law_side", "_law_rounds"], ["_law_shake", "_law_words", "_law_left", "_law_depth"], d_law_led, [], "_law_led", []⟩
def ed_law : Ent := ⟨2000, "law", (topS 18), ["_law_script", "_law_depth", "_law_beats", "_law_shake", "_law_share", "_law_words", "_law_k", "_law_left", "_law_ticks", "_law_side", "_law_is_late", "_law_many", "_law_told", "_law_sent", "_law_got"], ["_law_script"], d_law, [], "law", []⟩
def ed_Signal___init__ : Ent := ⟨1041, "__init__", (clsAt (topS 12) 0), ["self", "steps", "step"], ["self", "steps"], d_Signal___init__, [], "Signal.__init__", []⟩
def ed_Signal_turn : Ent := ⟨1044, "turn", (clsAt (topS 12) 1), ["self", "bit"], ["self", "bit"], d_Signal_turn, [], "Signal.turn", []⟩
def ed_Signal_read : Ent := ⟨1042, "read", (clsAt (topS 12) 2), ["self", "is_late", "found", "first", "rest", "last"], ["self", "is_late"], d_Signal_read, [], "Signal.read", []⟩
def ed_Shake___init__ : Ent := ⟨1031, "__init__", (clsAt (topS 13) 0), ["self", "steps", "phases"], ["self", "steps", "phases"], d_Shake___init__, [("steps", (.int 2)), ("phases", (.int 2))], "Shake.__init__", []⟩
def ed_Shake_is_ready : Ent := ⟨1034, "is_ready", (clsAt (topS 13) 1), ["self"], ["self"], d_Shake_is_ready, [], "Shake.is_ready", []⟩
def ed_Shake_send : Ent := ⟨1035, "send", (clsAt (topS 13) 2), ["self", "word"], ["self", "word"], d_Shake_send, [], "Shake.send", []⟩
def ed_Shake_tick_a : Ent := ⟨1037, "tick_a", (clsAt (topS 13) 3), ["self", "is_late"], ["self", "is_late"], d_Shake_tick_a, [], "Shake.tick_a", []⟩
def ed_Shake_tick_b : Ent := ⟨1038, "tick_b", (clsAt (topS 13) 4), ["self", "is_late", "seen", "is_new"], ["self", "is_late"], d_Shake_tick_b, [], "Shake.tick_b", []⟩
def ed_Shake_tick : Ent := ⟨1036, "tick", (clsAt (topS 13) 5), ["self", "side", "late"], ["self", "side", "late"], d_Shake_tick, [("late", (.bl false))], "Shake.tick", []⟩
def ed_Shake_words_sent : Ent := ⟨1040, "words_sent", (clsAt (topS 13) 7), ["self"], ["self"], d_Shake_words_sent, [], "Shake.words_sent", []⟩
def ed_Shake_words_got : Ent := ⟨1039, "words_got", (clsAt (topS 13) 8), ["self"], ["self"], d_Shake_words_got, [], "Shake.words_got", []⟩
def ed_Shake___len__ : Ent := ⟨1032, "__len__", (clsAt (topS 13) 9), ["self"], ["self"], d_Shake___len__, [], "Shake.__len__", []⟩
def T : Tbl := ⟨[ed_is_number, ed_need_number, ed_led_over, ed_law_led, ed_law, ed_Signal___init__, ed_Signal_turn, ed_Signal_read, ed_Shake___init__, ed_Shake_is_ready, ed_Shake_send, ed_Shake_tick_a, ed_Shake_tick_b, ed_Shake_tick, ed_Shake_words_sent, ed_Shake_words_got, ed_Shake___len__], cns, shp, xcl, fdN, msh, ksh⟩
theorem okd_is_number : EntOk T fn ed_is_number := ⟨⟨rfl, rfl, rfl, by decide +kernel, rfl, by decide +kernel, by decide +kernel⟩, by decide +kernel, rfl, rfl, rfl⟩
theorem okd_need_number : EntOk T fn ed_need_number := ⟨⟨rfl, rfl, rfl, by decide +kernel, rfl, by decide +kernel, by decide +kernel⟩, by decide +kernel, rfl, rfl, rfl⟩
theorem okd_led_over : EntOk T fn ed_led_over := ⟨⟨rfl, rfl, rfl, by decide +kernel, rfl, by decide +kernel, by decide +kernel⟩, by decide +kernel, rfl, rfl, rfl⟩
theorem okd_law_led : EntOk T fn ed_law_led := ⟨⟨rfl, rfl, rfl, by decide +kernel, rfl, by decide +kernel, by decide +kernel⟩, by decide +kernel, rfl, rfl, rfl⟩
theorem okd_law : EntOk T fn ed_law := ⟨⟨rfl, rfl, rfl, by decide +kernel, rfl, by decide +kernel, by decide +kernel⟩, by decide +kernel, rfl, rfl, rfl⟩
theorem okd_Signal___init__ : EntOk T fn ed_Signal___init__ := ⟨⟨rfl, rfl, rfl, by decide +kernel, rfl, by decide +kernel, by decide +kernel⟩, by decide +kernel, rfl, rfl, rfl⟩
theorem okd_Signal_turn : EntOk T fn ed_Signal_turn := ⟨⟨rfl, rfl, rfl, by decide +kernel, rfl, by decide +kernel, by decide +kernel⟩, by decide +kernel, rfl, rfl, rfl⟩
theorem okd_Signal_read : EntOk T fn ed_Signal_read := ⟨⟨rfl, rfl, rfl, by decide +kernel, rfl, by decide +kernel, by decide +kernel⟩, by decide +kernel, rfl, rfl, rfl⟩
theorem okd_Shake___init__ : EntOk T fn ed_Shake___init__ := ⟨⟨rfl, rfl, rfl, by decide +kernel, rfl, by decide +kernel, by decide +kernel⟩, by decide +kernel, rfl, rfl, rfl⟩
theorem okd_Shake_is_ready : EntOk T fn ed_Shake_is_ready := ⟨⟨rfl, rfl, rfl, by decide +kernel, rfl, by decide +kernel, by decide +kernel⟩, by decide +kernel, rfl, rfl, rfl⟩
theorem okd_Shake_send : EntOk T fn ed_Shake_send := ⟨⟨rfl, rfl, rfl, by decide +kernel, rfl, by decide +kernel, by decide +kernel⟩, by decide +kernel, rfl, rfl, rfl⟩
theorem okd_Shake_tick_a : EntOk T fn ed_Shake_tick_a := ⟨⟨rfl, rfl, rfl, by decide +kernel, rfl, by decide +kernel, by decide +kernel⟩, by decide +kernel, rfl, rfl, rfl⟩
theorem okd_Shake_tick_b : EntOk T fn ed_Shake_tick_b := ⟨⟨rfl, rfl, rfl, by decide +kernel, rfl, by decide +kernel, by decide +kernel⟩, by decide +kernel, rfl, rfl, rfl⟩
theorem okd_Shake_tick : EntOk T fn ed_Shake_tick := ⟨⟨rfl, rfl, rfl, by decide +kernel, rfl, by decide +kernel, by decide +kernel⟩, by decide +kernel, rfl, rfl, rfl⟩
theorem okd_Shake_words_sent : EntOk T fn ed_Shake_words_sent := ⟨⟨rfl, rfl, rfl, by decide +kernel, rfl, by decide +kernel, by decide +kernel⟩, by decide +kernel, rfl, rfl, rfl⟩
theorem okd_Shake_words_got : EntOk T fn ed_Shake_words_got := ⟨⟨rfl, rfl, rfl, by decide +kernel, rfl, by decide +kernel, by decide +kernel⟩, by decide +kernel, rfl, rfl, rfl⟩
theorem okd_Shake___len__ : EntOk T fn ed_Shake___len__ := ⟨⟨rfl, rfl, rfl, by decide +kernel, rfl, by decide +kernel, by decide +kernel⟩, by decide +kernel, rfl, rfl, rfl⟩
theorem kbd_is_number_3 {K : PySem.W.Frag} {f : Addr} {fd : FuncData} (F : ed_is_number.At K f fd) : ∃ g, L2.KBn K fd ed_is_number.ps 3 [] g (fun vs zs => pickV (vs ++ zs) [.inl 0, .inl 1, .inl 2]) := kb_pos (n := 3) F fun kV doc pm an cdv ct us hl => match us, hl with | [_, _, _], _ => rfl
theorem kbd_led_over_2_steps {K : PySem.W.Frag} {f : Addr} {fd : FuncData} (F : ed_led_over.At K f fd) : ∃ g, L2.KBn K fd ed_led_over.ps 2 ["steps"] g (fun vs zs => pickV (vs ++ zs) [.inl 0, .inl 1, .inl 2, .inr (.int 2)]) := by
  refine kb_kw F [("phases", (.int 2))] (fun mv => match mv with | [m0] => [.inl 0, .inl 1, .inl 2, .inr m0] | _ => []) (by intro h; cases h) (by decide +kernel) (fun mv r => ?_) (fun D doc pm an cdv ct us mv ws h1 h2 h3 => ?_)
  · match mv, r with
    | [m0], .cons r0 .nil => exact .cons rfl (.cons rfl (.cons rfl (.cons r0 (.nil))))
  · match us, h1, mv, h2, ws, h3 with
    | [u0, u1], _, [m0], _, [w0], _ => exact ⟨_, _, _, _, _, _, rfl, rfl, rfl⟩
theorem kbd_led_over_2_steps_phases {K : PySem.W.Frag} {f : Addr} {fd : FuncData} (F : ed_led_over.At K f fd) : ∃ g, L2.KBn K fd ed_led_over.ps 2 ["steps", "phases"] g (fun vs zs => pickV (vs ++ zs) [.inl 0, .inl 1, .inl 2, .inl 3]) := by
  refine kb_kw F [] (fun mv => match mv with | [] => [.inl 0, .inl 1, .inl 2, .inl 3] | _ => []) (by intro h; cases h) (by decide +kernel) (fun mv r => ?_) (fun D doc pm an cdv ct us mv ws h1 h2 h3 => ?_)
  · match mv, r with
    | [], .nil => exact .cons rfl (.cons rfl (.cons rfl (.cons rfl (.nil))))
  · match us, h1, mv, h2, ws, h3 with
    | [u0, u1], _, [], _, [w0, w1], _ => exact rfl
theorem kbd_law_led_4 {K : PySem.W.Frag} {f : Addr} {fd : FuncData} (F : ed_law_led.At K f fd) : ∃ g, L2.KBn K fd ed_law_led.ps 4 [] g (fun vs zs => pickV (vs ++ zs) [.inl 0, .inl 1, .inl 2, .inl 3]) := kb_pos (n := 4) F fun kV doc pm an cdv ct us hl => match us, hl with | [_, _, _, _], _ => rfl
theorem kbd_need_number_1_which_least_most {K : PySem.W.Frag} {f : Addr} {fd : FuncData} (F : ed_need_number.At K f fd) : ∃ g, L2.KBn K fd ed_need_number.ps 1 ["which", "least", "most"] g (fun vs zs => pickV (vs ++ zs) [.inl 0, .inl 1, .inl 2, .inl 3]) := by
  refine kb_kw F [] (fun mv => match mv with | [] => [.inl 0, .inl 1, .inl 2, .inl 3] | _ => []) (by intro h; cases h) (by decide +kernel) (fun mv r => ?_) (fun D doc pm an cdv ct us mv ws h1 h2 h3 => ?_)
  · match mv, r with
    | [], .nil => exact .cons rfl (.cons rfl (.cons rfl (.cons rfl (.nil))))
  · match us, h1, mv, h2, ws, h3 with
    | [u0], _, [], _, [w0, w1, w2], _ => exact rfl
theorem kbd_need_number_1_which_most {K : PySem.W.Frag} {f : Addr} {fd : FuncData} (F : ed_need_number.At K f fd) : ∃ g, L2.KBn K fd ed_need_number.ps 1 ["which", "most"] g (fun vs zs => pickV (vs ++ zs) [.inl 0, .inl 1, .inr (.int 0), .inl 2]) := by
  refine kb_kw F [("least", (.int 0))] (fun mv => match mv with | [m0] => [.inl 0, .inl 1, .inr m0, .inl 2] | _ => []) (by intro h; cases h) (by decide +kernel) (fun mv r => ?_) (fun D doc pm an cdv ct us mv ws h1 h2 h3 => ?_)
  · match mv, r with
    | [m0], .cons r0 .nil => exact .cons rfl (.cons rfl (.cons r0 (.cons rfl (.nil))))
  · match us, h1, mv, h2, ws, h3 with
    | [u0], _, [m0], _, [w0, w1], _ => exact ⟨_, _, _, _, _, _, rfl, rfl, rfl⟩
theorem kbd_Shake_is_ready_1 {K : PySem.W.Frag} {f : Addr} {fd : FuncData} (F : ed_Shake_is_ready.At K f fd) : ∃ g, L2.KBn K fd ed_Shake_is_ready.ps 1 [] g (fun vs zs => pickV (vs ++ zs) [.inl 0]) := kb_pos (n := 1) F fun kV doc pm an cdv ct us hl => match us, hl with | [_], _ => rfl
theorem kbd_Shake_send_2 {K : PySem.W.Frag} {f : Addr} {fd : FuncData} (F : ed_Shake_send.At K f fd) : ∃ g, L2.KBn K fd ed_Shake_send.ps 2 [] g (fun vs zs => pickV (vs ++ zs) [.inl 0, .inl 1]) := kb_pos (n := 2) F fun kV doc pm an cdv ct us hl => match us, hl with | [_, _], _ => rfl
theorem kbd_Shake_tick_2_late {K : PySem.W.Frag} {f : Addr} {fd : FuncData} (F : ed_Shake_tick.At K f fd) : ∃ g, L2.KBn K fd ed_Shake_tick.ps 2 ["late"] g (fun vs zs => pickV (vs ++ zs) [.inl 0, .inl 1, .inl 2]) := by
  refine kb_kw F [] (fun mv => match mv with | [] => [.inl 0, .inl 1, .inl 2] | _ => []) (by intro h; cases h) (by decide +kernel) (fun mv r => ?_) (fun D doc pm an cdv ct us mv ws h1 h2 h3 => ?_)
  · match mv, r with
    | [], .nil => exact .cons rfl (.cons rfl (.cons rfl (.nil)))
  · match us, h1, mv, h2, ws, h3 with
    | [u0, u1], _, [], _, [w0], _ => exact rfl
theorem kbd_Shake_words_got_1 {K : PySem.W.Frag} {f : Addr} {fd : FuncData} (F : ed_Shake_words_got.At K f fd) : ∃ g, L2.KBn K fd ed_Shake_words_got.ps 1 [] g (fun vs zs => pickV (vs ++ zs) [.inl 0]) := kb_pos (n := 1) F fun kV doc pm an cdv ct us hl => match us, hl with | [_], _ => rfl
theorem kbd_Shake___len___1 {K : PySem.W.Frag} {f : Addr} {fd : FuncData} (F : ed_Shake___len__.At K f fd) : ∃ g, L2.KBn K fd ed_Shake___len__.ps 1 [] g (fun vs zs => pickV (vs ++ zs) [.inl 0]) := kb_pos (n := 1) F fun kV doc pm an cdv ct us hl => match us, hl with | [_], _ => rfl
theorem kbd_Shake_words_sent_1 {K : PySem.W.Frag} {f : Addr} {fd : FuncData} (F : ed_Shake_words_sent.At K f fd) : ∃ g, L2.KBn K fd ed_Shake_words_sent.ps 1 [] g (fun vs zs => pickV (vs ++ zs) [.inl 0]) := kb_pos (n := 1) F fun kV doc pm an cdv ct us hl => match us, hl with | [_], _ => rfl
theorem kbd_Signal_turn_2 {K : PySem.W.Frag} {f : Addr} {fd : FuncData} (F : ed_Signal_turn.At K f fd) : ∃ g, L2.KBn K fd ed_Signal_turn.ps 2 [] g (fun vs zs => pickV (vs ++ zs) [.inl 0, .inl 1]) := kb_pos (n := 2) F fun kV doc pm an cdv ct us hl => match us, hl with | [_, _], _ => rfl
theorem kbd_Signal_read_2 {K : PySem.W.Frag} {f : Addr} {fd : FuncData} (F : ed_Signal_read.At K f fd) : ∃ g, L2.KBn K fd ed_Signal_read.ps 2 [] g (fun vs zs => pickV (vs ++ zs) [.inl 0, .inl 1]) := kb_pos (n := 2) F fun kV doc pm an cdv ct us hl => match us, hl with | [_, _], _ => rfl
theorem kbd_Shake_tick_a_2 {K : PySem.W.Frag} {f : Addr} {fd : FuncData} (F : ed_Shake_tick_a.At K f fd) : ∃ g, L2.KBn K fd ed_Shake_tick_a.ps 2 [] g (fun vs zs => pickV (vs ++ zs) [.inl 0, .inl 1]) := kb_pos (n := 2) F fun kV doc pm an cdv ct us hl => match us, hl with | [_, _], _ => rfl
theorem kbd_Shake_tick_b_2 {K : PySem.W.Frag} {f : Addr} {fd : FuncData} (F : ed_Shake_tick_b.At K f fd) : ∃ g, L2.KBn K fd ed_Shake_tick_b.ps 2 [] g (fun vs zs => pickV (vs ++ zs) [.inl 0, .inl 1]) := kb_pos (n := 2) F fun kV doc pm an cdv ct us hl => match us, hl with | [_, _], _ => rfl
theorem kbd_Shake___init___1_steps_phases {K : PySem.W.Frag} {f : Addr} {fd : FuncData} (F : ed_Shake___init__.At K f fd) : ∃ g, L2.KBn K fd ed_Shake___init__.ps 1 ["steps", "phases"] g (fun vs zs => pickV (vs ++ zs) [.inl 0, .inl 1, .inl 2]) := by
  refine kb_kw F [] (fun mv => match mv with | [] => [.inl 0, .inl 1, .inl 2] | _ => []) (by intro h; cases h) (by decide +kernel) (fun mv r => ?_) (fun D doc pm an cdv ct us mv ws h1 h2 h3 => ?_)
  · match mv, r with
    | [], .nil => exact .cons rfl (.cons rfl (.cons rfl (.nil)))
  · match us, h1, mv, h2, ws, h3 with
    | [u0], _, [], _, [w0, w1], _ => exact rfl
theorem kbd_Signal___init___2 {K : PySem.W.Frag} {f : Addr} {fd : FuncData} (F : ed_Signal___init__.At K f fd) : ∃ g, L2.KBn K fd ed_Signal___init__.ps 2 [] g (fun vs zs => pickV (vs ++ zs) [.inl 0, .inl 1]) := kb_pos (n := 2) F fun kV doc pm an cdv ct us hl => match us, hl with | [_, _], _ => rfl
abbrev sDrawn : Stmt := topS 16
def nDr : List Str := ["_law_script", "_law_k", "_law_many", "_law_cell", "_law_turn", "_law_rest"]
theorem scDr : FnScope nDr ["_law_script", "_law_k", "_law_many"] (defScope sDrawn) := ⟨rfl, rfl, rfl, by decide +kernel, rfl, by decide +kernel, by decide +kernel⟩
section
variable {P : Program} {w : World} {K : PySem.W.Frag} {mg : Str → Option Value} {base : Heap}
theorem ok_drawn {L : Lt} {f : Addr} {fd : FuncData} (F : FunD K "_law_drawn" "_law_drawn" (defArgs sDrawn) (defBody sDrawn) (defScope sDrawn) [] [] f fd) (ml : mg "len" = none) (hK : L.G.K = K) (hd : L.F.dr = drM L.G.ns) (hns : L.G.ns.length ≤ 63) :
    FnOk P w K mg base (L2.CX P w) 1 f fd ["_law_script", "_law_k", "_law_many"] (spDr L) := by
  refine FunD.ok F scDr (fun vs H Q E h => ?_) (fun cdv A outer s H vs Q E hr h => ?_)
  · obtain ⟨k, m, rfl, _⟩ := h
    rfl
  · obtain ⟨k, m, rfl, hS, k0, k1, m0, m1, q⟩ := h
    rw [hK] at hS
    have hu : (L2.cxOf (L2.CX P w) P w K mg base nDr "_law_drawn" (defScope sDrawn) f cdv A outer s H E).A.units + 64 < cLine := hr.units
    refine ⟨_, pss_cons (ps_set (i := 3) scDr.nd rfl (.inl rfl) (pe_op op_mul pe_int (pv 1)))
      (pss_cons (ps_if (pt_cmpR (op_neD hu) (pv 0) (pe_lst pa_nil) (nomark _))
        (pss_cons (ps_set (i := 3) scDr.nd rfl (.inl rfl) (pe_ix ix_list (pv 0) (pe_op op_mod (pv 1) (pe_callB call_len_seq (by rfl) ml PySem.boot_len (pa_cons (pv 0) pa_nil))) (fun _ _ => rfl)))
        (pss_cons (ps_set (i := 4) scDr.nd rfl (.inl rfl) (pe_op op_fdiv (pv 1) (pe_callB call_len_seq (by rfl) ml PySem.boot_len (pa_cons (pv 0) pa_nil))))
        (pss_cons (ps_if (L2.PW.pt (pw_and (pt_cmpR op_ge (pv 3) (pe_op op_pow pe_int pe_int) (nomark _)) (pw_and1 (pt_cmpR op_lt (pv 4) pe_int (nomark _)))))
          (pss_cons (ps_set (i := 5) scDr.nd rfl (.inl rfl) (pe_op op_fdivW (pv 3) (pe_op op_pow pe_int pe_int)))
          (pss_cons (ps_while (L2.passes_of rfl) (L2.PW.pt (pw_and (pt_cmpR op_gt (pv 5) pe_int (nomark _)) (pw_and1 (pt_cmpR op_gt (pv 4) pe_int (nomark _)))))
            (pss_cons (ps_set (i := 5) scDr.nd rfl (.inl rfl) (pe_op op_fdiv (pv 5) pe_int)) (pss_one (ps_set (i := 4) scDr.nd rfl (.inl rfl) (pe_op op_sub (pv 4) pe_int)))))
          (pss_one (ps_if (pt_cmpR op_gt (pv 5) pe_int (nomark _)) (pss_one (ps_ret (pe_op op_mod (pe_op op_mod (pv 5) pe_int) (pv 2)))) pss_nil))))
          pss_nil)
        (pss_one (ps_set (i := 3) scDr.nd rfl (.inl rfl) (pe_op op_add (pv 3) (pe_op op_mul pe_int (pe_op op_fdiv (pv 1) (pe_callB call_len_seq (by rfl) ml PySem.boot_len (pa_cons (pv 0) pa_nil))))))))))
        pss_nil)
      (pss_cons (ps_set (i := 3) scDr.nd rfl (.inl rfl) (pe_op op_mod (pe_op op_add (pe_op op_mul (pe_op op_mod (pv 3) pe_int) pe_int) (pe_op op_mul pe_int (pe_op op_add (pv 1) pe_int))) pe_int))
      (pss_cons (ps_set (i := 3) scDr.nd rfl (.inl rfl) (pe_op op_mod (pe_op op_add (pe_op op_mul (pv 3) (pv 3)) (pe_op op_fdiv (pv 3) pe_int)) pe_int))
      (pss_one (ps_ret (pe_op op_mod (pe_op op_fdiv (pe_op op_mod (pe_op op_add (pe_op op_mul (pv 3) (pv 3)) (pe_op op_fdiv (pv 3) pe_int)) pe_int) pe_int) (pv 2))))))), ?_⟩
    exact drawn_read hS hns k0 k1 m0 (by rw [hd] at q; exact q)
end

abbrev sI8 : Stmt := initOf (topS 2)
theorem scI8 : FnScope ["self", "which"] ["self", "which"] (defScope sI8) := ⟨rfl, rfl, rfl, by decide +kernel, rfl, by decide +kernel, by decide +kernel⟩
theorem okI8 {P : Program} {w : World} {K : PySem.W.Frag} {mg : Str → Option Value} {base : Heap} {C f : Addr} {fd : FuncData} (F : FunD K "__init__" "NoNumber.__init__" (defArgs sI8) (defBody sI8) (defScope sI8) [] [] f fd) (T2 : L2.OexC K C) (hno : PySem.W.findIn K (.ref C) "which" = some none) :
    FnOk P w K mg base (L2.CX P w) 1 f fd ["self", "which"] (spInit C "which") := by
  refine FunD.ok F scI8 (fun vs H Q E h => ?_) (fun cdv A outer s H vs Q E hr h => ?_)
  · obtain ⟨a, v, rfl, _⟩ := h
    rfl
  · obtain ⟨a, v, rfl, ha, q⟩ := h
    refine ⟨_, pss_one (L2.ps_ost (pv 0) (pv 1)), ?_⟩
    exact ⟨v, rfl, .ref a, rfl, a, C, rfl, T2, hno, .inl ⟨ha, fun dx hn hne => q dx hn hne⟩⟩
abbrev sI11 : Stmt := initOf (topS 4)
theorem scI11 : FnScope ["self", "word"] ["self", "word"] (defScope sI11) := ⟨rfl, rfl, rfl, by decide +kernel, rfl, by decide +kernel, by decide +kernel⟩
theorem okI11 {P : Program} {w : World} {K : PySem.W.Frag} {mg : Str → Option Value} {base : Heap} {C f : Addr} {fd : FuncData} (F : FunD K "__init__" "Waiting.__init__" (defArgs sI11) (defBody sI11) (defScope sI11) [] [] f fd) (T2 : L2.OexC K C) (hno : PySem.W.findIn K (.ref C) "word" = some none) :
    FnOk P w K mg base (L2.CX P w) 1 f fd ["self", "word"] (spInit C "word") := by
  refine FunD.ok F scI11 (fun vs H Q E h => ?_) (fun cdv A outer s H vs Q E hr h => ?_)
  · obtain ⟨a, v, rfl, _⟩ := h
    rfl
  · obtain ⟨a, v, rfl, ha, q⟩ := h
    refine ⟨_, pss_one (L2.ps_ost (pv 0) (pv 1)), ?_⟩
    exact ⟨v, rfl, .ref a, rfl, a, C, rfl, T2, hno, .inl ⟨ha, fun dx hn hne => q dx hn hne⟩⟩
theorem all_mk {w : World} {K : PySem.W.Frag} {h : Heap} {mg : Str → Option Value} {fa : Addr} (X : K.In h) (G : h.Ns mainGlobals mg) (hfa : mg "law" = some (.ref fa))
    {KC0 : Addr} {KC1 : Addr} {f0 : Addr} {od0 an0 : Option Addr} {sl0 : Array (Option Value)} {oc0 kV0 dc0 pm0 cd0 ct0 : Value} {f1 D1 : Addr} {od1 an1 : Option Addr} {sl1 : Array (Option Value)} {oc1 dc1 pm1 cd1 ct1 : Value} {t1least : Nat} {t1most : Nat} {f2 D2 : Addr} {od2 an2 : Option Addr} {sl2 : Array (Option Value)} {oc2 dc2 pm2 cd2 ct2 : Value} {t2steps : Nat} {t2phases : Nat} {f3 : Addr} {od3 an3 : Option Addr} {sl3 : Array (Option Value)} {oc3 kV3 dc3 pm3 cd3 ct3 : Value} {f4 : Addr} {od4 an4 : Option Addr} {sl4 : Array (Option Value)} {oc4 kV4 dc4 pm4 cd4 ct4 : Value} {f5 : Addr} {od5 an5 : Option Addr} {sl5 : Array (Option Value)} {oc5 kV5 dc5 pm5 cd5 ct5 : Value} {f6 : Addr} {od6 an6 : Option Addr} {sl6 : Array (Option Value)} {oc6 kV6 dc6 pm6 cd6 ct6 : Value} {f7 : Addr} {od7 an7 : Option Addr} {sl7 : Array (Option Value)} {oc7 kV7 dc7 pm7 cd7 ct7 : Value} {f8 D8 : Addr} {od8 an8 : Option Addr} {sl8 : Array (Option Value)} {oc8 dc8 pm8 cd8 ct8 : Value} {t8steps : Nat} {t8phases : Nat} {f9 : Addr} {od9 an9 : Option Addr} {sl9 : Array (Option Value)} {oc9 kV9 dc9 pm9 cd9 ct9 : Value} {f10 : Addr} {od10 an10 : Option Addr} {sl10 : Array (Option Value)} {oc10 kV10 dc10 pm10 cd10 ct10 : Value} {f11 : Addr} {od11 an11 : Option Addr} {sl11 : Array (Option Value)} {oc11 kV11 dc11 pm11 cd11 ct11 : Value} {f12 : Addr} {od12 an12 : Option Addr} {sl12 : Array (Option Value)} {oc12 kV12 dc12 pm12 cd12 ct12 : Value} {f13 D13 : Addr} {od13 an13 : Option Addr} {sl13 : Array (Option Value)} {oc13 dc13 pm13 cd13 ct13 : Value} {f14 : Addr} {od14 an14 : Option Addr} {sl14 : Array (Option Value)} {oc14 kV14 dc14 pm14 cd14 ct14 : Value} {f15 : Addr} {od15 an15 : Option Addr} {sl15 : Array (Option Value)} {oc15 kV15 dc15 pm15 cd15 ct15 : Value} {f16 : Addr} {od16 an16 : Option Addr} {sl16 : Array (Option Value)} {oc16 kV16 dc16 pm16 cd16 ct16 : Value} {f17 : Addr} {od17 an17 : Option Addr} {sl17 : Array (Option Value)} {oc17 kV17 dc17 pm17 cd17 ct17 : Value} {tk0 : Nat} {ka1 : Addr} {kd1 : Option Addr} {kn1 : Nat} {ks1 : Array (Option Value)} {tk1_0 : Nat} {tk1_1 : Nat} {C0 : Addr} {C8 : Addr} {C5 : Addr} {C11 : Addr} {fI8 : Addr} {odI8 anI8 : Option Addr} {slI8 : Array (Option Value)} {ocI8 kVI8 dcI8 pmI8 cdI8 ctI8 : Value} {fI11 : Addr} {odI11 anI11 : Option Addr} {slI11 : Array (Option Value)} {ocI11 kVI11 dcI11 pmI11 cdI11 ctI11 : Value}
    (qa0 : PySem.W.nsIn K mainGlobals "Signal" = some (some (.ref KC0)))
    (qb0 : kcB K KC0 fdN = true)
    (qm0 : PySem.W.makesIn K KC0 = true)
    (qk0 : PySem.W.keepIn K (.ref KC0) = true)
    (qa1 : PySem.W.nsIn K mainGlobals "Shake" = some (some (.ref KC1)))
    (qb1 : kcB K KC1 fdN = true)
    (qm1 : PySem.W.makesIn K KC1 = true)
    (qk1 : PySem.W.keepIn K (.ref KC1) = true)
    (a0 : PySem.W.nsIn K mainGlobals "is_number" = some (some (.ref f0)))
    (l0 : K.lookup f0 = some ⟨oc0, od0, .func (PySem.W.fnOf "is_number" "is_number" (L2.defArgs (topS 7)) (L2.defBody (topS 7)) (L2.defScope (topS 7)) .none kV0 dc0 pm0 an0 cd0 ct0), sl0⟩)
    (c0 : PySem.W.codeIn K cd0 "is_number" = true)
    (k0 : PySem.W.keepIn K (.ref f0) = true)
    (a1 : PySem.W.nsIn K mainGlobals "need_number" = some (some (.ref f1)))
    (l1 : K.lookup f1 = some ⟨oc1, od1, .func (PySem.W.fnOf "need_number" "need_number" (L2.defArgs (topS 8)) (L2.defBody (topS 8)) (L2.defScope (topS 8)) .none (.ref D1) dc1 pm1 an1 cd1 ct1), sl1⟩)
    (c1 : PySem.W.codeIn K cd1 "need_number" = true)
    (k1 : PySem.W.keepIn K (.ref f1) = true)
    (w1least : PySem.W.nsIn K D1 "least" = some (some (.int 0 t1least)))
    (w1most : PySem.W.nsIn K D1 "most" = some (some (.int 999 t1most)))
    (a2 : PySem.W.nsIn K mainGlobals "led_over" = some (some (.ref f2)))
    (l2 : K.lookup f2 = some ⟨oc2, od2, .func (PySem.W.fnOf "led_over" "led_over" (L2.defArgs (topS 14)) (L2.defBody (topS 14)) (L2.defScope (topS 14)) .none (.ref D2) dc2 pm2 an2 cd2 ct2), sl2⟩)
    (c2 : PySem.W.codeIn K cd2 "led_over" = true)
    (k2 : PySem.W.keepIn K (.ref f2) = true)
    (w2steps : PySem.W.nsIn K D2 "steps" = some (some (.int 2 t2steps)))
    (w2phases : PySem.W.nsIn K D2 "phases" = some (some (.int 2 t2phases)))
    (a3 : PySem.W.nsIn K mainGlobals "_law_led" = some (some (.ref f3)))
    (l3 : K.lookup f3 = some ⟨oc3, od3, .func (PySem.W.fnOf "_law_led" "_law_led" (L2.defArgs (topS 17)) (L2.defBody (topS 17)) (L2.defScope (topS 17)) .none kV3 dc3 pm3 an3 cd3 ct3), sl3⟩)
    (c3 : PySem.W.codeIn K cd3 "_law_led" = true)
    (k3 : PySem.W.keepIn K (.ref f3) = true)
    (a4 : PySem.W.nsIn K mainGlobals "law" = some (some (.ref f4)))
    (l4 : K.lookup f4 = some ⟨oc4, od4, .func (PySem.W.fnOf "law" "law" (L2.defArgs (topS 18)) (L2.defBody (topS 18)) (L2.defScope (topS 18)) .none kV4 dc4 pm4 an4 cd4 ct4), sl4⟩)
    (c4 : PySem.W.codeIn K cd4 "law" = true)
    (k4 : PySem.W.keepIn K (.ref f4) = true)
    (a5 : PySem.W.findIn K (.ref KC0) "__init__" = some (some (.ref f5)))
    (n5 : PySem.W.isFn K (.ref f5) = true)
    (l5 : K.lookup f5 = some ⟨oc5, od5, .func (PySem.W.fnOf "__init__" "Signal.__init__" (L2.defArgs (clsAt (topS 12) 0)) (L2.defBody (clsAt (topS 12) 0)) (L2.defScope (clsAt (topS 12) 0)) .none kV5 dc5 pm5 an5 cd5 ct5), sl5⟩)
    (c5 : PySem.W.codeIn K cd5 "Signal.__init__" = true)
    (k5 : PySem.W.keepIn K (.ref f5) = true)
    (a6 : PySem.W.findIn K (.ref KC0) "turn" = some (some (.ref f6)))
    (n6 : PySem.W.isFn K (.ref f6) = true)
    (l6 : K.lookup f6 = some ⟨oc6, od6, .func (PySem.W.fnOf "turn" "Signal.turn" (L2.defArgs (clsAt (topS 12) 1)) (L2.defBody (clsAt (topS 12) 1)) (L2.defScope (clsAt (topS 12) 1)) .none kV6 dc6 pm6 an6 cd6 ct6), sl6⟩)
    (c6 : PySem.W.codeIn K cd6 "Signal.turn" = true)
    (k6 : PySem.W.keepIn K (.ref f6) = true)
    (a7 : PySem.W.findIn K (.ref KC0) "read" = some (some (.ref f7)))
    (n7 : PySem.W.isFn K (.ref f7) = true)
    (l7 : K.lookup f7 = some ⟨oc7, od7, .func (PySem.W.fnOf "read" "Signal.read" (L2.defArgs (clsAt (topS 12) 2)) (L2.defBody (clsAt (topS 12) 2)) (L2.defScope (clsAt (topS 12) 2)) .none kV7 dc7 pm7 an7 cd7 ct7), sl7⟩)
    (c7 : PySem.W.codeIn K cd7 "Signal.read" = true)
    (k7 : PySem.W.keepIn K (.ref f7) = true)
    (a8 : PySem.W.findIn K (.ref KC1) "__init__" = some (some (.ref f8)))
    (n8 : PySem.W.isFn K (.ref f8) = true)
    (l8 : K.lookup f8 = some ⟨oc8, od8, .func (PySem.W.fnOf "__init__" "Shake.__init__" (L2.defArgs (clsAt (topS 13) 0)) (L2.defBody (clsAt (topS 13) 0)) (L2.defScope (clsAt (topS 13) 0)) .none (.ref D8) dc8 pm8 an8 cd8 ct8), sl8⟩)
    (c8 : PySem.W.codeIn K cd8 "Shake.__init__" = true)
    (k8 : PySem.W.keepIn K (.ref f8) = true)
    (w8steps : PySem.W.nsIn K D8 "steps" = some (some (.int 2 t8steps)))
    (w8phases : PySem.W.nsIn K D8 "phases" = some (some (.int 2 t8phases)))
    (a9 : PySem.W.findIn K (.ref KC1) "is_ready" = some (some (.ref f9)))
    (n9 : PySem.W.isFn K (.ref f9) = true)
    (l9 : K.lookup f9 = some ⟨oc9, od9, .func (PySem.W.fnOf "is_ready" "Shake.is_ready" (L2.defArgs (clsAt (topS 13) 1)) (L2.defBody (clsAt (topS 13) 1)) (L2.defScope (clsAt (topS 13) 1)) .none kV9 dc9 pm9 an9 cd9 ct9), sl9⟩)
    (c9 : PySem.W.codeIn K cd9 "Shake.is_ready" = true)
    (k9 : PySem.W.keepIn K (.ref f9) = true)
    (a10 : PySem.W.findIn K (.ref KC1) "send" = some (some (.ref f10)))
    (n10 : PySem.W.isFn K (.ref f10) = true)
    (l10 : K.lookup f10 = some ⟨oc10, od10, .func (PySem.W.fnOf "send" "Shake.send" (L2.defArgs (clsAt (topS 13) 2)) (L2.defBody (clsAt (topS 13) 2)) (L2.defScope (clsAt (topS 13) 2)) .none kV10 dc10 pm10 an10 cd10 ct10), sl10⟩)
    (c10 : PySem.W.codeIn K cd10 "Shake.send" = true)
    (k10 : PySem.W.keepIn K (.ref f10) = true)
    (a11 : PySem.W.findIn K (.ref KC1) "tick_a" = some (some (.ref f11)))
    (n11 : PySem.W.isFn K (.ref f11) = true)
    (l11 : K.lookup f11 = some ⟨oc11, od11, .func (PySem.W.fnOf "tick_a" "Shake.tick_a" (L2.defArgs (clsAt (topS 13) 3)) (L2.defBody (clsAt (topS 13) 3)) (L2.defScope (clsAt (topS 13) 3)) .none kV11 dc11 pm11 an11 cd11 ct11), sl11⟩)
    (c11 : PySem.W.codeIn K cd11 "Shake.tick_a" = true)
    (k11 : PySem.W.keepIn K (.ref f11) = true)
    (a12 : PySem.W.findIn K (.ref KC1) "tick_b" = some (some (.ref f12)))
    (n12 : PySem.W.isFn K (.ref f12) = true)
    (l12 : K.lookup f12 = some ⟨oc12, od12, .func (PySem.W.fnOf "tick_b" "Shake.tick_b" (L2.defArgs (clsAt (topS 13) 4)) (L2.defBody (clsAt (topS 13) 4)) (L2.defScope (clsAt (topS 13) 4)) .none kV12 dc12 pm12 an12 cd12 ct12), sl12⟩)
    (c12 : PySem.W.codeIn K cd12 "Shake.tick_b" = true)
    (k12 : PySem.W.keepIn K (.ref f12) = true)
    (a13 : PySem.W.findIn K (.ref KC1) "tick" = some (some (.ref f13)))
    (n13 : PySem.W.isFn K (.ref f13) = true)
    (l13 : K.lookup f13 = some ⟨oc13, od13, .func (PySem.W.fnOf "tick" "Shake.tick" (L2.defArgs (clsAt (topS 13) 5)) (L2.defBody (clsAt (topS 13) 5)) (L2.defScope (clsAt (topS 13) 5)) .none (.ref D13) dc13 pm13 an13 cd13 ct13), sl13⟩)
    (c13 : PySem.W.codeIn K cd13 "Shake.tick" = true)
    (k13 : PySem.W.keepIn K (.ref f13) = true)
    (w13late : PySem.W.nsIn K D13 "late" = some (some (.bool false)))
    (a14 : PySem.W.findIn K (.ref KC1) "words_sent" = some (some (.ref f14)))
    (n14 : PySem.W.isFn K (.ref f14) = true)
    (l14 : K.lookup f14 = some ⟨oc14, od14, .func (PySem.W.fnOf "words_sent" "Shake.words_sent" (L2.defArgs (clsAt (topS 13) 7)) (L2.defBody (clsAt (topS 13) 7)) (L2.defScope (clsAt (topS 13) 7)) .none kV14 dc14 pm14 an14 cd14 ct14), sl14⟩)
    (c14 : PySem.W.codeIn K cd14 "Shake.words_sent" = true)
    (k14 : PySem.W.keepIn K (.ref f14) = true)
    (a15 : PySem.W.findIn K (.ref KC1) "words_got" = some (some (.ref f15)))
    (n15 : PySem.W.isFn K (.ref f15) = true)
    (l15 : K.lookup f15 = some ⟨oc15, od15, .func (PySem.W.fnOf "words_got" "Shake.words_got" (L2.defArgs (clsAt (topS 13) 8)) (L2.defBody (clsAt (topS 13) 8)) (L2.defScope (clsAt (topS 13) 8)) .none kV15 dc15 pm15 an15 cd15 ct15), sl15⟩)
    (c15 : PySem.W.codeIn K cd15 "Shake.words_got" = true)
    (k15 : PySem.W.keepIn K (.ref f15) = true)
    (a16 : PySem.W.findIn K (.ref KC1) "__len__" = some (some (.ref f16)))
    (n16 : PySem.W.isFn K (.ref f16) = true)
    (l16 : K.lookup f16 = some ⟨oc16, od16, .func (PySem.W.fnOf "__len__" "Shake.__len__" (L2.defArgs (clsAt (topS 13) 9)) (L2.defBody (clsAt (topS 13) 9)) (L2.defScope (clsAt (topS 13) 9)) .none kV16 dc16 pm16 an16 cd16 ct16), sl16⟩)
    (c16 : PySem.W.codeIn K cd16 "Shake.__len__" = true)
    (k16 : PySem.W.keepIn K (.ref f16) = true)
    (a17 : PySem.W.nsIn K mainGlobals "_law_drawn" = some (some (.ref f17)))
    (l17 : K.lookup f17 = some ⟨oc17, od17, .func (PySem.W.fnOf "_law_drawn" "_law_drawn" (L2.defArgs (topS 16)) (L2.defBody (topS 16)) (L2.defScope (topS 16)) .none kV17 dc17 pm17 an17 cd17 ct17), sl17⟩)
    (c17 : PySem.W.codeIn K cd17 "_law_drawn" = true)
    (k17 : PySem.W.keepIn K (.ref f17) = true)
    (z0 : PySem.W.nsIn K mainGlobals "isinstance" = some none)
    (z1 : PySem.W.nsIn K mainGlobals "int" = some none)
    (z2 : PySem.W.nsIn K mainGlobals "bool" = some none)
    (z3 : PySem.W.nsIn K mainGlobals "str" = some none)
    (z4 : PySem.W.nsIn K mainGlobals "tuple" = some none)
    (z5 : PySem.W.nsIn K mainGlobals "list" = some none)
    (z6 : PySem.W.nsIn K mainGlobals "len" = some none)
    (z7 : PySem.W.nsIn K mainGlobals "abs" = some none)
    (z8 : PySem.W.nsIn K mainGlobals "max" = some none)
    (z9 : PySem.W.nsIn K mainGlobals "min" = some none)
    (z10 : PySem.W.nsIn K mainGlobals "sum" = some none)
    (z11 : PySem.W.nsIn K mainGlobals "all" = some none)
    (z12 : PySem.W.nsIn K mainGlobals "sorted" = some none)
    (z13 : PySem.W.nsIn K mainGlobals "range" = some none)
    (z14 : PySem.W.nsIn K mainGlobals "zip" = some none)
    (z15 : PySem.W.nsIn K mainGlobals "enumerate" = some none)
    (z16 : PySem.W.nsIn K mainGlobals "set" = some none)
    (z17 : PySem.W.nsIn K mainGlobals "dict" = some none)
    (g0 : PySem.W.nsIn K mainGlobals "MOST_WORD" = some (some (.int 255 tk0)))
    (g1 : PySem.W.nsIn K mainGlobals "SIDES" = some (some (.ref ka1)))
    (gl1 : K.lookup ka1 = some ⟨.type "tuple", kd1, .seq #[.str (toStr [97]) tk1_0, .str (toStr [98]) tk1_1] kn1, ks1⟩)
    (xa0 : PySem.W.nsIn K mainGlobals "GateError" = some (some (.ref C0)))
    (xa8 : PySem.W.nsIn K mainGlobals "NoNumber" = some (some (.ref C8)))
    (xa5 : PySem.W.nsIn K mainGlobals "NoDeed" = some (some (.ref C5)))
    (xa11 : PySem.W.nsIn K mainGlobals "Waiting" = some (some (.ref C11)))
    (xb0 : clsB K C0 = true)
    (xe0 : PySem.W.excIn K C0 veBs "ValueError.__new__" = true)
    (xb8 : clsB K C8 = true)
    (xo8 : oexB K C8 "which" = true)
    (xi8 : PySem.W.findIn K (.ref C8) "__init__" = some (some (.ref fI8)))
    (xt8 : PySem.W.typeIn K (.ref fI8) = some (.type "function"))
    (xl8 : K.lookup fI8 = some ⟨ocI8, odI8, .func (PySem.W.fnOf "__init__" "NoNumber.__init__" (L2.defArgs sI8) (L2.defBody sI8) (L2.defScope sI8) .none kVI8 dcI8 pmI8 anI8 cdI8 ctI8), slI8⟩)
    (xc8 : PySem.W.codeIn K cdI8 "NoNumber.__init__" = true)
    (xk8 : PySem.W.keepIn K (.ref fI8) = true)
    (xb5 : clsB K C5 = true)
    (xe5 : PySem.W.excIn K C5 veBs "ValueError.__new__" = true)
    (xb11 : clsB K C11 = true)
    (xo11 : oexB K C11 "word" = true)
    (xi11 : PySem.W.findIn K (.ref C11) "__init__" = some (some (.ref fI11)))
    (xt11 : PySem.W.typeIn K (.ref fI11) = some (.type "function"))
    (xl11 : K.lookup fI11 = some ⟨ocI11, odI11, .func (PySem.W.fnOf "__init__" "Waiting.__init__" (L2.defArgs sI11) (L2.defBody sI11) (L2.defScope sI11) .none kVI11 dcI11 pmI11 anI11 cdI11 ctI11), slI11⟩)
    (xc11 : PySem.W.codeIn K cdI11 "Waiting.__init__" = true)
    (xk11 : PySem.W.keepIn K (.ref fI11) = true)
    (xp : prsB K [(0, C0), (8, C8), (5, C5), (11, C11)] = true)
    (law : ∀ dr, Bnd dr → ∃ S, callN fn dr 100 10 2000 [.scr] [] = .ok (.bl true) S) :
    ∃ fd : FuncData, (∀ (s : Shared) (v : Value), BindsTo s fd ⟨[v], []⟩ [("_law_script", v)]) ∧ ∀ base : Heap, K.In base → base.Ns mainGlobals mg → L2.FnOk PySem.Challenge.pw_driftgates_k26_whole_shakes w K mg base (L2.CX PySem.Challenge.pw_driftgates_k26_whole_shakes w) 22 fa fd ["_law_script"] (spLaw K) := by
  have e := hfa.symm.trans (PySem.W.mg_of X G a4)
  cases e
  have F0 : ed_is_number.At K f0 _ := ⟨⟨oc0, od0, .none, _, dc0, pm0, an0, cd0, ct0, sl0, rfl, l0, c0, .inl ⟨rfl, rfl⟩, .inl rfl⟩, k0⟩
  have F1 : ed_need_number.At K f1 _ := ⟨⟨oc1, od1, .none, _, dc1, pm1, an1, cd1, ct1, sl1, rfl, l1, c1, .inl ⟨rfl, rfl⟩, .inr ⟨D1, rfl, List.forall_mem_cons.mpr ⟨⟨_, w1least, ⟨_, rfl⟩⟩, List.forall_mem_cons.mpr ⟨⟨_, w1most, ⟨_, rfl⟩⟩, (fun _ h => by cases h)⟩⟩⟩⟩, k1⟩
  have F2 : ed_led_over.At K f2 _ := ⟨⟨oc2, od2, .none, _, dc2, pm2, an2, cd2, ct2, sl2, rfl, l2, c2, .inl ⟨rfl, rfl⟩, .inr ⟨D2, rfl, List.forall_mem_cons.mpr ⟨⟨_, w2steps, ⟨_, rfl⟩⟩, List.forall_mem_cons.mpr ⟨⟨_, w2phases, ⟨_, rfl⟩⟩, (fun _ h => by cases h)⟩⟩⟩⟩, k2⟩
  have F3 : ed_law_led.At K f3 _ := ⟨⟨oc3, od3, .none, _, dc3, pm3, an3, cd3, ct3, sl3, rfl, l3, c3, .inl ⟨rfl, rfl⟩, .inl rfl⟩, k3⟩
  have F4 : ed_law.At K fa _ := ⟨⟨oc4, od4, .none, _, dc4, pm4, an4, cd4, ct4, sl4, rfl, l4, c4, .inl ⟨rfl, rfl⟩, .inl rfl⟩, k4⟩
  have F5 : ed_Signal___init__.At K f5 _ := ⟨⟨oc5, od5, .none, _, dc5, pm5, an5, cd5, ct5, sl5, rfl, l5, c5, .inl ⟨rfl, rfl⟩, .inl rfl⟩, k5⟩
  have F6 : ed_Signal_turn.At K f6 _ := ⟨⟨oc6, od6, .none, _, dc6, pm6, an6, cd6, ct6, sl6, rfl, l6, c6, .inl ⟨rfl, rfl⟩, .inl rfl⟩, k6⟩
  have F7 : ed_Signal_read.At K f7 _ := ⟨⟨oc7, od7, .none, _, dc7, pm7, an7, cd7, ct7, sl7, rfl, l7, c7, .inl ⟨rfl, rfl⟩, .inl rfl⟩, k7⟩
  have F8 : ed_Shake___init__.At K f8 _ := ⟨⟨oc8, od8, .none, _, dc8, pm8, an8, cd8, ct8, sl8, rfl, l8, c8, .inl ⟨rfl, rfl⟩, .inr ⟨D8, rfl, List.forall_mem_cons.mpr ⟨⟨_, w8steps, ⟨_, rfl⟩⟩, List.forall_mem_cons.mpr ⟨⟨_, w8phases, ⟨_, rfl⟩⟩, (fun _ h => by cases h)⟩⟩⟩⟩, k8⟩
  have F9 : ed_Shake_is_ready.At K f9 _ := ⟨⟨oc9, od9, .none, _, dc9, pm9, an9, cd9, ct9, sl9, rfl, l9, c9, .inl ⟨rfl, rfl⟩, .inl rfl⟩, k9⟩
  have F10 : ed_Shake_send.At K f10 _ := ⟨⟨oc10, od10, .none, _, dc10, pm10, an10, cd10, ct10, sl10, rfl, l10, c10, .inl ⟨rfl, rfl⟩, .inl rfl⟩, k10⟩
  have F11 : ed_Shake_tick_a.At K f11 _ := ⟨⟨oc11, od11, .none, _, dc11, pm11, an11, cd11, ct11, sl11, rfl, l11, c11, .inl ⟨rfl, rfl⟩, .inl rfl⟩, k11⟩
  have F12 : ed_Shake_tick_b.At K f12 _ := ⟨⟨oc12, od12, .none, _, dc12, pm12, an12, cd12, ct12, sl12, rfl, l12, c12, .inl ⟨rfl, rfl⟩, .inl rfl⟩, k12⟩
  have F13 : ed_Shake_tick.At K f13 _ := ⟨⟨oc13, od13, .none, _, dc13, pm13, an13, cd13, ct13, sl13, rfl, l13, c13, .inl ⟨rfl, rfl⟩, .inr ⟨D13, rfl, List.forall_mem_cons.mpr ⟨⟨_, w13late, rfl⟩, (fun _ h => by cases h)⟩⟩⟩, k13⟩
  have F14 : ed_Shake_words_sent.At K f14 _ := ⟨⟨oc14, od14, .none, _, dc14, pm14, an14, cd14, ct14, sl14, rfl, l14, c14, .inl ⟨rfl, rfl⟩, .inl rfl⟩, k14⟩
  have F15 : ed_Shake_words_got.At K f15 _ := ⟨⟨oc15, od15, .none, _, dc15, pm15, an15, cd15, ct15, sl15, rfl, l15, c15, .inl ⟨rfl, rfl⟩, .inl rfl⟩, k15⟩
  have F16 : ed_Shake___len__.At K f16 _ := ⟨⟨oc16, od16, .none, _, dc16, pm16, an16, cd16, ct16, sl16, rfl, l16, c16, .inl ⟨rfl, rfl⟩, .inl rfl⟩, k16⟩
  have FD : L2.FunD K "_law_drawn" "_law_drawn" (L2.defArgs sDrawn) (L2.defBody sDrawn) (L2.defScope sDrawn) [] [] f17 _ := ⟨⟨oc17, od17, .none, _, dc17, pm17, an17, cd17, ct17, sl17, rfl, l17, c17, .inl ⟨rfl, rfl⟩, .inl rfl⟩, k17⟩
  have FI8 : L2.FunD K "__init__" "NoNumber.__init__" (L2.defArgs sI8) (L2.defBody sI8) (L2.defScope sI8) [] [] fI8 _ := ⟨⟨ocI8, odI8, .none, _, dcI8, pmI8, anI8, cdI8, ctI8, slI8, rfl, xl8, xc8, .inl ⟨rfl, rfl⟩, .inl rfl⟩, xk8⟩
  have FI11 : L2.FunD K "__init__" "Waiting.__init__" (L2.defArgs sI11) (L2.defBody sI11) (L2.defScope sI11) [] [] fI11 _ := ⟨⟨ocI11, odI11, .none, _, dcI11, pmI11, anI11, cdI11, ctI11, slI11, rfl, xl11, xc11, .inl ⟨rfl, rfl⟩, .inl rfl⟩, xk11⟩
  refine ⟨_, fun s v => .of_eq rfl, fun base hb1 hb2 => fn_law (T := T) (fn := fn) (wf := 100) (n := 10) (xc := ⟨fun c => [(0, C0), (8, C8), (5, C5), (11, C11)].lookup c, fldG⟩) (e := ed_law) (cl := [(0, KC0), (1, KC1)]) (fdn := fdN) (nd := fdN_nd) (by simp [T]) rfl F4 (fun a ns hns => ?_) law⟩
  refine ⟨?_, rfl, ?_, ?_, ?_, ?_, ?_, ?_, ?_, ?_⟩
  · exact List.forall_mem_cons.mpr ⟨okd_is_number, List.forall_mem_cons.mpr ⟨okd_need_number, List.forall_mem_cons.mpr ⟨okd_led_over, List.forall_mem_cons.mpr ⟨okd_law_led, List.forall_mem_cons.mpr ⟨okd_law, List.forall_mem_cons.mpr ⟨okd_Signal___init__, List.forall_mem_cons.mpr ⟨okd_Signal_turn, List.forall_mem_cons.mpr ⟨okd_Signal_read, List.forall_mem_cons.mpr ⟨okd_Shake___init__, List.forall_mem_cons.mpr ⟨okd_Shake_is_ready, List.forall_mem_cons.mpr ⟨okd_Shake_send, List.forall_mem_cons.mpr ⟨okd_Shake_tick_a, List.forall_mem_cons.mpr ⟨okd_Shake_tick_b, List.forall_mem_cons.mpr ⟨okd_Shake_tick, List.forall_mem_cons.mpr ⟨okd_Shake_words_sent, List.forall_mem_cons.mpr ⟨okd_Shake_words_got, List.forall_mem_cons.mpr ⟨okd_Shake___len__, (fun _ h => by cases h)⟩⟩⟩⟩⟩⟩⟩⟩⟩⟩⟩⟩⟩⟩⟩⟩⟩
  · intro c C h
    exact (show ∀ p ∈ ([(0, KC0), (1, KC1)] : List (Nat × Addr)), L2.Cls K p.2 ∧ ∀ f ∈ fdN, L2.NoAttr K p.2 f from List.forall_mem_cons.mpr ⟨kcB_ok qb0, List.forall_mem_cons.mpr ⟨kcB_ok qb1, (fun _ h => by cases h)⟩⟩) (c, C) h
  · exact List.forall_mem_cons.mpr ⟨⟨(show ("is_ready" : Str) ∉ fdN by decide +kernel), okB (by decide +kernel), ed_Shake_is_ready, by simp [T], rfl, rfl, fun C hC => by
      have hc : C = KC1 := by simpa using hC
      subst hc
      exact ⟨f9, _, ⟨a9, n9, k9⟩, F9, kbd_Shake_is_ready_1 F9⟩⟩, List.forall_mem_cons.mpr ⟨⟨(show ("send" : Str) ∉ fdN by decide +kernel), okB (by decide +kernel), ed_Shake_send, by simp [T], rfl, rfl, fun C hC => by
      have hc : C = KC1 := by simpa using hC
      subst hc
      exact ⟨f10, _, ⟨a10, n10, k10⟩, F10, kbd_Shake_send_2 F10⟩⟩, List.forall_mem_cons.mpr ⟨⟨(show ("tick" : Str) ∉ fdN by decide +kernel), okB (by decide +kernel), ed_Shake_tick, by simp [T], rfl, rfl, fun C hC => by
      have hc : C = KC1 := by simpa using hC
      subst hc
      exact ⟨f13, _, ⟨a13, n13, k13⟩, F13, kbd_Shake_tick_2_late F13⟩⟩, List.forall_mem_cons.mpr ⟨⟨(show ("words_got" : Str) ∉ fdN by decide +kernel), okB (by decide +kernel), ed_Shake_words_got, by simp [T], rfl, rfl, fun C hC => by
      have hc : C = KC1 := by simpa using hC
      subst hc
      exact ⟨f15, _, ⟨a15, n15, k15⟩, F15, kbd_Shake_words_got_1 F15⟩⟩, List.forall_mem_cons.mpr ⟨⟨(show ("__len__" : Str) ∉ fdN by decide +kernel), okB (by decide +kernel), ed_Shake___len__, by simp [T], rfl, rfl, fun C hC => by
      have hc : C = KC1 := by simpa using hC
      subst hc
      exact ⟨f16, _, ⟨a16, n16, k16⟩, F16, kbd_Shake___len___1 F16⟩⟩, List.forall_mem_cons.mpr ⟨⟨(show ("words_sent" : Str) ∉ fdN by decide +kernel), okB (by decide +kernel), ed_Shake_words_sent, by simp [T], rfl, rfl, fun C hC => by
      have hc : C = KC1 := by simpa using hC
      subst hc
      exact ⟨f14, _, ⟨a14, n14, k14⟩, F14, kbd_Shake_words_sent_1 F14⟩⟩, List.forall_mem_cons.mpr ⟨⟨(show ("turn" : Str) ∉ fdN by decide +kernel), okB (by decide +kernel), ed_Signal_turn, by simp [T], rfl, rfl, fun C hC => by
      have hc : C = KC0 := by simpa using hC
      subst hc
      exact ⟨f6, _, ⟨a6, n6, k6⟩, F6, kbd_Signal_turn_2 F6⟩⟩, List.forall_mem_cons.mpr ⟨⟨(show ("read" : Str) ∉ fdN by decide +kernel), okB (by decide +kernel), ed_Signal_read, by simp [T], rfl, rfl, fun C hC => by
      have hc : C = KC0 := by simpa using hC
      subst hc
      exact ⟨f7, _, ⟨a7, n7, k7⟩, F7, kbd_Signal_read_2 F7⟩⟩, List.forall_mem_cons.mpr ⟨⟨(show ("tick_a" : Str) ∉ fdN by decide +kernel), okB (by decide +kernel), ed_Shake_tick_a, by simp [T], rfl, rfl, fun C hC => by
      have hc : C = KC1 := by simpa using hC
      subst hc
      exact ⟨f11, _, ⟨a11, n11, k11⟩, F11, kbd_Shake_tick_a_2 F11⟩⟩, List.forall_mem_cons.mpr ⟨⟨(show ("tick_b" : Str) ∉ fdN by decide +kernel), okB (by decide +kernel), ed_Shake_tick_b, by simp [T], rfl, rfl, fun C hC => by
      have hc : C = KC1 := by simpa using hC
      subst hc
      exact ⟨f12, _, ⟨a12, n12, k12⟩, F12, kbd_Shake_tick_b_2 F12⟩⟩, (fun _ h => by cases h)⟩⟩⟩⟩⟩⟩⟩⟩⟩⟩
  · exact List.forall_mem_cons.mpr ⟨⟨okB (by decide +kernel), ed_Shake___init__, by simp [T], rfl, rfl, KC1, f8, _, by simp, PySem.W.mg_of X G qa1, ⟨qm1, a8, n8, qk1⟩, F8, kbd_Shake___init___1_steps_phases F8⟩, List.forall_mem_cons.mpr ⟨⟨okB (by decide +kernel), ed_Signal___init__, by simp [T], rfl, rfl, KC0, f5, _, by simp, PySem.W.mg_of X G qa0, ⟨qm0, a5, n5, qk0⟩, F5, kbd_Signal___init___2 F5⟩, (fun _ h => by cases h)⟩⟩
  · exact List.forall_mem_cons.mpr ⟨⟨ed_is_number, by simp [T], rfl, ⟨f0, _, PySem.W.mg_of X G a0, F0⟩, rfl, okB (by decide +kernel), fun f fd F => kbd_is_number_3 F⟩, List.forall_mem_cons.mpr ⟨⟨ed_led_over, by simp [T], rfl, ⟨f2, _, PySem.W.mg_of X G a2, F2⟩, rfl, okB (by decide +kernel), fun f fd F => kbd_led_over_2_steps F⟩, List.forall_mem_cons.mpr ⟨⟨ed_led_over, by simp [T], rfl, ⟨f2, _, PySem.W.mg_of X G a2, F2⟩, rfl, okB (by decide +kernel), fun f fd F => kbd_led_over_2_steps_phases F⟩, List.forall_mem_cons.mpr ⟨⟨ed_law_led, by simp [T], rfl, ⟨f3, _, PySem.W.mg_of X G a3, F3⟩, rfl, okB (by decide +kernel), fun f fd F => kbd_law_led_4 F⟩, List.forall_mem_cons.mpr ⟨⟨ed_need_number, by simp [T], rfl, ⟨f1, _, PySem.W.mg_of X G a1, F1⟩, rfl, okB (by decide +kernel), fun f fd F => kbd_need_number_1_which_least_most F⟩, List.forall_mem_cons.mpr ⟨⟨ed_need_number, by simp [T], rfl, ⟨f1, _, PySem.W.mg_of X G a1, F1⟩, rfl, okB (by decide +kernel), fun f fd F => kbd_need_number_1_which_most F⟩, (fun _ h => by cases h)⟩⟩⟩⟩⟩⟩
  · exact List.forall_mem_cons.mpr ⟨PySem.W.mg_none_of X G z0, List.forall_mem_cons.mpr ⟨PySem.W.mg_none_of X G z1, List.forall_mem_cons.mpr ⟨PySem.W.mg_none_of X G z2, List.forall_mem_cons.mpr ⟨PySem.W.mg_none_of X G z3, List.forall_mem_cons.mpr ⟨PySem.W.mg_none_of X G z4, List.forall_mem_cons.mpr ⟨PySem.W.mg_none_of X G z5, List.forall_mem_cons.mpr ⟨PySem.W.mg_none_of X G z6, List.forall_mem_cons.mpr ⟨PySem.W.mg_none_of X G z7, List.forall_mem_cons.mpr ⟨PySem.W.mg_none_of X G z8, List.forall_mem_cons.mpr ⟨PySem.W.mg_none_of X G z9, List.forall_mem_cons.mpr ⟨PySem.W.mg_none_of X G z10, List.forall_mem_cons.mpr ⟨PySem.W.mg_none_of X G z11, List.forall_mem_cons.mpr ⟨PySem.W.mg_none_of X G z12, List.forall_mem_cons.mpr ⟨PySem.W.mg_none_of X G z13, List.forall_mem_cons.mpr ⟨PySem.W.mg_none_of X G z14, List.forall_mem_cons.mpr ⟨PySem.W.mg_none_of X G z15, List.forall_mem_cons.mpr ⟨PySem.W.mg_none_of X G z16, List.forall_mem_cons.mpr ⟨PySem.W.mg_none_of X G z17, (fun _ h => by cases h)⟩⟩⟩⟩⟩⟩⟩⟩⟩⟩⟩⟩⟩⟩⟩⟩⟩⟩
  · intro x d hx
    exact (show ∀ p ∈ cns, ∃ u v, mg p.1 = some u ∧ L2.RelV v u ∧ ∀ H B r, Rep ⟨K, a, ns, [(0, KC0), (1, KC1)], fdN, fdN_nd⟩ H B r p.2 v from List.forall_mem_cons.mpr ⟨⟨_, constV (.int 255), PySem.W.mg_of X G g0, ⟨_, rfl⟩, fun H B r => rep_const (by decide +kernel)⟩, List.forall_mem_cons.mpr ⟨⟨.ref ka1, .ref ka1, PySem.W.mg_of X G g1, rfl, fun H B r => by rw [Rep]; exact ⟨ka1, [constV (.str [97]), constV (.str [98])], rfl, .inr ⟨_, _, _, gl1, rfl, rfl, by (show _ ≤ 16777216); simp, .cons ⟨_, rfl⟩ (.cons ⟨_, rfl⟩ (.nil))⟩, Reps.cons (rep_const (by decide +kernel)) (Reps.cons (rep_const (by decide +kernel)) (Reps.nil))⟩⟩, (fun _ h => by cases h)⟩⟩) (x, d) (PySem.mem_of_lookup hx)
  · exact ⟨f17, _, _, ok_drawn FD (PySem.W.mg_none_of X G z6) rfl rfl hns, PySem.W.mg_of X G a17, k17, FD.bindsN fun kV doc pm an cdv ct us hl => match us, hl with | [_, _, _], _ => rfl⟩
  · have hp := prsB_ok xp
    refine ⟨fun x c hx => ?_, fun c C c' C' h1 h2 => hp c C c' C' (mem_lk h1) (mem_lk h2), fun c C h => ?_, rfl⟩
    · exact (show ∀ p ∈ xcl, ∃ C, mg p.1 = some (.ref C) ∧ ([(0, C0), (8, C8), (5, C5), (11, C11)] : List (Nat × Addr)).lookup p.2 = some C ∧ ClsF K C ∧ MkR ⟨PySem.Challenge.pw_driftgates_k26_whole_shakes, w, K, mg, base, a, ns, ⟨fun c => [(0, C0), (8, C8), (5, C5), (11, C11)].lookup c, fldG⟩, fn, drM ns, 100, [(0, KC0), (1, KC1)], fdN, fdN_nd⟩ C (fldG p.2) from List.forall_mem_cons.mpr ⟨⟨C0, PySem.W.mg_of X G xa0, rfl, clsB_ok xb0, xe0⟩, List.forall_mem_cons.mpr ⟨⟨C8, PySem.W.mg_of X G xa8, rfl, clsB_ok xb8, (oexB_ok xo8).1, (oexB_ok xo8).2, fI8, _, _, xi8, xt8, okI8 FI8 (oexB_ok xo8).1 (oexB_ok xo8).2, FI8.bindsN fun kV doc pm an cdv ct us hl => match us, hl with | [_, _], _ => rfl⟩, List.forall_mem_cons.mpr ⟨⟨C5, PySem.W.mg_of X G xa5, rfl, clsB_ok xb5, xe5⟩, List.forall_mem_cons.mpr ⟨⟨C11, PySem.W.mg_of X G xa11, rfl, clsB_ok xb11, (oexB_ok xo11).1, (oexB_ok xo11).2, fI11, _, _, xi11, xt11, okI11 FI11 (oexB_ok xo11).1 (oexB_ok xo11).2, FI11.bindsN fun kV doc pm an cdv ct us hl => match us, hl with | [_, _], _ => rfl⟩, (fun _ h => by cases h)⟩⟩⟩⟩) (x, c) (PySem.mem_of_lookup hx)
    · exact (show ∀ p ∈ ([(0, C0), (8, C8), (5, C5), (11, C11)] : List (Nat × Addr)), ClsF K p.2 from List.forall_mem_cons.mpr ⟨clsB_ok xb0, List.forall_mem_cons.mpr ⟨clsB_ok xb8, List.forall_mem_cons.mpr ⟨clsB_ok xb5, List.forall_mem_cons.mpr ⟨clsB_ok xb11, (fun _ h => by cases h)⟩⟩⟩⟩) (c, C) (mem_lk h)
end Mi

set_option maxRecDepth 100000
set_option maxHeartbeats 4000000
namespace Mi
section
variable {dl : Def} {dr : Int → Int → Int} {W n : Nat} {S : Sto}
/-- no place of the heap -/
def pl : D → Bool
  | .scr => false
  | .ref _ => false
  | _ => true
def isNumB (d : D) (a b : Int) : Bool := match d with
  | .int x => decide (a ≤ x) && decide (x ≤ b)
  | _ => false
@[simp] theorem isNumB_int (x a b : Int) : isNumB (.int x) a b = (decide (a ≤ x) && decide (x ≤ b)) := (rfl)
@[simp] theorem isNumB_non (a b : Int) : isNumB .non a b = false := (rfl)
@[simp] theorem isNumB_bl (x : Bool) (a b : Int) : isNumB (.bl x) a b = false := (rfl)
@[simp] theorem isNumB_str (x : List Nat) (a b : Int) : isNumB (.str x) a b = false := (rfl)
@[simp] theorem isNumB_tup (x : List D) (a b : Int) : isNumB (.tup x) a b = false := (rfl)
@[simp] theorem isNumB_scr (a b : Int) : isNumB .scr a b = false := (rfl)
@[simp] theorem isNumB_ref (k : Nat) (a b : Int) : isNumB (.ref k) a b = false := (rfl)
@[simp] theorem isNumB_lst (x : List D) (a b : Int) : isNumB (.lst x) a b = false := (rfl)
theorem is_number_any {d : D} {a b : Int} (h : pl d = true) : callN (mk dl) dr W (n + 1) 30 [d, .int a, .int b] S = .ok (.bl (isNumB d a b)) S := by
  rw [callN_eq (df := d_is_number) rfl rfl]
  show (exSs _ W d_is_number.body [.fz d, .fz (.int a), .fz (.int b)] S).fin = _
  cases d <;> simp [pl] at h <;> simp [d_is_number, isK]
  rename_i x
  by_cases h1 : a ≤ x <;> simp [h1]
theorem need_number_any {d w : D} {a b : Int} (h : pl d = true) : callN (mk dl) dr W (n + 2) 62 [d, w, .int a, .int b] S = if isNumB d a b = true then .ok .non S else .exc 8 w S := by
  rw [callN_eq (df := d_need_number) rfl rfl]
  show (exSs _ W d_need_number.body [.fz d, .fz w, .fz (.int a), .fz (.int b)] S).fin = _
  cases e : isNumB d a b <;> simp [d_need_number, binds, is_number_any h, e]
def isLetB : D → Bool
  | .str [c] => decide (97 ≤ c) && decide (c ≤ 122)
  | _ => false
theorem letters_in (c : Nat) : List.contains [97, 98, 99, 100, 101, 102, 103, 104, 105, 106, 107, 108, 109, 110, 111, 112, 113, 114, 115, 116, 117, 118, 119, 120, 121, 122] c = (decide (97 ≤ c) && decide (c ≤ 122)) := by
  rw [Bool.eq_iff_iff]
  simp
  omega
theorem is_letter_any {d : D} (h : pl d = true) (hs : ∀ s, d = .str s → s.length ≤ SZ) : callN (mk dl) dr W (n + 1) 27 [d] S = .ok (.bl (isLetB d)) S := by
  rw [callN_eq (df := d_is_letter) rfl rfl]
  show (exSs _ W d_is_letter.body [.fz d] S).fin = _
  cases d <;> simp [pl] at h <;> simp [d_is_letter, isK, isLetB]
  rename_i s
  have := hs s rfl
  match s, this with
  | [], _ => simp [bltB]
  | [c], _ =>
    have hin : inB (.str [c]) (.str [97, 98, 99, 100, 101, 102, 103, 104, 105, 106, 107, 108, 109, 110, 111, 112, 113, 114, 115, 116, 117, 118, 119, 120, 121, 122]) = some (decide (97 ≤ c) && decide (c ≤ 122)) := by rw [← letters_in c]; rfl
    simp [bltB, cmpB, hin]
  | a :: b :: s, hz =>
    have e : bltB .len [.str (a :: b :: s)] = some (.int ((a :: b :: s).length : Nat)) := if_pos hz
    have e2 : ¬ ((s.length : Int) + 1 + 1 = 1) := by omega
    simp [e, e2]
def isClkB : D → Bool
  | .tup [a, b, .int l, e] => isLetB a && isNumB b 0 999 && (decide (1 ≤ l) && decide (l ≤ 999)) && isNumB e l 999
  | _ => false
/-- four places, none of the heap, texts not too long -/
def plS : D → Bool
  | .scr => false
  | .ref _ => false
  | .str s => decide (s.length ≤ 1000000)
  | _ => true
theorem plS.pl {d : D} (h : plS d = true) : Mi.pl d = true := by cases d <;> simp [plS] at h <;> rfl
theorem plS.st {d : D} (h : plS d = true) : ∀ s, d = .str s → s.length ≤ SZ := fun s e => by
  subst e
  simp [plS] at h
  exact len_le_SZ h
def plC : D → Bool
  | .scr => false
  | .ref _ => false
  | .tup xs => xs.all plS && decide (xs.length ≤ 1000000)
  | _ => true
theorem is_clock_any {d : D} (h : plC d = true) : callN (mk dl) dr W (n + 2) 24 [d] S = .ok (.bl (isClkB d)) S := by
  rw [callN_eq (df := d_is_clock) rfl rfl]
  show (exSs _ W d_is_clock.body [.fz d] S).fin = _
  cases d <;> simp [plC] at h <;> simp [d_is_clock, isK, isClkB, bltB]
  rename_i xs
  obtain ⟨h, hz⟩ := h
  match xs, h, hz with
  | [], _, _ => simp
  | [_], _, _ => simp
  | [_, _], _, _ => simp
  | [_, _, _], _, _ => simp
  | a :: b :: c :: d :: e :: r, _, hz =>
    have e2 : ¬ ((r.length : Int) + 1 + 1 + 1 + 1 + 1 = 4) := by omega
    simp [e2]
  | [a, b, c, e], h, _ =>
    simp at h
    obtain ⟨ha, hb, hc, he⟩ := h
    have la := is_letter_any (dl := dl) (dr := dr) (W := W) (n := n) (S := S) (plS.pl ha) (plS.st ha)
    have lb := is_number_any (dl := dl) (dr := dr) (W := W) (n := n) (S := S) (a := 0) (b := 999) (plS.pl hb)
    have lc := is_number_any (dl := dl) (dr := dr) (W := W) (n := n) (S := S) (a := 1) (b := 999) (plS.pl hc)
    cases e1 : isLetB a <;> cases e2 : isNumB b 0 999 <;> simp [idxB, nth, binds, la, lb, lc, e1, e2]
    · cases c <;> simp [isClkB, e1]
    · cases c <;> simp [isClkB, e1]
    · cases c <;> simp [isClkB, e1, e2]
    · cases c <;> simp [isClkB, e1, e2]
      rename_i l _
      have le := is_number_any (dl := dl) (dr := dr) (W := W) (n := n) (S := S) (a := l) (b := 999) (plS.pl he)
      by_cases h1 : 1 ≤ l <;> by_cases h2 : l ≤ 999 <;> simp [h1, h2, le]
theorem need_clock_any {d : D} (h : plC d = true) : callN (mk dl) dr W (n + 3) 56 [d] S = if isClkB d = true then .ok .non S else .exc 4 (.str [110, 111, 32, 99, 108, 111, 99, 107]) S := by
  rw [callN_eq (df := d_need_clock) rfl rfl]
  show (exSs _ W d_need_clock.body [.fz d] S).fin = _
  cases e : isClkB d <;> simp [d_need_clock, binds, is_clock_any h, e]

def gapsI (l m : Int) : List Int → Bool
  | [] => true
  | a :: r => (r.zip (a :: r)).all (fun p => decide (l ≤ p.1 - p.2) && decide (p.1 - p.2 ≤ m))
def canI (f l m : Int) : List Int → Bool
  | [] => false
  | a :: r => (a :: r).all (fun t => decide (0 ≤ t) && decide (t ≤ 1000000)) && (decide (a = f) && gapsI l m (a :: r))
def canB (f l m : Int) : D → Bool
  | .lst xs => match intsD xs with
    | some ts => canI f l m ts
    | none => false
  | _ => false
theorem boolsD_map {α : Type} (p : α → Bool) : ∀ xs : List α, boolsD (xs.map fun a => .bl (p a)) = some (xs.map p)
  | [] => rfl
  | x :: xs => by simp [boolsD, boolsD_map p xs]
theorem allB {α : Type} (p : α → Bool) (xs : List α) : bltB .all [.lst (xs.map fun a => .bl (p a))] = some (.bl (xs.all p)) := by
  simp only [bltB, boolsD_map, Option.map_some, List.all_map]
  rfl
theorem cut1 {α : Type} (xs : List α) : cut xs (some 1) none = xs.tail := by
  unfold cut clip
  cases xs with
  | nil => rfl
  | cons x xs => simp
abbrev il (ts : List Int) : D := .lst (ts.map .int)
theorem flats_il : ∀ (k : Nat) (ts : List Int), D.flats k (ts.map .int) = true
  | _, [] => rfl
  | k, t :: ts => by simp [D.flats, D.flat, flats_il k ts]
theorem flat_mem {k : Nat} : ∀ {xs : List D}, D.flats k xs = true → ∀ d ∈ xs, D.flat k d = true
  | [], _, d, h => by cases h
  | x :: xs, h, d, hd => by
    simp only [D.flats, Bool.and_eq_true] at h
    rcases List.mem_cons.mp hd with rfl | hd
    · exact h.1
    · exact flat_mem h.2 d hd
theorem flat_pl {k : Nat} {d : D} (h : D.flat k d = true) : pl d = true := by
  cases d <;> simp [D.flat] at h <;> rfl
theorem eq_nil (x : D) (xs : List D) (h : D.flat 60 (.lst (x :: xs)) = true) : eqB (.lst (x :: xs)) (.lst []) = some false := by
  unfold eqB
  rw [if_pos (by rw [h]; rfl)]
  simp [D.eqv, D.eqvs]
theorem eq_nil0 : eqB (.lst []) (.lst []) = some true := rfl
theorem intsD_il : ∀ ts : List Int, intsD (ts.map .int) = some ts
  | [] => rfl
  | t :: ts => by simp [intsD, intsD_il ts]
theorem ints_of : ∀ {xs : List D} {a b : Int}, xs.all (fun d => isNumB d a b) = true → ∃ ts : List Int, xs = ts.map .int ∧ ∀ t ∈ ts, a ≤ t ∧ t ≤ b
  | [], a, b, _ => ⟨[], rfl, fun t h => by cases h⟩
  | x :: xs, a, b, h => by
    simp only [List.all_cons, Bool.and_eq_true] at h
    obtain ⟨ts, rfl, k⟩ := ints_of h.2
    cases x <;> simp [isNumB] at h
    rename_i i
    refine ⟨i :: ts, rfl, fun t ht => ?_⟩
    rcases List.mem_cons.mp ht with rfl | ht
    · exact h.1
    · exact k t ht
theorem none_of : ∀ {xs : List D} {a b : Int}, xs.all (fun d => isNumB d a b) = false → ∀ ts, intsD xs = some ts → ts.all (fun t => decide (a ≤ t) && decide (t ≤ b)) = false
  | [], a, b, h, ts, e => by simp at h
  | x :: xs, a, b, h, ts, e => by
    cases x <;> simp [intsD] at e
    rename_i i
    obtain ⟨rs, e1, rfl⟩ := e
    simp only [List.all_cons, isNumB_int] at h
    simp only [List.all_cons]
    cases hh : decide (a ≤ i) && decide (i ≤ b) with
    | false => rfl
    | true => rw [hh] at h; simp only [Bool.true_and] at h ⊢; exact none_of h rs e1
/-- a clock by its parts -/
abbrev ckD (c : D) (f l m : Int) : D := .tup [c, .int f, .int l, .int m]
theorem zip_ints : ∀ (ts us : List Int), List.zipWith (fun x y => D.tup [x, y]) (ts.map .int) (us.map .int) = (ts.zip us).map fun p => D.tup [.int p.1, .int p.2]
  | [], _ => by simp
  | _ :: _, [] => by simp
  | t :: ts, u :: us => by
    have := zip_ints ts us
    simp at this ⊢
    exact this
theorem zip_flip : ∀ (ts us : List Int) (p : Int → Int → Bool), (ts.zip us).all (fun q => p q.2 q.1) = (us.zip ts).all (fun q => p q.1 q.2)
  | [], us, p => by cases us <;> rfl
  | _ :: _, [], p => by simp
  | t :: ts, u :: us, p => by simp [zip_flip ts us p]
theorem can_tick_any {c0 d : D} {f l m : Int} (hd : D.flat 60 d = true) (hl : ∀ xs, d = .lst xs → xs.length ≤ 1000000) : callN (mk dl) dr W (n + 2) 9 [ckD c0 f l m, d] S = .ok (.bl (canB f l m d)) S := by
  rw [callN_eq (df := d_can_tick) rfl rfl]
  show (exSs _ W d_can_tick.body [.fz (ckD c0 f l m), .fz d, .un, .un, .un, .un, .un, .un] S).fin = _
  cases d with
  | lst xs =>
    have hz := hl xs rfl
    cases xs with
    | nil => simp [d_can_tick, isK, cmpB, eq_nil0, canB, intsD, canI]
    | cons x r =>
      have hz2 : r.length + 1 ≤ 16777216 := by simp at hz; omega
      have hfl : D.flats 59 (x :: r) = true := by simpa [D.flat] using hd
      have e1 := eq_nil x r hd
      simp [d_can_tick, isK, cmpB, e1, okW, hz2, cut1]
      rw [lcL_all (g := fun d => .bl (isNumB d 0 1000000))]
      · simp only [bind_ok]
        rw [allB]
        cases e2 : (x :: r).all (fun d => isNumB d 0 1000000) with
        | false =>
          have hB : canB f l m (.lst (x :: r)) = false := by
            simp only [canB]
            split
            · rename_i ts ht
              have := none_of e2 ts ht
              cases ts with
              | nil => rfl
              | cons a r => simp only [canI, this, Bool.false_and]
            · rfl
          simp [hB]
        | true =>
          obtain ⟨ts, ht, k⟩ := ints_of e2
          cases ts with
          | nil => cases ht
          | cons t ts =>
            cases ht
            have hB : canB f l m (.lst (.int t :: ts.map .int)) = (decide (t = f) && gapsI l m (t :: ts)) := by
              have h1 : ((t :: ts).all fun t => decide (0 ≤ t) && decide (t ≤ 1000000)) = true := List.all_eq_true.mpr fun z hz => by
                obtain ⟨k1, k2⟩ := k z hz
                simp [k1, k2]
              have h2 : intsD (.int t :: ts.map .int) = some (t :: ts) := intsD_il (t :: ts)
              simp only [canB, h2, canI, h1, Bool.true_and]
            have zz : List.zipWith (fun x y => D.tup [x, y]) (D.int t :: ts.map D.int) (ts.map D.int) = ((t :: ts).zip ts).map fun p => D.tup [.int p.1, .int p.2] := zip_ints (t :: ts) ts
            have hm : min (ts.length + 1) ts.length ≤ 16777216 := by simp at hz2; omega
            rw [hB]
            by_cases htf : t = f
            · simp at hz2
              have hz3 : ts.length ≤ 16777216 := by omega
              simp [idxB, nth, htf, part, isOut, slcB, cut1, zipB, zz, okW, hz3]
              rw [← htf]
              rw [zz, lcL_mapT (g := fun p => .bl (decide (l ≤ p.2 - p.1) && decide (p.2 - p.1 ≤ m)))]
              · simp only [bind_ok]
                rw [allB]
                simp [gapsI]
                exact zip_flip (t :: ts) ts (fun a b => decide (l ≤ a - b) && decide (a - b ≤ m))
              · intro p hp
                by_cases h1 : l ≤ p.2 - p.1 <;> simp [wipS, h1]
            · simp [idxB, nth, htf]
      · intro d hd
        simp [wipS, binds, is_number_any (flat_pl (flat_mem hfl d hd))]
  | scr => simp [D.flat] at hd
  | ref _ => simp [D.flat] at hd
  | _ => simp [d_can_tick, isK, canB]
theorem clk_of {d : D} (h : isClkB d = true) : ∃ x f l m, d = ckD (.str [x]) f l m ∧ (97 ≤ x ∧ x ≤ 122) ∧ (0 ≤ f ∧ f ≤ 999) ∧ (1 ≤ l ∧ l ≤ 999) ∧ (l ≤ m ∧ m ≤ 999) := by
  unfold isClkB at h
  split at h
  · rename_i a b l e
    simp only [Bool.and_eq_true] at h
    obtain ⟨⟨⟨h1, h2⟩, h3⟩, h4⟩ := h
    unfold isLetB at h1
    split at h1
    · cases b <;> simp at h2
      cases e <;> simp at h4
      simp at h1 h3
      exact ⟨_, _, _, _, rfl, h1, h2, h3, h4⟩
    · cases h1
  · cases h
structure Ck (f l m : Int) : Prop where
  f0 : 0 ≤ f
  f1 : f ≤ 999
  l1 : 1 ≤ l
  lm : l ≤ m
  m9 : m ≤ 999
theorem Ck.is {f l m : Int} (k : Ck f l m) {x : Nat} (hx : 97 ≤ x ∧ x ≤ 122) : isClkB (ckD (.str [x]) f l m) = true := by
  have := k.f0; have := k.f1; have := k.l1; have := k.lm; have := k.m9
  have h9 : l ≤ 999 := by omega
  simp [isClkB, isLetB, *]
theorem plC_ck {x : Nat} {f l m : Int} : plC (ckD (.str [x]) f l m) = true := by simp [plC, plS]
theorem need_clock_ck {f l m : Int} {x : Nat} (k : Ck f l m) (hx : 97 ≤ x ∧ x ≤ 122) : callN (mk dl) dr W (n + 3) 56 [ckD (.str [x]) f l m] S = .ok .non S := by
  rw [need_clock_any plC_ck, if_pos (k.is hx)]
theorem is_ticks_ck {f l m : Int} {x : Nat} {d : D} (k : Ck f l m) (hx : 97 ≤ x ∧ x ≤ 122) (hd : D.flat 60 d = true) (hl : ∀ xs, d = .lst xs → xs.length ≤ 1000000) : callN (mk dl) dr W (n + 4) 38 [ckD (.str [x]) f l m, d] S = .ok (.bl (canB f l m d)) S := by
  rw [callN_eq (df := d_is_ticks) rfl rfl]
  show (exSs _ W d_is_ticks.body [.fz (ckD (.str [x]) f l m), .fz d] S).fin = _
  simp [d_is_ticks, binds, need_clock_ck k hx, can_tick_any hd hl]
theorem is_ticks_no {c d : D} (hc : plC c = true) (h : isClkB c = false) : callN (mk dl) dr W (n + 4) 38 [c, d] S = .exc 4 (.str [110, 111, 32, 99, 108, 111, 99, 107]) S := by
  rw [callN_eq (df := d_is_ticks) rfl rfl]
  show (exSs _ W d_is_ticks.body [.fz c, .fz d] S).fin = _
  simp [d_is_ticks, binds, need_clock_any hc, h]
theorem need_ticks_ck {f l m : Int} {x : Nat} {d : D} (k : Ck f l m) (hx : 97 ≤ x ∧ x ≤ 122) (hd : D.flat 60 d = true) (hl : ∀ xs, d = .lst xs → xs.length ≤ 1000000) : callN (mk dl) dr W (n + 4) 67 [ckD (.str [x]) f l m, d] S = if canB f l m d = true then .ok .non S else .exc 10 (.str [110, 111, 32, 116, 105, 99, 107, 115]) S := by
  rw [callN_eq (df := d_need_ticks) rfl rfl]
  show (exSs _ W d_need_ticks.body [.fz (ckD (.str [x]) f l m), .fz d] S).fin = _
  cases e : canB f l m d <;> simp [d_need_ticks, binds, need_clock_ck k hx, can_tick_any hd hl, e]
theorem need_ticks_no {c d : D} (hc : plC c = true) (h : isClkB c = false) : callN (mk dl) dr W (n + 4) 67 [c, d] S = .exc 4 (.str [110, 111, 32, 99, 108, 111, 99, 107]) S := by
  rw [callN_eq (df := d_need_ticks) rfl rfl]
  show (exSs _ W d_need_ticks.body [.fz c, .fz d] S).fin = _
  simp [d_need_ticks, binds, need_clock_any hc, h]
def bitsB (m : Int) : D → Bool
  | .lst xs => xs.all fun d => isNumB d 0 m
  | _ => false
theorem need_bits_any {d : D} {m : Int} (hp : pl d = true) (hd : ∀ xs, d = .lst xs → (∀ x ∈ xs, pl x = true) ∧ xs.length ≤ 1000000) : callN (mk dl) dr W (n + 2) 54 [d, .int m] S = if bitsB m d = true then .ok .non S else .exc 2 (.str [110, 111, 32, 99, 104, 111, 105, 99, 101, 115]) S := by
  rw [callN_eq (df := d_need_bits) rfl rfl]
  show (exSs _ W d_need_bits.body [.fz d, .fz (.int m), .un] S).fin = _
  cases d with
  | lst xs =>
    obtain ⟨h1, h2⟩ := hd xs rfl
    have h3 : xs.length ≤ 16777216 := by omega
    simp [d_need_bits, isK, okW, h3]
    rw [lcL_all (g := fun d => .bl (isNumB d 0 m))]
    · simp only [bind_ok]
      rw [allB]
      cases e : xs.all (fun d => isNumB d 0 m) <;> simp [bitsB, e]
    · intro d hd
      simp [wipS, binds, is_number_any (h1 d hd)]
  | scr => simp [pl] at hp
  | ref _ => simp [pl] at hp
  | _ => simp [d_need_bits, isK, bitsB]
/-- ticks by choices -/
def tkL (l m : Int) : Int → List Int → List Int
  | a, [] => [a]
  | a, c :: cs => a :: tkL l m (a + l + c % (m - l + 1)) cs
theorem tkL_len (l m : Int) : ∀ (a : Int) (cs : List Int), (tkL l m a cs).length = cs.length + 1
  | _, [] => rfl
  | a, c :: cs => by simp [tkL, tkL_len l m _ cs]
@[simp] theorem nth_last {α : Type} (xs : List α) (x : α) : nth (xs ++ [x]) (-1) = some x := by
  unfold nth
  rw [if_neg (by decide), if_pos (by simp; omega), show (-1 + ((xs ++ [x]).length : Int)).toNat = xs.length by simp; omega]
  simp
theorem bits_il {cs : List Int} {m : Int} (h : ∀ c ∈ cs, 0 ≤ c ∧ c ≤ m) : bitsB m (il cs) = true := by
  simp only [bitsB, List.all_map, List.all_eq_true]
  intro c hc
  simp [h c hc]
theorem ticks_by_ck {f l m : Int} {x : Nat} {cs : List Int} (k : Ck f l m) (hx : 97 ≤ x ∧ x ≤ 122) (hc : ∀ c ∈ cs, 0 ≤ c ∧ c ≤ 999) (hl : cs.length ≤ 100000) : callN (mk dl) dr W (n + 4) 86 [ckD (.str [x]) f l m, il cs] S = .ok (il (tkL l m f cs)) S := by
  rw [callN_eq (df := d_ticks_by) rfl rfl]
  show (exSs _ W d_ticks_by.body [.fz (ckD (.str [x]) f l m), .fz (il cs), .un, .un, .un, .un, .un, .un] S).fin = _
  have hm : (0 : Int) < m - l + 1 := by have := k.lm; omega
  have hb := need_bits_any (dl := dl) (dr := dr) (W := W) (n := n + 1) (S := S) (d := il cs) (m := 999) rfl (fun xs e => by cases e; exact ⟨fun x hx => by obtain ⟨c, _, rfl⟩ := List.mem_map.mp hx; rfl, by simp; omega⟩)
  rw [if_pos (bits_il hc)] at hb
  have key := forL_ind (f := forF ⟨callN (mk dl) dr W (n + 3), dr⟩ W (.v 7) d_ticks_by_b0) (S := S) (t := D.int) (E := fun (s : (List Int × Int) × Pl) => [.fz (ckD (.str [x]) f l m), .fz (il cs), .fz (.str [x]), .fz (.int f), .fz (.int l), .fz (.int m), .own ((s.1.1 ++ [s.1.2]).map .int), s.2])
    (g := fun s c => ((s.1.1 ++ [s.1.2], s.1.2 + l + c % (m - l + 1)), .fz (.int c))) (I := fun r s => s.1.1.length + r.length ≤ 100000) cs (([], f), .un) (by simpa using hl) (fun c r s hI => by
      simp at hI
      have h1 : s.1.1.length + 1 < 16777216 := by omega
      constructor
      · simp [d_ticks_by_b0, idxB, nth_last, opI_mod hm, h1]
      · simp; omega)
  have fin : ∀ (cs : List Int) (pre : List Int) (a : Int) (p : Pl), ((cs.foldl (fun (s : (List Int × Int) × Pl) c => ((s.1.1 ++ [s.1.2], s.1.2 + l + c % (m - l + 1)), Pl.fz (.int c))) ((pre, a), p)).1.1 ++ [(cs.foldl (fun (s : (List Int × Int) × Pl) c => ((s.1.1 ++ [s.1.2], s.1.2 + l + c % (m - l + 1)), Pl.fz (.int c))) ((pre, a), p)).1.2]) = pre ++ tkL l m a cs := by
    intro cs
    induction cs with
    | nil => intro pre a p; rfl
    | cons c cs ih =>
      intro pre a p
      simp only [List.foldl_cons, ih, tkL]
      simp
  have k1 := key.1
  rw [fin cs [] f .un] at k1
  simp at k1
  simp [d_ticks_by, binds, need_clock_ck k hx, hb, noOwnIt, k1]
end
end Mi

set_option maxRecDepth 100000
set_option maxHeartbeats 4000000
namespace Mi
section
variable {P Q : Sto} {a b c d e f x : Cell}
@[simp] theorem at0 : (P ++ a :: Q)[P.length]? = some a := by simp
@[simp] theorem at1 : (P ++ a :: b :: Q)[P.length + 1]? = some b := by simp
@[simp] theorem at2 : (P ++ a :: b :: c :: Q)[P.length + 2]? = some c := by simp
@[simp] theorem at3 : (P ++ a :: b :: c :: d :: Q)[P.length + 3]? = some d := by simp
@[simp] theorem at4 : (P ++ a :: b :: c :: d :: e :: Q)[P.length + 4]? = some e := by simp
@[simp] theorem put0 : (P ++ a :: Q).set P.length x = P ++ x :: Q := by simp
@[simp] theorem put1 : (P ++ a :: b :: Q).set (P.length + 1) x = P ++ a :: x :: Q := by simp [List.set_append]
@[simp] theorem put2 : (P ++ a :: b :: c :: Q).set (P.length + 2) x = P ++ a :: b :: x :: Q := by simp [List.set_append]
@[simp] theorem put3 : (P ++ a :: b :: c :: d :: Q).set (P.length + 3) x = P ++ a :: b :: c :: x :: Q := by simp [List.set_append]
@[simp] theorem put4 : (P ++ a :: b :: c :: d :: e :: Q).set (P.length + 4) x = P ++ a :: b :: c :: d :: x :: Q := by simp [List.set_append]
end
structure Sig where
  bit : Int
  was : Int
  fresh : Bool
  seen : List Int
def sigC (g : Sig) : Cell := .ins 0 [(3, .int g.bit), (24, .int g.was), (11, .bl g.fresh), (18, .lst (g.seen.map .int))]
def Sig.turn (g : Sig) (b : Int) : Sig := if b = g.bit then g else ⟨b, g.bit, true, g.seen⟩
def Sig.read (g : Sig) (late : Bool) : Sig := ⟨g.bit, g.was, false, ((if (g.fresh && late) = true then g.was else g.bit) :: g.seen).dropLast⟩
section
variable {dl : Def} {dr : Int → Int → Int} {W n : Nat} {P Q : Sto}
theorem sig_turn {g : Sig} {b : Int} : callN (mk dl) dr W (n + 1) 1044 [.ref P.length, .int b] (P ++ sigC g :: Q) = .ok .non (P ++ sigC (g.turn b) :: Q) := by
  rw [callN_eq (df := d_Signal_turn) rfl rfl]
  unfold Sig.turn
  by_cases h : b = g.bit
  · simp [d_Signal_turn, Def.start, sigC, fldB, List.lookup, h]
  · simp [d_Signal_turn, Def.start, sigC, fldB, List.lookup, h, lvN, lvA, putA]
theorem nth_lst {α : Type} {xs : List α} {x : α} (h : xs.getLast? = some x) : nth xs (-1) = some x := by
  unfold nth
  have hne : xs ≠ [] := by intro e; rw [e] at h; cases h
  have hp : 0 < xs.length := List.length_pos_iff.mpr hne
  rw [if_neg (by decide), if_pos (by omega), show ((-1 : Int) + xs.length).toNat = xs.length - 1 by omega, ← List.getLast?_eq_getElem?, h]
theorem opL_add {x y : List D} (h : x.length + y.length ≤ SZ) : opB .add (.lst x) (.lst y) = some (.lst (x ++ y)) := if_pos h
theorem sig_read {g : Sig} {late : Bool} {x : Int} (h : g.seen.getLast? = some x) (hl : g.seen.length ≤ 1000) : callN (mk dl) dr W (n + 1) 1042 [.ref P.length, .bl late] (P ++ sigC g :: Q) = .ok (.int x) (P ++ sigC (g.read late) :: Q) := by
  rw [callN_eq (df := d_Signal_read) rfl rfl]
  obtain ⟨b, w, fr, sn⟩ := g
  simp only at h hl
  have hn : nth (sn.map D.int) (-1) = some (.int x) := nth_lst (by simp [h])
  have e1 : ∀ f : Int, opB .add (.lst [.int f]) (.lst (sn.map .int)) = some (.lst ((f :: sn).map .int)) := fun f => by
    rw [opL_add (by simp only [List.length_cons, List.length_nil, List.length_map, SZ_eq]; omega)]; rfl
  have e2 : ∀ f : Int, ((f :: sn).map D.int).getLast? = some (.int x) := fun f => by
    rw [List.getLast?_map, List.getLast?_cons, h]; rfl
  have e3 : ∀ f : Int, ((f :: sn).map D.int).dropLast = ((f :: sn).dropLast).map .int := fun f => by rw [List.map_dropLast]
  have e2' : ∀ f : Int, (D.int f :: sn.map D.int).getLast? = some (.int x) := e2
  have e3' : ∀ f : Int, (D.int f :: sn.map D.int).dropLast = ((f :: sn).dropLast).map .int := e3
  let env0 : Env := [.fz (.ref P.length), .fz (.bl late), .un, .un, .un, .un]
  generalize eF : (⟨callN (mk dl) dr W n, dr⟩ : Fns) = F
  generalize ef : (if (fr && late) = true then w else b) = f
  have k0 : exS F W (.set (.v 2) (.idx (.fld 18 (.var 0)) (.neg (.cst (.int 1))))) [.fz (.ref P.length), .fz (.bl late), .un, .un, .un, .un] (P ++ sigC ⟨b, w, fr, sn⟩ :: Q) = .ok (.nx [.fz (.ref P.length), .fz (.bl late), .fz (.int x), .un, .un, .un]) (P ++ sigC ⟨b, w, fr, sn⟩ :: Q) := by
    simp [sigC, fldB, List.lookup, idxB, hn]
  have k1 : exS F W (.set (.v 3) (.ite (.and [(.fld 11 (.var 0)), (.var 1)]) (.fld 24 (.var 0)) (.fld 3 (.var 0)))) [.fz (.ref P.length), .fz (.bl late), .fz (.int x), .un, .un, .un] (P ++ sigC ⟨b, w, fr, sn⟩ :: Q) = .ok (.nx [.fz (.ref P.length), .fz (.bl late), .fz (.int x), .fz (.int f), .un, .un]) (P ++ sigC ⟨b, w, fr, sn⟩ :: Q) := by
    subst ef
    cases fr <;> cases late <;> simp [sigC, fldB, List.lookup]
  have k2 : exS F W (.star 4 5 (.bin .add (.lst [(.var 3)]) (.fld 18 (.var 0)))) [.fz (.ref P.length), .fz (.bl late), .fz (.int x), .fz (.int f), .un, .un] (P ++ sigC ⟨b, w, fr, sn⟩ :: Q) = .ok (.nx [.fz (.ref P.length), .fz (.bl late), .fz (.int x), .fz (.int f), .fz (.lst ((f :: sn).dropLast.map .int)), .fz (.int x)]) (P ++ sigC ⟨b, w, fr, sn⟩ :: Q) := by
    have q : evE F (.fld 18 (.var 0)) [.fz (.ref P.length), .fz (.bl late), .fz (.int x), .fz (.int f), .un, .un] (P ++ sigC ⟨b, w, fr, sn⟩ :: Q) = .ok (.lst (sn.map .int)) (P ++ sigC ⟨b, w, fr, sn⟩ :: Q) := by
      simp [sigC, fldB, List.lookup]
    simp only [exS_star, evE_bin, rd_lst, rd_fld, evE_lst, evEs_cons, evEs_nil, evE_var, List.getElem?_cons_succ, List.getElem?_cons_zero, bind_ok, List.length_cons, List.length_nil]
    rw [if_pos (by simp)]
    simp only [bind_ok, q, e1, of_some, srof_ok, e2, e3]
    rfl
  have k3 : exSs F W [.as1 (.f (.var 0) 18) (.var 4), .as1 (.f (.var 0) 11) (.cst (.bl false)), .ret (.var 2)] [.fz (.ref P.length), .fz (.bl late), .fz (.int x), .fz (.int f), .fz (.lst ((f :: sn).dropLast.map .int)), .fz (.int x)] (P ++ sigC ⟨b, w, fr, sn⟩ :: Q) = .ok (.rt (.int x)) (P ++ sigC ⟨b, w, false, (f :: sn).dropLast⟩ :: Q) := by
    simp [sigC, lvA, putA]
  show (exSs F W (_ :: _ :: _ :: [.as1 (.f (.var 0) 18) (.var 4), .as1 (.f (.var 0) 11) (.cst (.bl false)), .ret (.var 2)]) [.fz (.ref P.length), .fz (.bl late), .un, .un, .un, .un] _).fin = _
  rw [exSs_cons, k0, next_nx, exSs_cons, k1, next_nx, exSs_cons, k2, next_nx, k3]
  rw [← ef]
  rfl
theorem sig_shown {g : Sig} (hl : g.seen.length ≤ 1000) : callN (mk dl) dr W (n + 1) 1043 [.ref P.length] (P ++ sigC g :: Q) = .ok (.tup [.int g.bit, .tup (g.seen.map .int)]) (P ++ sigC g :: Q) := by
  rw [callN_eq (df := d_Signal_shown) rfl rfl]
  simp [d_Signal_shown, Def.start, sigC, fldB, List.lookup, bltB]
theorem lc_zeros {F : Fns} {env : Env} {i : Nat} {k : Nat} {S : Sto} (hk : k ≤ 1000) (hw : okW env [i] = true) (hi : i < env.length) {j : Nat} (he : env[j]? = some (.fz (.int k))) : evE F (.lc (.cst (.int 0)) (.v i) (.rng [.var j]) (.cst (.bl true))) env S = .ok (.lst ((List.replicate k (0 : Int)).map .int)) S := by
  simp only [evE_lc, rd_rng, evE_rng, evEs_cons, evEs_nil, evE_var, he, bind_ok, rngB]
  rw [if_pos ⟨by unfold big; omega, by unfold big; omega⟩]
  simp only [Option.map_some, of_some, bind_ok, itB_lst, slots_v, hw, Bool.and_true]
  have hlen : (rangeL 0 (k : Int).toNat).length = k := by simp [rangeL]
  rw [if_pos (by rw [hlen]; simp; omega)]
  rw [lcL_all (g := fun _ => .int 0)]
  · simp only [bind_ok, rangeL, List.map_map, Int.toNat_natCast]
    congr 2
    apply List.ext_getElem
    · simp
    · intro m h1 h2; simp
  · intro d hd
    simp
structure Shk where
  ph : Int
  ask : Sig
  ans : Sig
  word : Int
  asked : Int
  told : Int
  sent : List Int
  got : List Int
def shC (p : Nat) (k : Shk) : Cell := .ins 1 [(15, .int k.ph), (1, .ref (p + 1)), (0, .ref (p + 2)), (25, .int k.word), (2, .int k.asked), (22, .int k.told), (19, .ref (p + 3)), (9, .ref (p + 4))]
/-- a shake's five cells between others -/
def shS (P : Sto) (k : Shk) (Q : Sto) : Sto := P ++ shC P.length k :: sigC k.ask :: sigC k.ans :: .lst (k.sent.map .int) :: .lst (k.got.map .int) :: Q
def Sig.new (d : Nat) : Sig := ⟨0, 0, false, List.replicate d 0⟩
def Shk.new (d : Nat) (ph : Int) : Shk := ⟨ph, Sig.new d, Sig.new d, 0, 0, 0, [], []⟩
theorem sig_init {d : Nat} (hd : d ≤ 1000) : callN (mk dl) dr W (n + 1) 1041 [.ref P.length, .int d] (P ++ [.ins 0 []]) = .ok .non (P ++ [sigC (Sig.new d)]) := by
  rw [callN_eq (df := d_Signal___init__) rfl rfl]
  have e := lc_zeros (F := ⟨callN (mk dl) dr W n, dr⟩) (env := [.fz (.ref P.length), .fz (.int d), .un]) (i := 2) (j := 1) (k := d) (S := P ++ [.ins 0 [(3, .int 0), (24, .int 0), (11, .bl false)]]) hd rfl (by simp) rfl
  simp only [d_Signal___init__, Def.start, exSs_cons, exS_as1, evE_cst, srof_ok, lvA, evE_var, List.map_cons, List.map_nil, List.cons_append, List.nil_append, List.length_cons, List.length_nil, List.replicate, List.getElem?_cons_zero, at0, putA, put0, next_nx]
  simp [e, lvA, putA, sigC, Sig.new]
theorem shk_init {d : Nat} {ph : Int} (h1 : 1 ≤ d) (h9 : d ≤ 9) (hp : ph = 2 ∨ ph = 4) : callN (mk dl) dr W (n + 3) 1031 [.ref P.length, .int d, .int ph] (P ++ [.ins 1 []]) = .ok .non (shS P (Shk.new d ph) []) := by
  rw [callN_eq (df := d_Shake___init__) rfl rfl]
  have c1 : ∀ S, callN (mk dl) dr W (n + 2) 62 [.int d, .str [115, 116, 101, 112, 115], .int 1, .int 9] S = .ok .non S := fun S => by
    rw [need_number_any rfl, if_pos (by simp [isNumB]; omega)]
  have c2 : ∀ S, callN (mk dl) dr W (n + 2) 30 [.int ph, .int 2, .int 4] S = .ok (.bl true) S := fun S => by
    rw [is_number_any rfl]
    rcases hp with rfl | rfl <;> rfl
  have i1 : ∀ c, callN (mk dl) dr W (n + 2) 1041 [.ref (P.length + 1), .int d] (P ++ [c, .ins 0 []]) = .ok .non (P ++ [c, sigC (Sig.new d)]) := fun c => by
    have := sig_init (dl := dl) (dr := dr) (W := W) (n := n + 1) (P := P ++ [c]) (d := d) (by omega)
    simpa using this
  have i2 : ∀ c c', callN (mk dl) dr W (n + 2) 1041 [.ref (P.length + 2), .int d] (P ++ [c, c', .ins 0 []]) = .ok .non (P ++ [c, c', sigC (Sig.new d)]) := fun c c' => by
    have := sig_init (dl := dl) (dr := dr) (W := W) (n := n + 1) (P := P ++ [c, c']) (d := d) (by omega)
    simpa using this
  have h3 : ¬ ph = 3 := by omega
  simp [d_Shake___init__, Def.start, binds, c1, c2, h3, i1, i2, lvA, putA, shS, shC, Shk.new]
section
variable {k : Shk}
@[simp] theorem sh_0 : (shS P k Q)[P.length]? = some (shC P.length k) := by simp [shS]
@[simp] theorem sh_1 : (shS P k Q)[P.length + 1]? = some (sigC k.ask) := by simp [shS]
@[simp] theorem sh_2 : (shS P k Q)[P.length + 2]? = some (sigC k.ans) := by simp [shS]
@[simp] theorem sh_3 : (shS P k Q)[P.length + 3]? = some (.lst (k.sent.map .int)) := by simp [shS]
@[simp] theorem sh_4 : (shS P k Q)[P.length + 4]? = some (.lst (k.got.map .int)) := by simp [shS]
@[simp] theorem sh_put (ph w a t : Int) : (shS P k Q).set P.length (.ins 1 [(15, .int ph), (1, .ref (P.length + 1)), (0, .ref (P.length + 2)), (25, .int w), (2, .int a), (22, .int t), (19, .ref (P.length + 3)), (9, .ref (P.length + 4))]) = shS P ⟨ph, k.ask, k.ans, w, a, t, k.sent, k.got⟩ Q := by simp [shS, shC]
@[simp] theorem sh_put3 (ys : List Int) (w : Int) : (shS P k Q).set (P.length + 3) (.lst (ys.map .int ++ [.int w])) = shS P { k with sent := ys ++ [w] } Q := by simp [shS, shC]
@[simp] theorem sh_put4 (ys : List Int) (w : Int) : (shS P k Q).set (P.length + 4) (.lst (ys.map .int ++ [.int w])) = shS P { k with got := ys ++ [w] } Q := by simp [shS, shC]
@[simp] theorem sh_f15 : fldB (shS P k Q) 15 (.ref P.length) = some (.int k.ph) := by simp [fldB, shC, List.lookup]
@[simp] theorem sh_f1 : fldB (shS P k Q) 1 (.ref P.length) = some (.ref (P.length + 1)) := by simp [fldB, shC, List.lookup]
@[simp] theorem sh_f0 : fldB (shS P k Q) 0 (.ref P.length) = some (.ref (P.length + 2)) := by simp [fldB, shC, List.lookup]
@[simp] theorem sh_f25 : fldB (shS P k Q) 25 (.ref P.length) = some (.int k.word) := by simp [fldB, shC, List.lookup]
@[simp] theorem sh_f2 : fldB (shS P k Q) 2 (.ref P.length) = some (.int k.asked) := by simp [fldB, shC, List.lookup]
@[simp] theorem sh_f22 : fldB (shS P k Q) 22 (.ref P.length) = some (.int k.told) := by simp [fldB, shC, List.lookup]
@[simp] theorem sh_f19 : fldB (shS P k Q) 19 (.ref P.length) = some (.ref (P.length + 3)) := by simp [fldB, shC, List.lookup]
@[simp] theorem sh_f9 : fldB (shS P k Q) 9 (.ref P.length) = some (.ref (P.length + 4)) := by simp [fldB, shC, List.lookup]
@[simp] theorem sh_a3 : fldB (shS P k Q) 3 (.ref (P.length + 1)) = some (.int k.ask.bit) := by simp [fldB, sigC, List.lookup]
@[simp] theorem sh_b3 : fldB (shS P k Q) 3 (.ref (P.length + 2)) = some (.int k.ans.bit) := by simp [fldB, sigC, List.lookup]
@[simp] theorem sh_i0 : isIns (shS P k Q) P.length 1 = true := by simp [isIns, shC]
@[simp] theorem sh_i1 : isIns (shS P k Q) (P.length + 1) 0 = true := by simp [isIns, sigC]
@[simp] theorem sh_i2 : isIns (shS P k Q) (P.length + 2) 0 = true := by simp [isIns, sigC]
@[simp] theorem sh_l3 : isLs (shS P k Q) (.ref (P.length + 3)) = true := by simp [isLs]
@[simp] theorem sh_l4 : isLs (shS P k Q) (.ref (P.length + 4)) = true := by simp [isLs]
@[simp] theorem sh_d3 : drf (shS P k Q) (.ref (P.length + 3)) = .lst (k.sent.map .int) := by simp [drf]
@[simp] theorem sh_d4 : drf (shS P k Q) (.ref (P.length + 4)) = .lst (k.got.map .int) := by simp [drf]
@[simp] theorem sh_w25 {F : Fns} {env : Env} {w : Int} {i : Nat} (h : env[i]? = some (.fz (.ref P.length))) : lvA F (.int w) (.f (.var i) 25) env (shS P k Q) = .ok (.nx env) (shS P { k with word := w } Q) := by simp [lvA, h, shC, putA]
@[simp] theorem sh_w2 {F : Fns} {env : Env} {w : Int} {i : Nat} (h : env[i]? = some (.fz (.ref P.length))) : lvA F (.int w) (.f (.var i) 2) env (shS P k Q) = .ok (.nx env) (shS P { k with asked := w } Q) := by simp [lvA, h, shC, putA]
@[simp] theorem sh_w22 {F : Fns} {env : Env} {w : Int} {i : Nat} (h : env[i]? = some (.fz (.ref P.length))) : lvA F (.int w) (.f (.var i) 22) env (shS P k Q) = .ok (.nx env) (shS P { k with told := w } Q) := by simp [lvA, h, shC, putA]
end
def Shk.ready (k : Shk) : Bool := if k.ph = 2 then decide (k.ask.bit = k.told) else (decide (k.ask.bit = 0) && decide (k.told = 0))
@[simp] theorem shk_ready {k : Shk} : callN (mk dl) dr W (n + 1) 1034 [.ref P.length] (shS P k Q) = .ok (.bl k.ready) (shS P k Q) := by
  rw [callN_eq (df := d_Shake_is_ready) rfl rfl]
  unfold Shk.ready
  by_cases h : k.ph = 2
  · simp [d_Shake_is_ready, Def.start, h]
  · by_cases h2 : k.ask.bit = 0 <;> simp [d_Shake_is_ready, Def.start, h, h2]
def Shk.send (k : Shk) (w : Int) : Shk := { k with word := w, sent := k.sent ++ [w], ask := k.ask.turn (1 - k.ask.bit) }
@[simp] theorem turn_ask {k : Shk} {b : Int} : callN (mk dl) dr W (n + 1) 1044 [.ref (P.length + 1), .int b] (shS P k Q) = .ok .non (shS P { k with ask := k.ask.turn b } Q) := by
  have := sig_turn (dl := dl) (dr := dr) (W := W) (n := n) (P := P ++ [shC P.length k]) (g := k.ask) (b := b) (Q := sigC k.ans :: .lst (k.sent.map .int) :: .lst (k.got.map .int) :: Q)
  simpa [shS, shC] using this
@[simp] theorem turn_ans {k : Shk} {b : Int} : callN (mk dl) dr W (n + 1) 1044 [.ref (P.length + 2), .int b] (shS P k Q) = .ok .non (shS P { k with ans := k.ans.turn b } Q) := by
  have := sig_turn (dl := dl) (dr := dr) (W := W) (n := n) (P := P ++ [shC P.length k, sigC k.ask]) (g := k.ans) (b := b) (Q := .lst (k.sent.map .int) :: .lst (k.got.map .int) :: Q)
  simpa [shS, shC] using this
theorem read_ask {k : Shk} {late : Bool} {x : Int} (h : k.ask.seen.getLast? = some x) (hl : k.ask.seen.length ≤ 1000) : callN (mk dl) dr W (n + 1) 1042 [.ref (P.length + 1), .bl late] (shS P k Q) = .ok (.int x) (shS P { k with ask := k.ask.read late } Q) := by
  have := sig_read (dl := dl) (dr := dr) (W := W) (n := n) (P := P ++ [shC P.length k]) (g := k.ask) (late := late) (Q := sigC k.ans :: .lst (k.sent.map .int) :: .lst (k.got.map .int) :: Q) h hl
  simpa [shS, shC] using this
theorem read_ans {k : Shk} {late : Bool} {x : Int} (h : k.ans.seen.getLast? = some x) (hl : k.ans.seen.length ≤ 1000) : callN (mk dl) dr W (n + 1) 1042 [.ref (P.length + 2), .bl late] (shS P k Q) = .ok (.int x) (shS P { k with ans := k.ans.read late } Q) := by
  have := sig_read (dl := dl) (dr := dr) (W := W) (n := n) (P := P ++ [shC P.length k, sigC k.ask]) (g := k.ans) (late := late) (Q := .lst (k.sent.map .int) :: .lst (k.got.map .int) :: Q) h hl
  simpa [shS, shC] using this
theorem need_word {w : Int} (h0 : 0 ≤ w) (h1 : w ≤ 255) {x : D} {S : Sto} : callN (mk dl) dr W (n + 2) 62 [.int w, x, .int 0, .int 255] S = .ok .non S := by
  rw [need_number_any rfl, if_pos (by simp [isNumB]; omega)]
theorem shk_send {k : Shk} {w : Int} (h0 : 0 ≤ w) (h1 : w ≤ 255) (hr : k.ready = true) (hl : k.sent.length ≤ 100000) : callN (mk dl) dr W (n + 3) 1035 [.ref P.length, .int w] (shS P k Q) = .ok .non (shS P (k.send w) Q) := by
  rw [callN_eq (df := d_Shake_send) rfl rfl]
  simp [d_Shake_send, Def.start, binds, need_word h0 h1, hr, show k.sent.length < 16777216 by omega, Shk.send]
theorem shk_send_no {k : Shk} {w : Int} (h0 : 0 ≤ w) (h1 : w ≤ 255) (hr : k.ready = false) : callN (mk dl) dr W (n + 3) 1035 [.ref P.length, .int w] (shS P k Q) = .exc 11 (.int k.word) (shS P k Q) := by
  rw [callN_eq (df := d_Shake_send) rfl rfl]
  simp [d_Shake_send, Def.start, binds, need_word h0 h1, hr]
/-- the holders of both sides are so many -/
structure Shk.Ok (k : Shk) (d : Nat) : Prop where
  a : k.ask.seen.length = d
  b : k.ans.seen.length = d
def lastI (xs : List Int) : Int := (xs.getLast?).getD 0
def Shk.tickA (k : Shk) (late : Bool) : Shk :=
  let k' := { k with ans := k.ans.read late, told := lastI k.ans.seen }
  if k'.ph = 4 ∧ k'.ask.bit = 1 ∧ k'.told = 1 then { k' with ask := k'.ask.turn 0 } else k'
def Shk.isNew (k : Shk) : Bool := if k.ph = 2 then !decide (lastI k.ask.seen = k.asked) else (decide (lastI k.ask.seen = 1) && decide (k.asked = 0))
def Shk.tickB (k : Shk) (late : Bool) : Shk := { k with ask := k.ask.read late, asked := lastI k.ask.seen, got := if k.isNew = true then k.got ++ [k.word] else k.got, ans := k.ans.turn (lastI k.ask.seen) }
theorem last_some {d : Nat} {xs : List Int} (h : xs.length = d) (h1 : 1 ≤ d) : xs.getLast? = some (lastI xs) := by
  unfold lastI
  cases e : xs.getLast? with
  | none => rw [List.getLast?_eq_none_iff] at e; subst e; simp at h; omega
  | some x => rfl
theorem shk_tick_a {k : Shk} {d : Nat} {late : Bool} (hk : k.Ok d) (h1 : 1 ≤ d) (h9 : d ≤ 9) : callN (mk dl) dr W (n + 2) 1037 [.ref P.length, .bl late] (shS P k Q) = .ok .non (shS P (k.tickA late) Q) := by
  rw [callN_eq (df := d_Shake_tick_a) rfl rfl]
  have c := read_ans (dl := dl) (dr := dr) (W := W) (n := n) (P := P) (Q := Q) (k := k) (late := late) (last_some hk.b h1) (by rw [hk.b]; omega)
  unfold Shk.tickA
  by_cases a1 : k.ph = 4
  · by_cases a2 : k.ask.bit = 1
    · by_cases a3 : lastI k.ans.seen = 1
      · simp [d_Shake_tick_a, Def.start, binds, c, a1, a2, a3]
      · simp [d_Shake_tick_a, Def.start, binds, c, a1, a2, a3]
    · simp [d_Shake_tick_a, Def.start, binds, c, a1, a2]
  · simp [d_Shake_tick_a, Def.start, binds, c, a1]
theorem shk_tick_b {k : Shk} {d : Nat} {late : Bool} (hk : k.Ok d) (h1 : 1 ≤ d) (h9 : d ≤ 9) (hl : k.got.length ≤ 100000) : callN (mk dl) dr W (n + 2) 1038 [.ref P.length, .bl late] (shS P k Q) = .ok (.bl k.isNew) (shS P (k.tickB late) Q) := by
  rw [callN_eq (df := d_Shake_tick_b) rfl rfl]
  have c := read_ask (dl := dl) (dr := dr) (W := W) (n := n) (P := P) (Q := Q) (k := k) (late := late) (last_some hk.a h1) (by rw [hk.a]; omega)
  have hl' : k.got.length < 16777216 := by omega
  unfold Shk.tickB Shk.isNew
  by_cases a1 : k.ph = 2
  · by_cases a2 : lastI k.ask.seen = k.asked
    · simp [d_Shake_tick_b, Def.start, binds, c, a1, a2]
    · simp [d_Shake_tick_b, Def.start, binds, c, a1, a2, hl']
  · by_cases a2 : lastI k.ask.seen = 1
    · by_cases a3 : k.asked = 0
      · simp [d_Shake_tick_b, Def.start, binds, c, a1, a2, a3, hl']
      · simp [d_Shake_tick_b, Def.start, binds, c, a1, a2, a3]
    · simp [d_Shake_tick_b, Def.start, binds, c, a1, a2]
end
end Mi

set_option maxRecDepth 100000
set_option maxHeartbeats 4000000
namespace Mi
theorem forL_sto {σ α : Type} {f : D → Env → Sto → SR} {t : α → D} {E : σ → Env} {T : σ → Sto} {g : σ → α → σ} {I : List α → σ → Prop} : ∀ (xs : List α) (s : σ), I xs s → (∀ a r s, I (a :: r) s → f (t a) (E s) (T s) = .ok (.nx (E (g s a))) (T (g s a)) ∧ I r (g s a)) →
    forL f (xs.map t) (E s) (T s) = .ok (.nx (E (xs.foldl g s))) (T (xs.foldl g s)) ∧ I [] (xs.foldl g s)
  | [], s, hI, _ => ⟨rfl, hI⟩
  | a :: xs, s, hI, h => by
    obtain ⟨h1, h2⟩ := h a xs s hI
    simp only [List.map_cons, forL, h1, SR.next, List.foldl_cons]
    exact forL_sto xs (g s a) h2 h
def sideD (b : Bool) : D := .str [if b = true then 98 else 97]
def Shk.tick (k : Shk) (b late : Bool) : Shk := if b = true then k.tickB late else k.tickA late
def Shk.tell (k : Shk) (b : Bool) : D := if (b && k.isNew) = true then .int k.word else .non
section
variable {dl : Def} {dr : Int → Int → Int} {W n : Nat} {P Q : Sto}
theorem shk_tick {k : Shk} {d : Nat} {b late : Bool} (hk : k.Ok d) (h1 : 1 ≤ d) (h9 : d ≤ 9) (hl : k.got.length ≤ 100000) : callN (mk dl) dr W (n + 3) 1036 [.ref P.length, sideD b, .bl late] (shS P k Q) = .ok (k.tell b) (shS P (k.tick b late) Q) := by
  rw [callN_eq (df := d_Shake_tick) rfl rfl]
  have ca := shk_tick_a (dl := dl) (dr := dr) (W := W) (n := n) (P := P) (Q := Q) (late := late) hk h1 h9
  have cb := shk_tick_b (dl := dl) (dr := dr) (W := W) (n := n) (P := P) (Q := Q) (late := late) hk h1 h9 hl
  unfold Shk.tick Shk.tell sideD
  cases b
  · have e1 : eqB (.str [97]) (.str [97]) = some true := rfl
    have e2 : inB (.str [97]) (.tup [.str [97], .str [98]]) = some true := rfl
    simp [d_Shake_tick, Def.start, isK, cmpB, e1, e2, binds, ca]
  · have e1 : eqB (.str [98]) (.str [97]) = some false := rfl
    have e2 : inB (.str [98]) (.tup [.str [97], .str [98]]) = some true := rfl
    cases hn : k.isNew
    · rw [hn] at cb
      simp [d_Shake_tick, Def.start, isK, cmpB, e1, e2, binds, cb]
    · rw [hn] at cb
      have e3 : nth ((k.tickB late).got.map D.int) (-1) = some (.int k.word) := nth_lst (by simp [Shk.tickB, hn])
      simp [d_Shake_tick, Def.start, isK, cmpB, e1, e2, binds, cb, idxB, e3]
theorem shk_sent {k : Shk} : callN (mk dl) dr W (n + 1) 1040 [.ref P.length] (shS P k Q) = .ok (il k.sent) (shS P k Q) := by
  rw [callN_eq (df := d_Shake_words_sent) rfl rfl]
  simp [d_Shake_words_sent, Def.start, bltB]
theorem shk_got {k : Shk} : callN (mk dl) dr W (n + 1) 1039 [.ref P.length] (shS P k Q) = .ok (il k.got) (shS P k Q) := by
  rw [callN_eq (df := d_Shake_words_got) rfl rfl]
  simp [d_Shake_words_got, Def.start, bltB]
theorem shk_len {k : Shk} (h : k.got.length ≤ k.sent.length) : callN (mk dl) dr W (n + 1) 1032 [.ref P.length] (shS P k Q) = .ok (.int ((k.sent.length - k.got.length : Nat) : Int)) (shS P k Q) := by
  rw [callN_eq (df := d_Shake___len__) rfl rfl]
  have e : cut (k.sent.map D.int) (some (k.got.length : Int)) none = (k.sent.map D.int).drop k.got.length := by
    unfold cut clip
    dsimp only
    rw [if_neg (by omega)]
    simp only [Int.toNat_natCast, List.length_map]
    rw [Nat.min_eq_left h, List.take_of_length_le (by simp)]
  simp [d_Shake___len__, Def.start, bltB, part, isOut, slcB, e]
theorem shk_flags {k : Shk} {d : Nat} (hk : k.Ok d) (h9 : d ≤ 9) : callN (mk dl) dr W (n + 2) 1033 [.ref P.length] (shS P k Q) = .ok (.tup [.tup [.int k.ask.bit, .tup (k.ask.seen.map .int)], .tup [.int k.ans.bit, .tup (k.ans.seen.map .int)]]) (shS P k Q) := by
  rw [callN_eq (df := d_Shake_flags) rfl rfl]
  have c1 : callN (mk dl) dr W (n + 1) 1043 [.ref (P.length + 1)] (shS P k Q) = .ok (.tup [.int k.ask.bit, .tup (k.ask.seen.map .int)]) (shS P k Q) := by
    have := sig_shown (dl := dl) (dr := dr) (W := W) (n := n) (P := P ++ [shC P.length k]) (g := k.ask) (Q := sigC k.ans :: .lst (k.sent.map .int) :: .lst (k.got.map .int) :: Q) (by rw [hk.a]; omega)
    simpa [shS, shC] using this
  have c2 : callN (mk dl) dr W (n + 1) 1043 [.ref (P.length + 2)] (shS P k Q) = .ok (.tup [.int k.ans.bit, .tup (k.ans.seen.map .int)]) (shS P k Q) := by
    have := sig_shown (dl := dl) (dr := dr) (W := W) (n := n) (P := P ++ [shC P.length k, sigC k.ask]) (g := k.ans) (Q := .lst (k.sent.map .int) :: .lst (k.got.map .int) :: Q) (by rw [hk.b]; omega)
    simpa [shS, shC] using this
  simp [d_Shake_flags, Def.start, binds, c1, c2]
theorem mk_shake {F : Fns} {d : Nat} {ph : Int} (h1 : 1 ≤ d) (h9 : d ≤ 9) (hp : ph = 2 ∨ ph = 4) {S : Sto} : callN (mk dl) dr W (n + 3) 1031 [.ref S.length, .int d, .int ph] (S ++ [.ins 1 []]) = .ok .non (shS S (Shk.new d ph) []) := shk_init h1 h9 hp
theorem shk_new_ok (d : Nat) (ph : Int) : (Shk.new d ph).Ok d := ⟨by simp [Shk.new, Sig.new], by simp [Shk.new, Sig.new]⟩
theorem ok_tick {k : Shk} {d : Nat} {b late : Bool} (hk : k.Ok d) : (k.tick b late).Ok d := by
  have hr : ∀ (g : Sig) (l : Bool), (g.read l).seen.length = g.seen.length := fun g l => by simp [Sig.read]
  have ht : ∀ (g : Sig) (x : Int), (g.turn x).seen = g.seen := fun g x => by unfold Sig.turn; split <;> rfl
  unfold Shk.tick
  split
  · exact ⟨by simp only [Shk.tickB, hr, hk.a], by simp only [Shk.tickB, ht, hk.b]⟩
  · unfold Shk.tickA
    simp only
    split
    · exact ⟨by simp only [ht, hk.a], by simp only [hr, hk.b]⟩
    · exact ⟨hk.a, by simp only [hr, hk.b]⟩
theorem ok_send {k : Shk} {d : Nat} {w : Int} (hk : k.Ok d) : (k.send w).Ok d := by
  have ht : ∀ (g : Sig) (x : Int), (g.turn x).seen = g.seen := fun g x => by unfold Sig.turn; split <;> rfl
  exact ⟨by simp only [Shk.send, ht, hk.a], by simp only [Shk.send, hk.b]⟩
def stepL (s : Shk × List Int) : Shk × List Int := match s.2 with
  | [] => s
  | w :: r => if s.1.ready = true then (s.1.send w, r) else s
def stepS (s : Shk × List Int) (t : Bool × Bool) : Shk × List Int := ((stepL s).1.tick t.1 t.2, (stepL s).2)
def tkD (t : Bool × Bool) : D := .tup [sideD t.1, .bl t.2]
@[simp] theorem sh_5 {k : Shk} {c : Cell} : (shS P k (c :: Q))[P.length + 5]? = some c := by simp [shS]
@[simp] theorem sh_put5 {k : Shk} {c c' : Cell} : (shS P k (c :: Q)).set (P.length + 5) c' = shS P k (c' :: Q) := by simp [shS, List.set_append]
@[simp] theorem sh_d5 {k : Shk} {xs : List D} : drf (shS P k (.lst xs :: Q)) (.ref (P.length + 5)) = .lst xs := by simp [drf]
theorem ne_nil_il (xs : List Int) : cmpB .ne (.lst (xs.map .int)) (.lst []) = some (!xs.isEmpty) := by
  cases xs with
  | nil => rfl
  | cons x xs => 
    simp only [cmpB, List.map_cons]
    rw [eq_nil _ _ (by have := flats_il 59 (x :: xs); simpa [D.flat] using this)]
    rfl
/-- what holds through the ticks -/
structure LInv (d : Nat) (m : Nat) (s : Shk × List Int) : Prop where
  ok : s.1.Ok d
  wd : ∀ w ∈ s.2, 0 ≤ w ∧ w ≤ 255
  se : s.1.sent.length + s.2.length ≤ 10000
  ge : s.1.got.length + m ≤ 10000
theorem got_tick {k : Shk} {b late : Bool} : (k.tick b late).got.length ≤ k.got.length + 1 := by
  unfold Shk.tick Shk.tickB Shk.tickA
  split
  · simp only
    split <;> simp
  · simp only
    split <;> simp
theorem sent_tick {k : Shk} {b late : Bool} : (k.tick b late).sent = k.sent := by
  unfold Shk.tick Shk.tickB Shk.tickA
  split
  · rfl
  · simp only
    split <;> rfl
theorem linv_stepL {d m : Nat} {s : Shk × List Int} (h : LInv d m s) : LInv d m (stepL s) := by
  obtain ⟨k, l⟩ := s
  unfold stepL
  cases l with
  | nil => exact h
  | cons w r =>
    simp only
    split
    · refine ⟨ok_send h.ok, fun x hx => h.wd x (List.mem_cons_of_mem _ hx), ?_, ?_⟩
      · have := h.se
        simp only [Shk.send, List.length_append, List.length_cons, List.length_nil] at this ⊢
        omega
      · exact h.ge
    · exact h
theorem linv_step {d m : Nat} {s : Shk × List Int} {t : Bool × Bool} (h : LInv d (m + 1) s) : LInv d m (stepS s t) := by
  have h' := linv_stepL h
  refine ⟨ok_tick h'.ok, h'.wd, ?_, ?_⟩
  · have := h'.se
    simp only [stepS, sent_tick]
    exact this
  · have := h'.ge
    have := got_tick (k := (stepL s).1) (b := t.1) (late := t.2)
    simp only [stepS]
    omega
theorem led_turn {d m : Nat} (h1 : 1 ≤ d) (h9 : d ≤ 9) {s : Shk × List Int} (h : LInv d (m + 1) s) {t : Bool × Bool} {e0 e1 e2 e3 p5 p6 p8 p9 : Pl} :
    forF ⟨callN (mk dl) dr W (n + 3), dr⟩ W (.t [.v 8, .v 9]) d_led_over_b0 (tkD t) [e0, e1, e2, e3, .fz (.ref P.length), p5, p6, .fz (.ref (P.length + 5)), p8, p9] (shS P s.1 (.lst (s.2.map .int) :: Q)) =
      .ok (.nx [e0, e1, e2, e3, .fz (.ref P.length), p5, p6, .fz (.ref (P.length + 5)), .fz (sideD t.1), .fz (.bl t.2)]) (shS P (stepS s t).1 (.lst ((stepS s t).2.map .int) :: Q)) := by
  obtain ⟨k, l⟩ := s
  have tk : ∀ (k' : Shk) (l' : List Int), LInv d (m + 1) (k', l') → callN (mk dl) dr W (n + 3) 1036 [.ref P.length, sideD t.1, .bl t.2] (shS P k' (.lst (l'.map .int) :: Q)) = .ok (k'.tell t.1) (shS P (k'.tick t.1 t.2) (.lst (l'.map .int) :: Q)) := fun k' l' hh => shk_tick hh.ok h1 h9 (by have := hh.ge; simp only at this; omega)
  have hs : LInv d (m + 1) (stepL (k, l)) := linv_stepL h
  unfold stepS
  cases l with
  | nil =>
    have t1 := tk k [] h
    have ne := ne_nil_il []
    simp only [List.map_nil] at t1 ne
    simp [tkD, d_led_over_b0, ne, binds, stepL, t1]
  | cons w r =>
    have hw := h.wd w List.mem_cons_self
    have hl := h.se
    simp only [List.length_cons] at hl
    have ne := ne_nil_il (w :: r)
    cases hr : k.ready with
    | false =>
      have e : stepL (k, w :: r) = (k, w :: r) := by simp [stepL, hr]
      have t1 := tk k (w :: r) h
      simp only [List.map_cons] at t1 ne
      rw [e]
      simp [tkD, d_led_over_b0, ne, binds, hr, t1]
    | true =>
      have e : stepL (k, w :: r) = (k.send w, r) := by simp [stepL, hr]
      rw [e] at hs ⊢
      have t1 := tk (k.send w) r hs
      simp only [List.map_cons] at ne
      have c2 := shk_send (dl := dl) (dr := dr) (W := W) (n := n) (P := P) (Q := .lst (r.map .int) :: Q) (k := k) hw.1 hw.2 hr (by omega)
      simp [tkD, d_led_over_b0, ne, binds, hr, popB, c2, t1]
theorem led_loop {d : Nat} (h1 : 1 ≤ d) (h9 : d ≤ 9) {e0 e1 e2 e3 p5 p6 : Pl} (ts : List (Bool × Bool)) (s : Shk × List Int) (p8 p9 : Pl) (h : LInv d ts.length s) :
    ∃ q8 q9, forL (forF ⟨callN (mk dl) dr W (n + 3), dr⟩ W (.t [.v 8, .v 9]) d_led_over_b0) (ts.map tkD) [e0, e1, e2, e3, .fz (.ref P.length), p5, p6, .fz (.ref (P.length + 5)), p8, p9] (shS P s.1 (.lst (s.2.map .int) :: Q)) =
      .ok (.nx [e0, e1, e2, e3, .fz (.ref P.length), p5, p6, .fz (.ref (P.length + 5)), q8, q9]) (shS P (ts.foldl stepS s).1 (.lst ((ts.foldl stepS s).2.map .int) :: Q)) ∧ LInv d 0 (ts.foldl stepS s) := by
  induction ts generalizing s p8 p9 with
  | nil => exact ⟨p8, p9, rfl, h⟩
  | cons t ts ih =>
    have e := led_turn (dl := dl) (dr := dr) (W := W) (n := n) (P := P) (Q := Q) (m := ts.length) h1 h9 (s := s) h (t := t) (e0 := e0) (e1 := e1) (e2 := e2) (e3 := e3) (p5 := p5) (p6 := p6) (p8 := p8) (p9 := p9)
    obtain ⟨q8, q9, e2, e3⟩ := ih (stepS s t) _ _ (linv_step h)
    refine ⟨q8, q9, ?_, e3⟩
    simp only [List.map_cons, forL, e, next_nx, List.foldl_cons]
    exact e2
theorem led_over_run {d : Nat} {ph : Int} (h1 : 1 ≤ d) (h9 : d ≤ 9) (hp : ph = 2 ∨ ph = 4) {ws : List Int} (hw : ∀ w ∈ ws, 0 ≤ w ∧ w ≤ 255) (hl : ws.length ≤ 1000) {ts : List (Bool × Bool)} (ht : ts.length ≤ 1000) {S : Sto} :
    callN (mk dl) dr W (n + 4) 41 [il ws, .lst (ts.map tkD), .int d, .int ph] S = .ok (il (ts.foldl stepS (Shk.new d ph, ws)).1.got) (shS S (ts.foldl stepS (Shk.new d ph, ws)).1 [.lst ((ts.foldl stepS (Shk.new d ph, ws)).2.map .int)]) := by
  rw [callN_eq (df := d_led_over) rfl rfl]
  have c0 := shk_init (dl := dl) (dr := dr) (W := W) (n := n) (P := S) (d := d) (ph := ph) h1 h9 hp
  have hI : LInv d ts.length (Shk.new d ph, ws) := ⟨shk_new_ok d ph, hw, by simp [Shk.new]; omega, by simp [Shk.new]; omega⟩
  obtain ⟨q8, q9, e, e'⟩ := led_loop (dl := dl) (dr := dr) (W := W) (n := n) (P := S) (Q := []) (e0 := .fz (il ws)) (e1 := .fz (.lst (ts.map tkD))) (e2 := .fz (.int d)) (e3 := .fz (.int ph)) (p5 := .un) (p6 := .un) h1 h9 ts (Shk.new d ph, ws) .un .un hI
  have a1 : evE ⟨callN (mk dl) dr W (n + 3), dr⟩ (.lc (.call 30 [(.var 5), (.cst (.int 0)), (.cst (.int 255))] [] [.inl 0, .inl 1, .inl 2]) (.v 5) (.var 0) (.cst (.bl true))) [.fz (il ws), .fz (.lst (ts.map tkD)), .fz (.int d), .fz (.int ph), .fz (.ref S.length), .un, .un, .un, .un, .un] (shS S (Shk.new d ph) []) = .ok (.lst (ws.map fun w => .bl (isNumB (.int w) 0 255))) (shS S (Shk.new d ph) []) := by
    simp only [evE_lc, rd_var, List.getElem?_cons_zero, bind_ok, itB_lst, slots_v]
    rw [if_pos (by simp [okW]; omega), lcL_mapT (g := fun w => .bl (isNumB (.int w) 0 255))]
    · rfl
    · intro w hw
      simp [wipS, binds, is_number_any (d := .int w) rfl]
  have a2 : evE ⟨callN (mk dl) dr W (n + 3), dr⟩ (.lc (.and [(.isi (.var 6) .tuple), (.cmp .eq (.blt .len [(.var 6)]) (.cst (.int 2)))]) (.v 6) (.var 1) (.cst (.bl true))) [.fz (il ws), .fz (.lst (ts.map tkD)), .fz (.int d), .fz (.int ph), .fz (.ref S.length), .un, .un, .un, .un, .un] (shS S (Shk.new d ph) []) = .ok (.lst (ts.map fun w => .bl true)) (shS S (Shk.new d ph) []) := by
    simp only [evE_lc, rd_var, List.getElem?_cons_zero, List.getElem?_cons_succ, bind_ok, itB_lst, slots_v]
    rw [if_pos (by simp [okW]; omega), lcL_mapT (g := fun w => .bl true)]
    · rfl
    · intro w hw
      simp [wipS, tkD, isK, bltB]
  have a3 : ws.all (fun w => isNumB (.int w) 0 255) = true := by
    simp only [List.all_eq_true]
    intro w h
    have := hw w h
    simp [isNumB]; omega
  have b1 := allB (fun w => isNumB (.int w) 0 255) ws
  have b2 := allB (fun _ => true) ts
  rw [a3] at b1
  rw [show ts.all (fun _ => true) = true by simp] at b2
  have s0 : exSs ⟨callN (mk dl) dr W (n + 3), dr⟩ W [.set (.v 4) (.mk 1 1031 [] [(.var 2), (.var 3)] [.inl 0, .inl 1, .inl 2])] [.fz (il ws), .fz (.lst (ts.map tkD)), .fz (.int d), .fz (.int ph), .un, .un, .un, .un, .un, .un] S = .ok (.nx [.fz (il ws), .fz (.lst (ts.map tkD)), .fz (.int d), .fz (.int ph), .fz (.ref S.length), .un, .un, .un, .un, .un]) (shS S (Shk.new d ph) []) := by
    simp [binds, c0]
  have s1 : exSs ⟨callN (mk dl) dr W (n + 3), dr⟩ W [.ite (.or [(.not (.isi (.var 0) .list)), (.not (.blt .all [(.lc (.call 30 [(.var 5), (.cst (.int 0)), (.cst (.int 255))] [] [.inl 0, .inl 1, .inl 2]) (.v 5) (.var 0) (.cst (.bl true)))]))]) [.rse 8 (.cst (.str [119, 111, 114, 100]))] []] [.fz (il ws), .fz (.lst (ts.map tkD)), .fz (.int d), .fz (.int ph), .fz (.ref S.length), .un, .un, .un, .un, .un] (shS S (Shk.new d ph) []) = .ok (.nx [.fz (il ws), .fz (.lst (ts.map tkD)), .fz (.int d), .fz (.int ph), .fz (.ref S.length), .un, .un, .un, .un, .un]) (shS S (Shk.new d ph) []) := by
    simp only [exSs_cons, exSs_nil, exS_ite, evE_or, evOr_two, evOr_one, evE_not, evE_isi, rd_var, List.getElem?_cons_zero, bind_ok, isK, Option.map_some, of_some, Bool.not_true, evE_blt, evRs_cons, evRs_nil, rd_lc, a1, b1, srof_ok, next_nx]
  have s2 : exSs ⟨callN (mk dl) dr W (n + 3), dr⟩ W [.ite (.or [(.not (.isi (.var 1) .list)), (.not (.blt .all [(.lc (.and [(.isi (.var 6) .tuple), (.cmp .eq (.blt .len [(.var 6)]) (.cst (.int 2)))]) (.v 6) (.var 1) (.cst (.bl true)))]))]) [.rse 5 (.cst (.str [110, 111, 32, 116, 105, 99, 107, 115]))] []] [.fz (il ws), .fz (.lst (ts.map tkD)), .fz (.int d), .fz (.int ph), .fz (.ref S.length), .un, .un, .un, .un, .un] (shS S (Shk.new d ph) []) = .ok (.nx [.fz (il ws), .fz (.lst (ts.map tkD)), .fz (.int d), .fz (.int ph), .fz (.ref S.length), .un, .un, .un, .un, .un]) (shS S (Shk.new d ph) []) := by
    simp only [exSs_cons, exSs_nil, exS_ite, evE_or, evOr_two, evOr_one, evE_not, evE_isi, rd_var, List.getElem?_cons_zero, List.getElem?_cons_succ, bind_ok, isK, Option.map_some, of_some, Bool.not_true, evE_blt, evRs_cons, evRs_nil, rd_lc, a2, b2, srof_ok, next_nx]
  have s3 : exSs ⟨callN (mk dl) dr W (n + 3), dr⟩ W [.set (.v 7) (.new (.bltC .list (.var 0)))] [.fz (il ws), .fz (.lst (ts.map tkD)), .fz (.int d), .fz (.int ph), .fz (.ref S.length), .un, .un, .un, .un, .un] (shS S (Shk.new d ph) []) = .ok (.nx [.fz (il ws), .fz (.lst (ts.map tkD)), .fz (.int d), .fz (.int ph), .fz (.ref S.length), .un, .un, .fz (.ref (S.length + 5)), .un, .un]) (shS S (Shk.new d ph) [.lst (ws.map .int)]) := by
    simp [bltB, shS, Shk.new]
  have s4 : exSs ⟨callN (mk dl) dr W (n + 3), dr⟩ W [.for_ (.t [(.v 8), (.v 9)]) (.var 1) d_led_over_b0] [.fz (il ws), .fz (.lst (ts.map tkD)), .fz (.int d), .fz (.int ph), .fz (.ref S.length), .un, .un, .fz (.ref (S.length + 5)), .un, .un] (shS S (Shk.new d ph) [.lst (ws.map .int)]) = .ok (.nx [.fz (il ws), .fz (.lst (ts.map tkD)), .fz (.int d), .fz (.int ph), .fz (.ref S.length), .un, .un, .fz (.ref (S.length + 5)), q8, q9]) (shS S (ts.foldl stepS (Shk.new d ph, ws)).1 [.lst ((ts.foldl stepS (Shk.new d ph, ws)).2.map .int)]) := by
    simp only [exSs_cons, exSs_nil, exS_for, noOwnIt, evE_var, List.getElem?_cons_zero, List.getElem?_cons_succ, if_true, srof_ok, itB_lst, e, next_nx]
  have s5 : exSs ⟨callN (mk dl) dr W (n + 3), dr⟩ W [.ret (.meth 1 1039 (.var 4) [] [] [.inl 0])] [.fz (il ws), .fz (.lst (ts.map tkD)), .fz (.int d), .fz (.int ph), .fz (.ref S.length), .un, .un, .fz (.ref (S.length + 5)), q8, q9] (shS S (ts.foldl stepS (Shk.new d ph, ws)).1 [.lst ((ts.foldl stepS (Shk.new d ph, ws)).2.map .int)]) = .ok (.rt (il (ts.foldl stepS (Shk.new d ph, ws)).1.got)) (shS S (ts.foldl stepS (Shk.new d ph, ws)).1 [.lst ((ts.foldl stepS (Shk.new d ph, ws)).2.map .int)]) := by
    simp [binds, shk_got]
  have app : ∀ {F : Fns} {s : St} {ss : List St} {env env' : Env} {S S' : Sto}, exSs F W [s] env S = .ok (.nx env') S' → exSs F W (s :: ss) env S = exSs F W ss env' S' := by
    intro F s ss env env' S S' h
    simp only [exSs_cons, exSs_nil] at h ⊢
    cases e : exS F W s env S with
    | ok f S1 =>
      cases f with
      | nx e1 => rw [e] at h; simp only [next_nx, exSs_nil, SR.ok.injEq, Fl.nx.injEq] at h ⊢; rw [h.1, h.2]
      | rt d => rw [e] at h; cases h
    | exc c d e1 S1 => rw [e] at h; cases h
    | stuck => rw [e] at h; cases h
  show (exSs _ W (_ :: _ :: _ :: _ :: _ :: [.ret (.meth 1 1039 (.var 4) [] [] [.inl 0])]) [.fz (il ws), .fz (.lst (ts.map tkD)), .fz (.int d), .fz (.int ph), .un, .un, .un, .un, .un, .un] S).fin = _
  rw [app s0, app s1, app s2, app s3, app s4, s5]
  rfl
end
end Mi

set_option maxRecDepth 100000
set_option maxHeartbeats 4000000
namespace Mi
structure SB where
  bit : Bool
  was : Bool
  fresh : Bool
  seen : List Bool
  deriving DecidableEq
structure CB where
  ask : SB
  ans : SB
  asked : Bool
  told : Bool
  deriving DecidableEq
def b2i (b : Bool) : Int := if b = true then 1 else 0
def SB.sig (g : SB) : Sig := ⟨b2i g.bit, b2i g.was, g.fresh, g.seen.map b2i⟩
def phI (four : Bool) : Int := if four = true then 4 else 2
def CB.shk (c : CB) (four : Bool) (word : Int) (sent got : List Int) : Shk := ⟨phI four, c.ask.sig, c.ans.sig, word, b2i c.asked, b2i c.told, sent, got⟩
def SB.turn (g : SB) (b : Bool) : SB := if b = g.bit then g else ⟨b, g.bit, true, g.seen⟩
def SB.read (g : SB) (late : Bool) : SB := ⟨g.bit, g.was, false, ((if (g.fresh && late) = true then g.was else g.bit) :: g.seen).dropLast⟩
def lastB (xs : List Bool) : Bool := (xs.getLast?).getD false
def CB.ready (four : Bool) (c : CB) : Bool := if four = true then !c.ask.bit && !c.told else c.ask.bit == c.told
def CB.send (c : CB) : CB := { c with ask := c.ask.turn (!c.ask.bit) }
def CB.tickA (four : Bool) (c : CB) (late : Bool) : CB :=
  if (four && c.ask.bit && lastB c.ans.seen) = true then ⟨c.ask.turn false, c.ans.read late, c.asked, lastB c.ans.seen⟩ else ⟨c.ask, c.ans.read late, c.asked, lastB c.ans.seen⟩
def CB.isNew (four : Bool) (c : CB) : Bool := if four = true then lastB c.ask.seen && !c.asked else lastB c.ask.seen != c.asked
def CB.tickB (c : CB) (late : Bool) : CB := ⟨c.ask.read late, c.ans.turn (lastB c.ask.seen), lastB c.ask.seen, c.told⟩
theorem b2i_inj {a b : Bool} : b2i a = b2i b ↔ a = b := by cases a <;> cases b <;> simp [b2i]
theorem b2i_dec (a b : Bool) : decide (b2i a = b2i b) = (a == b) := by cases a <;> cases b <;> rfl
theorem sig_turnB (g : SB) (b : Bool) : g.sig.turn (b2i b) = (g.turn b).sig := by
  unfold Sig.turn SB.turn
  by_cases h : b = g.bit
  · rw [if_pos h, if_pos (by rw [h]; rfl)]
  · rw [if_neg h, if_neg (by rw [show g.sig.bit = b2i g.bit from rfl, b2i_inj]; exact h)]; rfl
theorem sig_readB (g : SB) (l : Bool) : g.sig.read l = (g.read l).sig := by
  unfold Sig.read SB.read SB.sig
  simp only [List.map_dropLast, List.map_cons]
  cases (g.fresh && l) <;> rfl
theorem lastI_B (xs : List Bool) : lastI (xs.map b2i) = b2i (lastB xs) := by
  unfold lastI lastB
  rw [List.getLast?_map]
  cases xs.getLast? <;> rfl
section
variable {four : Bool} {c : CB} {w : Int} {se ge : List Int}
theorem cb_ready : (c.shk four w se ge).ready = c.ready four := by
  unfold Shk.ready CB.ready CB.shk
  cases four
  · exact b2i_dec _ _
  · show (decide (b2i c.ask.bit = b2i false) && decide (b2i c.told = b2i false)) = _
    rw [b2i_dec, b2i_dec]
    cases c.ask.bit <;> cases c.told <;> rfl
theorem cb_isNew : (c.shk four w se ge).isNew = c.isNew four := by
  unfold Shk.isNew CB.isNew CB.shk
  simp only [SB.sig, lastI_B]
  cases four
  · show (!decide (b2i _ = b2i _)) = _
    rw [b2i_dec]
    cases lastB c.ask.seen <;> cases c.asked <;> rfl
  · show (decide (b2i (lastB c.ask.seen) = b2i true) && decide (b2i c.asked = b2i false)) = _
    rw [b2i_dec, b2i_dec]
    cases lastB c.ask.seen <;> cases c.asked <;> rfl
theorem cb_send (w' : Int) : (c.shk four w se ge).send w' = c.send.shk four w' (se ++ [w']) ge := by
  unfold Shk.send CB.shk CB.send
  simp only
  rw [show (1 : Int) - c.ask.sig.bit = b2i (!c.ask.bit) by show (1 : Int) - b2i c.ask.bit = _; cases c.ask.bit <;> rfl, sig_turnB]
theorem cb_tickA (l : Bool) : (c.shk four w se ge).tickA l = (c.tickA four l).shk four w se ge := by
  unfold Shk.tickA CB.shk CB.tickA
  simp only [sig_readB]
  rw [show lastI c.ans.sig.seen = b2i (lastB c.ans.seen) from lastI_B _]
  by_cases h : (four && c.ask.bit && lastB c.ans.seen) = true
  · have h' := h
    simp only [Bool.and_eq_true] at h'
    rw [if_pos h, if_pos (by rw [h'.1.1, h'.2]; exact ⟨rfl, by show b2i c.ask.bit = 1; rw [h'.1.2]; rfl, rfl⟩)]
    rw [show (0 : Int) = b2i false from rfl, sig_turnB]
  · rw [if_neg h, if_neg]
    rintro ⟨h1, h2, h3⟩
    apply h
    have h2' : b2i c.ask.bit = 1 := h2
    cases four <;> cases hb : c.ask.bit <;> cases hs : lastB c.ans.seen <;> simp_all [phI, b2i]
theorem cb_tickB (l : Bool) : (c.shk four w se ge).tickB l = (c.tickB l).shk four w se (if c.isNew four = true then ge ++ [w] else ge) := by
  unfold Shk.tickB
  rw [cb_isNew]
  unfold CB.shk CB.tickB
  simp only [sig_readB]
  rw [show lastI c.ask.sig.seen = b2i (lastB c.ask.seen) from lastI_B _, sig_turnB]
end
abbrev CX := CB × Bool
def tkX (four : Bool) (x : CX) (b late : Bool) : CX := if b = true then (x.1.tickB late, x.2 && !x.1.isNew four) else (x.1.tickA four late, x.2)
def succX (four : Bool) (x : CX) : List CX := [tkX four x false false, tkX four x false true, tkX four x true false, tkX four x true true] ++ (if x.1.ready four = true then [(x.1.send, true)] else [])
def bfsX (four : Bool) : Nat → List CX → List CX → List CX
  | 0, seen, _ => seen
  | _, seen, [] => seen
  | n + 1, seen, x :: q => 
    let new := ((succX four x).filter fun y => !seen.contains y).eraseDups
    bfsX four n (seen ++ new) (q ++ new)
def CB.new (d : Nat) : CB := ⟨⟨false, false, false, List.replicate d false⟩, ⟨false, false, false, List.replicate d false⟩, false, false⟩
def RX (four : Bool) (d : Nat) : List CX := bfsX four 300 [(CB.new d, false)] [(CB.new d, false)]
def rndX (four : Bool) (x : CX) (k : Nat) : CX := tkX four (tkX four x false (k % 2 == 0)) true (k % 2 == 0)
def bbX (four : Bool) : Nat → CX → CX
  | 0, x => x
  | j + 1, x => tkX four (bbX four j x) true (j == 0)
def goodX (four : Bool) (d : Nat) (R : List CX) (x : CX) : Bool :=
  (succX four x).all (fun y => R.contains y) && ((!x.1.isNew four || x.2) && ((!x.1.ready four || !x.2) && (
    let y := (List.range (4 * d + 12)).foldl (rndX four) x
    ((y.1.ready four && !y.2) && (!x.1.ready four || ((List.range (d + 2)).all (fun j => (bbX four j (x.1.send, true)).2) && !(bbX four (d + 2) (x.1.send, true)).2))))))
def okX (four : Bool) (d : Nat) : Bool := (RX four d).contains (CB.new d, false) && (RX four d).all (goodX four d (RX four d))
theorem okX_all : ∀ four : Bool, ∀ d ∈ [1, 2, 3, 4], okX four d = true := by decide +kernel
/-- the shake stands so: its flags, whether a word is on its way -/
structure ShI (four : Bool) (d : Nat) (k : Shk) (x : CX) : Prop where
  eq : k = x.1.shk four k.word k.sent k.got
  mem : x ∈ RX four d
  wd : k.sent = k.got ++ (if x.2 = true then [k.word] else [])
theorem new_shk (four : Bool) (d : Nat) : Shk.new d (phI four) = (CB.new d).shk four 0 [] [] := by
  simp [Shk.new, CB.shk, CB.new, SB.sig, Sig.new, b2i]
section
variable {four : Bool} {d : Nat} {k : Shk} {x : CX}
theorem goodX_of (hd : d ∈ [1, 2, 3, 4]) (h : x ∈ RX four d) : goodX four d (RX four d) x = true := by
  have := okX_all four d hd
  simp only [okX, Bool.and_eq_true, List.all_eq_true] at this
  exact this.2 x h
theorem succ_mem (hd : d ∈ [1, 2, 3, 4]) (h : x ∈ RX four d) {y : CX} (hy : y ∈ succX four x) : y ∈ RX four d := by
  have := goodX_of hd h
  simp only [goodX, Bool.and_eq_true, List.all_eq_true] at this
  have := this.1 y hy
  simpa using this
theorem new_of (hd : d ∈ [1, 2, 3, 4]) (h : x ∈ RX four d) (hn : x.1.isNew four = true) : x.2 = true := by
  have := goodX_of hd h
  simp only [goodX, Bool.and_eq_true] at this
  have := this.2.1
  simpa [hn] using this
theorem ready_of (hd : d ∈ [1, 2, 3, 4]) (h : x ∈ RX four d) (hn : x.1.ready four = true) : x.2 = false := by
  have := goodX_of hd h
  simp only [goodX, Bool.and_eq_true] at this
  have := this.2.2.1
  simpa [hn] using this
theorem rounds_of (hd : d ∈ [1, 2, 3, 4]) (h : x ∈ RX four d) : ((List.range (4 * d + 12)).foldl (rndX four) x).1.ready four = true ∧ ((List.range (4 * d + 12)).foldl (rndX four) x).2 = false := by
  have := goodX_of hd h
  simp only [goodX, Bool.and_eq_true] at this
  have := this.2.2.2.1
  simpa using this
theorem send_of (hd : d ∈ [1, 2, 3, 4]) (h : x ∈ RX four d) (hn : x.1.ready four = true) : (∀ j < d + 2, (bbX four j (x.1.send, true)).2 = true) ∧ (bbX four (d + 2) (x.1.send, true)).2 = false := by
  have := goodX_of hd h
  simp only [goodX, Bool.and_eq_true] at this
  have := this.2.2.2.2
  simpa [hn] using this
theorem mem_tk (b l : Bool) : tkX four x b l ∈ succX four x := by
  unfold succX
  cases b <;> cases l <;> simp
theorem shi_new (hd : d ∈ [1, 2, 3, 4]) : ShI four d (Shk.new d (phI four)) (CB.new d, false) := by
  refine ⟨?_, ?_, ?_⟩
  · rw [new_shk]; rfl
  · have := okX_all four d hd
    simp only [okX, Bool.and_eq_true] at this
    simpa using this.1
  · rfl
theorem shi_ready (h : ShI four d k x) : k.ready = x.1.ready four := by
  rw [h.eq, cb_ready]
theorem shi_isNew (h : ShI four d k x) : k.isNew = x.1.isNew four := by
  rw [h.eq, cb_isNew]
theorem shi_send (hd : d ∈ [1, 2, 3, 4]) (h : ShI four d k x) (hr : k.ready = true) (w : Int) : ShI four d (k.send w) (x.1.send, true) := by
  have hx : x.1.ready four = true := by rw [← shi_ready h]; exact hr
  refine ⟨?_, ?_, ?_⟩
  · have e := h.eq
    have : k.send w = x.1.send.shk four w (k.sent ++ [w]) k.got := by
      rw [e]; exact cb_send w
    rw [this]; rfl
  · exact succ_mem hd h.mem (by unfold succX; simp [hx])
  · have := h.wd
    rw [ready_of hd h.mem hx] at this
    simp only [Shk.send]
    rw [this]
    simp
theorem shi_tick (hd : d ∈ [1, 2, 3, 4]) (h : ShI four d k x) (b l : Bool) : ShI four d (k.tick b l) (tkX four x b l) := by
  refine ⟨?_, succ_mem hd h.mem (mem_tk b l), ?_⟩
  · have e := h.eq
    cases b
    · have : k.tick false l = (x.1.tickA four l).shk four k.word k.sent k.got := by
        rw [e]; exact cb_tickA l
      rw [this]; rfl
    · have : k.tick true l = (x.1.tickB l).shk four k.word k.sent (if x.1.isNew four = true then k.got ++ [k.word] else k.got) := by
        rw [e]; exact cb_tickB l
      rw [this]; rfl
  · have hw := h.wd
    cases b
    · simp only [tkX, Shk.tick]
      have e := h.eq
      have : k.tickA l = (x.1.tickA four l).shk four k.word k.sent k.got := by
        rw [e]; exact cb_tickA l
      simp only [Bool.false_eq_true, if_false]
      rw [this]
      exact hw
    · have e := h.eq
      have : k.tickB l = (x.1.tickB l).shk four k.word k.sent (if x.1.isNew four = true then k.got ++ [k.word] else k.got) := by
        rw [e]; exact cb_tickB l
      simp only [tkX, Shk.tick, if_true]
      rw [this]
      show k.sent = (if x.1.isNew four = true then k.got ++ [k.word] else k.got) ++ (if (x.2 && !x.1.isNew four) = true then [k.word] else [])
      cases hn : x.1.isNew four
      · simpa using hw
      · have := new_of hd h.mem hn
        rw [this] at hw
        simpa using hw
theorem shi_ok (hk : ShI four d k x) (hx : ∀ y ∈ RX four d, y.1.ask.seen.length = d ∧ y.1.ans.seen.length = d) : k.Ok d := by
  rw [hk.eq]
  have := hx x hk.mem
  exact ⟨by simp [CB.shk, SB.sig, this.1], by simp [CB.shk, SB.sig, this.2]⟩
theorem shi_le (h : ShI four d k x) : k.got.length ≤ k.sent.length := by
  rw [h.wd]; simp
theorem shi_len (h : ShI four d k x) : k.sent.length - k.got.length = if x.2 = true then 1 else 0 := by
  rw [h.wd]
  cases x.2 <;> simp
end
end Mi

set_option maxRecDepth 100000
set_option maxHeartbeats 4000000
namespace Mi
section
variable {dl : Def} {dr : Int → Int → Int} {W n : Nat} {Q : Sto} {k : Shk}
@[simp] theorem z_0 : (shS [] k Q)[0]? = some (shC 0 k) := sh_0 (P := [])
@[simp] theorem z_1 : (shS [] k Q)[1]? = some (sigC k.ask) := sh_1 (P := [])
@[simp] theorem z_2 : (shS [] k Q)[2]? = some (sigC k.ans) := sh_2 (P := [])
@[simp] theorem z_3 : (shS [] k Q)[3]? = some (.lst (k.sent.map .int)) := sh_3 (P := [])
@[simp] theorem z_4 : (shS [] k Q)[4]? = some (.lst (k.got.map .int)) := sh_4 (P := [])
@[simp] theorem z_put (ph w a t : Int) : (shS [] k Q).set 0 (.ins 1 [(15, .int ph), (1, .ref (1)), (0, .ref (2)), (25, .int w), (2, .int a), (22, .int t), (19, .ref (3)), (9, .ref (4))]) = shS [] ⟨ph, k.ask, k.ans, w, a, t, k.sent, k.got⟩ Q := sh_put (P := []) _ _ _ _
@[simp] theorem z_put3 (ys : List Int) (w : Int) : (shS [] k Q).set (3) (.lst (ys.map .int ++ [.int w])) = shS [] { k with sent := ys ++ [w] } Q := sh_put3 (P := []) _ _
@[simp] theorem z_put4 (ys : List Int) (w : Int) : (shS [] k Q).set (4) (.lst (ys.map .int ++ [.int w])) = shS [] { k with got := ys ++ [w] } Q := sh_put4 (P := []) _ _
@[simp] theorem z_f15 : fldB (shS [] k Q) 15 (.ref 0) = some (.int k.ph) := sh_f15 (P := [])
@[simp] theorem z_f1 : fldB (shS [] k Q) 1 (.ref 0) = some (.ref (1)) := sh_f1 (P := [])
@[simp] theorem z_f0 : fldB (shS [] k Q) 0 (.ref 0) = some (.ref (2)) := sh_f0 (P := [])
@[simp] theorem z_f25 : fldB (shS [] k Q) 25 (.ref 0) = some (.int k.word) := sh_f25 (P := [])
@[simp] theorem z_f2 : fldB (shS [] k Q) 2 (.ref 0) = some (.int k.asked) := sh_f2 (P := [])
@[simp] theorem z_f22 : fldB (shS [] k Q) 22 (.ref 0) = some (.int k.told) := sh_f22 (P := [])
@[simp] theorem z_f19 : fldB (shS [] k Q) 19 (.ref 0) = some (.ref (3)) := sh_f19 (P := [])
@[simp] theorem z_f9 : fldB (shS [] k Q) 9 (.ref 0) = some (.ref (4)) := sh_f9 (P := [])
@[simp] theorem z_a3 : fldB (shS [] k Q) 3 (.ref (1)) = some (.int k.ask.bit) := sh_a3 (P := [])
@[simp] theorem z_b3 : fldB (shS [] k Q) 3 (.ref (2)) = some (.int k.ans.bit) := sh_b3 (P := [])
@[simp] theorem z_i0 : isIns (shS [] k Q) 0 1 = true := sh_i0 (P := [])
@[simp] theorem z_i1 : isIns (shS [] k Q) (1) 0 = true := sh_i1 (P := [])
@[simp] theorem z_i2 : isIns (shS [] k Q) (2) 0 = true := sh_i2 (P := [])
@[simp] theorem z_l3 : isLs (shS [] k Q) (.ref (3)) = true := sh_l3 (P := [])
@[simp] theorem z_l4 : isLs (shS [] k Q) (.ref (4)) = true := sh_l4 (P := [])
@[simp] theorem z_d3 : drf (shS [] k Q) (.ref (3)) = .lst (k.sent.map .int) := sh_d3 (P := [])
@[simp] theorem z_d4 : drf (shS [] k Q) (.ref (4)) = .lst (k.got.map .int) := sh_d4 (P := [])
@[simp] theorem z_5 {c : Cell} : (shS [] k (c :: Q))[5]? = some c := sh_5 (P := [])
@[simp] theorem z_put5 {c c' : Cell} : (shS [] k (c :: Q)).set (5) c' = shS [] k (c' :: Q) := sh_put5 (P := [])
@[simp] theorem z_d5 {xs : List D} : drf (shS [] k (.lst xs :: Q)) (.ref (5)) = .lst xs := sh_d5 (P := [])
@[simp] theorem z_ready : callN (mk dl) dr W (n + 1) 1034 [.ref 0] (shS [] k Q) = .ok (.bl k.ready) (shS [] k Q) := shk_ready (P := [])
theorem z_send {w : Int} (h0 : 0 ≤ w) (h1 : w ≤ 255) (hr : k.ready = true) (hl : k.sent.length ≤ 100000) : callN (mk dl) dr W (n + 3) 1035 [.ref 0, .int w] (shS [] k Q) = .ok .non (shS [] (k.send w) Q) := shk_send (P := []) h0 h1 hr hl
theorem z_send_no {w : Int} (h0 : 0 ≤ w) (h1 : w ≤ 255) (hr : k.ready = false) : callN (mk dl) dr W (n + 3) 1035 [.ref 0, .int w] (shS [] k Q) = .exc 11 (.int k.word) (shS [] k Q) := shk_send_no (P := []) h0 h1 hr
theorem z_tick {d : Nat} {b late : Bool} (hk : k.Ok d) (h1 : 1 ≤ d) (h9 : d ≤ 9) (hl : k.got.length ≤ 100000) : callN (mk dl) dr W (n + 3) 1036 [.ref 0, sideD b, .bl late] (shS [] k Q) = .ok (k.tell b) (shS [] (k.tick b late) Q) := shk_tick (P := []) hk h1 h9 hl
@[simp] theorem z_sent : callN (mk dl) dr W (n + 1) 1040 [.ref 0] (shS [] k Q) = .ok (.lst (k.sent.map .int)) (shS [] k Q) := shk_sent (P := [])
@[simp] theorem z_got : callN (mk dl) dr W (n + 1) 1039 [.ref 0] (shS [] k Q) = .ok (.lst (k.got.map .int)) (shS [] k Q) := shk_got (P := [])
theorem z_len (h : k.got.length ≤ k.sent.length) : callN (mk dl) dr W (n + 1) 1032 [.ref 0] (shS [] k Q) = .ok (.int ((k.sent.length - k.got.length : Nat) : Int)) (shS [] k Q) := shk_len (P := []) h
theorem z_flags {d : Nat} (hk : k.Ok d) (h9 : d ≤ 9) : callN (mk dl) dr W (n + 2) 1033 [.ref 0] (shS [] k Q) = .ok (.tup [.tup [.int k.ask.bit, .tup (k.ask.seen.map .int)], .tup [.int k.ans.bit, .tup (k.ans.seen.map .int)]]) (shS [] k Q) := shk_flags (P := []) hk h9
end
theorem eqvs_ilI (as bs : List Int) : D.eqvs (as.map .int) (bs.map .int) = decide (as = bs) := by
  induction as generalizing bs with
  | nil => cases bs <;> simp [D.eqvs]
  | cons a as ih =>
    cases bs with
    | nil => simp [D.eqvs]
    | cons b bs =>
      simp only [List.map_cons, D.eqvs, D.eqv, ih]
      by_cases h : a = b <;> simp [h]
theorem eq_ilL (as bs : List Int) : eqB (.lst (as.map .int)) (.lst (bs.map .int)) = some (decide (as = bs)) := by
  unfold eqB
  rw [if_pos (by simp [D.flat, flats_il])]
  simp only [D.eqv, eqvs_ilI]
@[simp] theorem eq_blb (a b : Bool) : eqB (.bl a) (.bl b) = some (a == b) := by
  unfold eqB
  rw [if_pos (by simp [D.flat])]
  simp only [D.eqv]
end Mi

set_option maxRecDepth 100000
set_option maxHeartbeats 4000000
namespace Mi
section
variable {dr : Int → Int → Int} {W n : Nat} {dp be sh ws : D} {p6 p9 p10 p11 p12 p13 p14 : Pl} {ts : List (Bool × Bool)}
theorem s0_26 {four : Bool} {d m : Nat} {x : CX} {k : Shk} {l : List Int} (hd : d ∈ [1, 2, 3, 4]) (hi : ShI four d k x) (hl : LInv d m (k, l)) :
    exS ⟨callN (mk d_law) dr W (n + 4), dr⟩ W d_law_b0_0 [.fz .scr, .fz dp, .fz be, .fz (.ref 0), .fz sh, .fz ws, p6, .fz (.ref 5), .own (ts.map tkD), p9, p10, p11, p12, p13, p14] (shS [] k [.lst (l.map .int)]) = .ok (.nx [.fz .scr, .fz dp, .fz be, .fz (.ref 0), .fz sh, .fz ws, p6, .fz (.ref 5), .own (ts.map tkD), p9, p10, p11, p12, p13, p14]) (shS [] (stepL (k, l)).1 [.lst ((stepL (k, l)).2.map .int)]) := by
  cases l with
  | nil =>
    have ne := ne_nil_il []
    simp only [List.map_nil] at ne
    simp [d_law_b0_0, ne, stepL]
  | cons w r =>
    have ne := ne_nil_il (w :: r)
    simp only [List.map_cons] at ne
    cases hr : k.ready with
    | false =>
      have e : stepL (k, w :: r) = (k, w :: r) := by simp [stepL, hr]
      rw [e]
      simp [d_law_b0_0, ne, binds, hr]
    | true =>
      have e : stepL (k, w :: r) = (k.send w, r) := by simp [stepL, hr]
      rw [e]
      have hx : x.2 = false := ready_of hd hi.mem (by rw [← shi_ready hi]; exact hr)
      have ln := z_len (dl := d_law) (dr := dr) (W := W) (n := n + 3) (Q := [.lst (.int w :: r.map .int)]) (k := k) (shi_le hi)
      rw [shi_len hi, hx] at ln
      have hw := hl.wd w List.mem_cons_self
      have hle := hl.se
      simp only [List.length_cons] at hle
      have c2 := z_send (dl := d_law) (dr := dr) (W := W) (n := n + 1) (Q := [.lst (r.map .int)]) (k := k) hw.1 hw.2 hr (by omega)
      simp [d_law_b0_0, ne, binds, hr, ln, popB, c2]
/-- the turn's side and whether it is late -/
def tk26 (dr : Int → Int → Int) (sh i : Int) : Bool × Bool := (!decide (dr (20 + i) 10 < sh), decide (dr (90 + i) 2 = 0))
theorem s1_26 {shI i : Int} (h0 : 0 ≤ i) (h1 : i < 1000) {S : Sto} :
    exS ⟨callN (mk d_law) dr W (n + 4), dr⟩ W d_law_b0_1 [.fz .scr, .fz dp, .fz be, .fz (.ref 0), .fz (.int shI), .fz ws, .fz (.int i), .fz (.ref 5), .own (ts.map tkD), p9, p10, p11, p12, p13, p14] S = .ok (.nx [.fz .scr, .fz dp, .fz be, .fz (.ref 0), .fz (.int shI), .fz ws, .fz (.int i), .fz (.ref 5), .own (ts.map tkD), .fz (sideD (tk26 dr shI i).1), .fz (.bl (tk26 dr shI i).2), p11, p12, p13, p14]) S := by
  have a1 : 0 ≤ 20 + i ∧ 20 + i < 1000000 := by omega
  have a2 : 0 ≤ 90 + i ∧ 90 + i < 1000000 := by omega
  have e0 : idxB (.str [98, 97]) (.int 0) = some (.str [98]) := rfl
  have e1 : idxB (.str [98, 97]) (.int 1) = some (.str [97]) := rfl
  unfold tk26
  by_cases hc : dr (20 + i) 10 < shI
  · simp [d_law_b0_1, a1, a2, bltB, hc, e1, puts, isL, sideD]
  · simp [d_law_b0_1, a1, a2, bltB, hc, e0, puts, isL, sideD]
theorem s2_26 {k : Shk} {l : List Int} {four : Bool} {d m : Nat} {x : CX} {t : Bool × Bool} (hd : d ∈ [1, 2, 3, 4]) (hi : ShI four d k x) (hl : LInv d (m + 1) (k, l)) {q6 : Pl} (hts : ts.length < 1000) :
    exSs ⟨callN (mk d_law) dr W (n + 4), dr⟩ W [d_law_b0_2, d_law_b0_3, d_law_b0_4] [.fz .scr, .fz dp, .fz be, .fz (.ref 0), .fz sh, .fz ws, q6, .fz (.ref 5), .own (ts.map tkD), .fz (sideD t.1), .fz (.bl t.2), p11, p12, p13, p14] (shS [] k [.lst (l.map .int)]) =
      .ok (.nx [.fz .scr, .fz dp, .fz be, .fz (.ref 0), .fz sh, .fz ws, q6, .fz (.ref 5), .own ((ts ++ [t]).map tkD), .fz (sideD t.1), .fz (.bl t.2), .fz (.int k.got.length), .fz (k.tell t.1), p13, p14]) (shS [] (k.tick t.1 t.2) [.lst (l.map .int)]) := by
  have hd1 : 1 ≤ d ∧ d ≤ 4 := by simp at hd; omega
  have c := z_tick (dl := d_law) (dr := dr) (W := W) (n := n + 1) (Q := [.lst (l.map .int)]) (k := k) (b := t.1) (late := t.2) hl.ok hd1.1 (by omega) (by have := hl.ge; simp only at this; omega)
  simp [d_law_b0_2, d_law_b0_3, d_law_b0_4, binds, bltB, c, tkD, show ts.length < 16777216 by omega]
theorem s5_26 {k k' : Shk} {t : Bool × Bool} {four : Bool} {d : Nat} {x : CX} (hd : d ∈ [1, 2, 3, 4]) (hi : ShI four d k x) (hk : k' = k.tick t.1 t.2) {q6 q8 q10 : Pl} {Q : Sto} :
    exSs ⟨callN (mk d_law) dr W (n + 4), dr⟩ W [d_law_b0_5, d_law_b0_6, d_law_b0_7] [.fz .scr, .fz dp, .fz be, .fz (.ref 0), .fz sh, .fz ws, q6, .fz (.ref 5), q8, .fz (sideD t.1), q10, .fz (.int k.got.length), .fz (k.tell t.1), p13, p14] (shS [] k' Q) =
      .ok (.nx [.fz .scr, .fz dp, .fz be, .fz (.ref 0), .fz sh, .fz ws, q6, .fz (.ref 5), q8, .fz (sideD t.1), q10, .fz (.int k.got.length), .fz (k.tell t.1), .fz (.lst (k'.sent.map .int)), .fz (.lst (k'.got.map .int))]) (shS [] k' Q) := by
  subst hk
  by_cases hb : (t.1 && k.isNew) = true
  · have hb' := hb
    simp only [Bool.and_eq_true] at hb'
    have e1 : k.tell t.1 = .int k.word := by unfold Shk.tell; rw [if_pos hb]
    have e2 : (k.tick t.1 t.2).got = k.got ++ [k.word] := by
      unfold Shk.tick Shk.tickB; rw [if_pos hb'.1]; simp [hb'.2]
    have e3 : nth ((k.got ++ [k.word]).map D.int) (-1) = some (.int k.word) := nth_lst (by simp)
    have e4 : eqB (sideD t.1) (.str [98]) = some true := by rw [hb'.1]; rfl
    have e5 : ¬ ((k.got.length : Int) + 1 = k.got.length) := by omega
    simp only [List.map_append, List.map_cons, List.map_nil] at e3
    generalize k.tick t.1 t.2 = k' at e2 ⊢
    simp [d_law_b0_5, d_law_b0_6, d_law_b0_7, binds, e1, e2, isB, bltB, e5, cmpB, e4, idxB, e3, puts, isL]
  · have e1 : k.tell t.1 = .non := by unfold Shk.tell; rw [if_neg hb]
    have e2 : (k.tick t.1 t.2).got = k.got := by
      unfold Shk.tick Shk.tickB Shk.tickA
      cases ht : t.1
      · simp only [Bool.false_eq_true, if_false]; split <;> rfl
      · rw [ht] at hb
        have hb' : k.isNew = false := by simpa using hb
        simp [hb']
    simp [d_law_b0_5, d_law_b0_6, d_law_b0_7, binds, e1, e2, isB, bltB, cmpB, puts, isL]
theorem s8_26 {k : Shk} {four : Bool} {d : Nat} {x : CX} (hd : d ∈ [1, 2, 3, 4]) (hi : ShI four d k x) {q6 q8 q9 q10 q11 q12 : Pl} {Q : Sto} :
    exSs ⟨callN (mk d_law) dr W (n + 4), dr⟩ W [d_law_b0_8, d_law_b0_9] [.fz .scr, .fz dp, .fz be, .fz (.ref 0), .fz sh, .fz ws, q6, .fz (.ref 5), q8, q9, q10, q11, q12, .fz (.lst (k.sent.map .int)), .fz (.lst (k.got.map .int))] (shS [] k Q) =
      .ok (.nx [.fz .scr, .fz dp, .fz be, .fz (.ref 0), .fz sh, .fz ws, q6, .fz (.ref 5), q8, q9, q10, q11, q12, .fz (.lst (k.sent.map .int)), .fz (.lst (k.got.map .int))]) (shS [] k Q) := by
  have ln := z_len (dl := d_law) (dr := dr) (W := W) (n := n + 3) (Q := Q) (k := k) (shi_le hi)
  have hle := shi_le hi
  have hln := shi_len hi
  have e1 : cut (k.sent.map D.int) none (some (k.got.length : Int)) = k.got.map .int := by
    unfold cut clip
    dsimp only
    rw [if_neg (by omega)]
    simp only [Int.toNat_natCast, List.length_map, List.drop_zero, Nat.sub_zero]
    rw [Nat.min_eq_left hle, ← List.map_take]
    congr 1
    have := hi.wd
    rw [this, List.take_left]
  have e2 := eq_ilL k.got k.got
  simp only [decide_true] at e2
  have e3 : (k.sent.length : Int) - k.got.length = ((k.sent.length - k.got.length : Nat) : Int) := by omega
  have e4 : inB (.int ((k.sent.length - k.got.length : Nat) : Int)) (.tup [.int 0, .int 1]) = some true := by
    rw [hln]
    cases x.2 <;> rfl
  have e5 : (0 : Int) ≤ ((k.sent.length - k.got.length : Nat) : Int) ∧ ((k.sent.length - k.got.length : Nat) : Int) < 1000000 := by
    rw [hln]
    cases x.2 <;> decide
  simp [d_law_b0_8, d_law_b0_9, bltB, part, isOut, slcB, e1, e2, cmpB, e3, e4, ln, e5]
/-- one turn of the law's loop -/
theorem turn_26 {k : Shk} {l : List Int} {four : Bool} {d m : Nat} {x : CX} (hd : d ∈ [1, 2, 3, 4]) (hi : ShI four d k x) (hl : LInv d (m + 1) (k, l)) {shI i : Int} (h0 : 0 ≤ i) (h1 : i < 1000) (hts : ts.length < 1000) :
    ∃ q9 q10 q11 q12 q13 q14 x', forF ⟨callN (mk d_law) dr W (n + 4), dr⟩ W (.v 6) d_law_b0 (.int i) [.fz .scr, .fz dp, .fz be, .fz (.ref 0), .fz (.int shI), .fz ws, p6, .fz (.ref 5), .own (ts.map tkD), p9, p10, p11, p12, p13, p14] (shS [] k [.lst (l.map .int)]) =
      .ok (.nx [.fz .scr, .fz dp, .fz be, .fz (.ref 0), .fz (.int shI), .fz ws, .fz (.int i), .fz (.ref 5), .own ((ts ++ [tk26 dr shI i]).map tkD), q9, q10, q11, q12, q13, q14]) (shS [] (stepS (k, l) (tk26 dr shI i)).1 [.lst ((stepS (k, l) (tk26 dr shI i)).2.map .int)]) ∧ ShI four d (stepS (k, l) (tk26 dr shI i)).1 x' := by
  have hi2 : ∃ x2, ShI four d (stepL (k, l)).1 x2 := by
    cases l with
    | nil => exact ⟨x, hi⟩
    | cons w r =>
      simp only [stepL]
      split
      · rename_i hr; exact ⟨_, shi_send hd hi hr w⟩
      · exact ⟨x, hi⟩
  obtain ⟨x2, hi2⟩ := hi2
  have hl2 := linv_stepL hl
  have hi3 := shi_tick hd hi2 (tk26 dr shI i).1 (tk26 dr shI i).2
  refine ⟨.fz (sideD (tk26 dr shI i).1), .fz (.bl (tk26 dr shI i).2), .fz (.int (stepL (k, l)).1.got.length), .fz ((stepL (k, l)).1.tell (tk26 dr shI i).1), .fz (.lst ((stepS (k, l) (tk26 dr shI i)).1.sent.map .int)), .fz (.lst ((stepS (k, l) (tk26 dr shI i)).1.got.map .int)), _, ?_, hi3⟩
  have e0 := s0_26 (dr := dr) (W := W) (n := n) (dp := dp) (be := be) (sh := .int shI) (ws := ws) (p6 := .fz (.int i)) (p9 := p9) (p10 := p10) (p11 := p11) (p12 := p12) (p13 := p13) (p14 := p14) (ts := ts) hd hi hl
  have e1 := s1_26 (dr := dr) (W := W) (n := n) (dp := dp) (be := be) (ws := ws) (p9 := p9) (p10 := p10) (p11 := p11) (p12 := p12) (p13 := p13) (p14 := p14) (ts := ts) (shI := shI) (i := i) h0 h1 (S := shS [] (stepL (k, l)).1 [.lst ((stepL (k, l)).2.map .int)])
  have e2 := s2_26 (dr := dr) (W := W) (n := n) (dp := dp) (be := be) (sh := .int shI) (ws := ws) (p11 := p11) (p12 := p12) (p13 := p13) (p14 := p14) (ts := ts) (q6 := .fz (.int i)) (t := tk26 dr shI i) (l := (stepL (k, l)).2) hd hi2 hl2 hts
  have e3 := s5_26 (dr := dr) (W := W) (n := n) (dp := dp) (be := be) (sh := .int shI) (ws := ws) (p13 := p13) (p14 := p14) (q6 := .fz (.int i)) (t := tk26 dr shI i) (q8 := .own ((ts ++ [tk26 dr shI i]).map tkD)) (q10 := .fz (.bl (tk26 dr shI i).2)) (Q := [.lst ((stepL (k, l)).2.map .int)]) hd hi2 rfl
  have e4 := s8_26 (dr := dr) (W := W) (n := n) (dp := dp) (be := be) (sh := .int shI) (ws := ws) (q6 := .fz (.int i)) (q8 := .own ((ts ++ [tk26 dr shI i]).map tkD)) (q9 := .fz (sideD (tk26 dr shI i).1)) (q10 := .fz (.bl (tk26 dr shI i).2)) (q11 := .fz (.int (stepL (k, l)).1.got.length)) (q12 := .fz ((stepL (k, l)).1.tell (tk26 dr shI i).1)) (Q := [.lst ((stepL (k, l)).2.map .int)]) hd hi3
  simp only [forF_app, asg_v, List.set_cons_succ, List.set_cons_zero]
  show exSs _ W ([d_law_b0_0] ++ ([d_law_b0_1] ++ ([d_law_b0_2, d_law_b0_3, d_law_b0_4] ++ ([d_law_b0_5, d_law_b0_6, d_law_b0_7] ++ [d_law_b0_8, d_law_b0_9])))) _ _ = _
  rw [ssApp (ssOne e0), ssApp (ssOne e1), ssApp e2, ssApp e3, e4]
  rfl
/-- the loop -/
theorem loop_26 {four : Bool} {d : Nat} (hd : d ∈ [1, 2, 3, 4]) {shI : Int} (is : List Int) (k : Shk) (l : List Int) (x : CX) (ts : List (Bool × Bool)) (p6 p9 p10 p11 p12 p13 p14 : Pl) (hI : ∀ i ∈ is, 0 ≤ i ∧ i < 1000) (hi : ShI four d k x) (hl : LInv d is.length (k, l)) (hts : ts.length + is.length ≤ 1000) :
    ∃ q6 q9 q10 q11 q12 q13 q14 x', forL (forF ⟨callN (mk d_law) dr W (n + 4), dr⟩ W (.v 6) d_law_b0) (is.map .int) [.fz .scr, .fz dp, .fz be, .fz (.ref 0), .fz (.int shI), .fz ws, p6, .fz (.ref 5), .own (ts.map tkD), p9, p10, p11, p12, p13, p14] (shS [] k [.lst (l.map .int)]) =
      .ok (.nx [.fz .scr, .fz dp, .fz be, .fz (.ref 0), .fz (.int shI), .fz ws, q6, .fz (.ref 5), .own ((ts ++ is.map (tk26 dr shI)).map tkD), q9, q10, q11, q12, q13, q14]) (shS [] ((is.map (tk26 dr shI)).foldl stepS (k, l)).1 [.lst (((is.map (tk26 dr shI)).foldl stepS (k, l)).2.map .int)]) ∧ ShI four d ((is.map (tk26 dr shI)).foldl stepS (k, l)).1 x' ∧ LInv d 0 ((is.map (tk26 dr shI)).foldl stepS (k, l)) := by
  induction is generalizing k l x ts p6 p9 p10 p11 p12 p13 p14 with
  | nil => exact ⟨p6, p9, p10, p11, p12, p13, p14, x, by simp [forL], hi, hl⟩
  | cons i is ih =>
    have h0 := hI i List.mem_cons_self
    simp only [List.length_cons] at hts
    obtain ⟨q9, q10, q11, q12, q13, q14, x', e, hx⟩ := turn_26 (dr := dr) (W := W) (n := n) (dp := dp) (be := be) (ws := ws) (p6 := p6) (p9 := p9) (p10 := p10) (p11 := p11) (p12 := p12) (p13 := p13) (p14 := p14) (ts := ts) hd hi hl (shI := shI) (i := i) h0.1 h0.2 (by omega)
    obtain ⟨r6, r9, r10, r11, r12, r13, r14, x2, e2, hx2, hl2⟩ := ih (stepS (k, l) (tk26 dr shI i)).1 (stepS (k, l) (tk26 dr shI i)).2 x' (ts ++ [tk26 dr shI i]) (.fz (.int i)) q9 q10 q11 q12 q13 q14 (fun j hj => hI j (List.mem_cons_of_mem _ hj)) hx (linv_step hl) (by simp; omega)
    refine ⟨r6, r9, r10, r11, r12, r13, r14, x2, ?_, hx2, hl2⟩
    simp only [List.map_cons, forL, e, next_nx, List.foldl_cons]
    rw [e2]
    simp
end
end Mi

set_option maxRecDepth 100000
set_option maxHeartbeats 4000000
namespace Mi
section
variable {dr : Int → Int → Int} {W n : Nat} {e1 e2 e3 : Pl} {p4 p5 p6 p7 : Pl} {Q : Sto} {four : Bool} {d : Nat}
def lateD (j : Nat) : Bool := j % 2 == 0
theorem shi_got {k : Shk} {x : CX} (h : ShI four d k x) (hs : k.sent.length ≤ 1000) : k.got.length ≤ 100000 := by
  have := shi_le h; omega
theorem seen_len (hd : d ∈ [1, 2, 3, 4]) : ∀ y ∈ RX four d, y.1.ask.seen.length = d ∧ y.1.ans.seen.length = d := by
  have : ∀ four : Bool, ∀ d ∈ [1, 2, 3, 4], ((RX four d).all fun y => decide (y.1.ask.seen.length = d) && decide (y.1.ans.seen.length = d)) = true := by decide +kernel
  intro y hy
  have := List.all_eq_true.mp (this four d hd) y hy
  simpa using this
theorem led_b0 {k : Shk} {x : CX} (hd : d ∈ [1, 2, 3, 4]) (hi : ShI four d k x) (hs : k.sent.length ≤ 1000) (j : Nat) (b : Bool) :
    forF ⟨callN (mk d_law) dr W (n + 3), dr⟩ W (.v 6) d_law_led_b0 (sideD b) [.fz (.ref 0), e1, e2, e3, p4, .fz (.int (j : Int)), p6, p7] (shS [] k Q) = .ok (.nx [.fz (.ref 0), e1, e2, e3, p4, .fz (.int (j : Int)), .fz (sideD b), p7]) (shS [] (k.tick b (lateD j)) Q) := by
  have hd1 : 1 ≤ d ∧ d ≤ 4 := by simp at hd; omega
  have c := z_tick (dl := d_law) (dr := dr) (W := W) (n := n) (Q := Q) (k := k) (b := b) (late := lateD j) (shi_ok hi (seen_len hd)) hd1.1 (by omega) (shi_got hi hs)
  have e : (decide ((j : Int) % 2 = 0)) = lateD j := by
    unfold lateD
    by_cases h : j % 2 = 0
    · rw [h]; simp; omega
    · have : j % 2 = 1 := by omega
      rw [this]; simp; omega
  simp [d_law_led_b0, opI_mod, e, binds, c]
def rndS (k : Shk) (j : Nat) : Shk := (k.tick false (lateD j)).tick true (lateD j)
theorem led_b1 {k : Shk} {x : CX} (hd : d ∈ [1, 2, 3, 4]) (hi : ShI four d k x) (hs : k.sent.length ≤ 1000) (j : Nat) :
    forF ⟨callN (mk d_law) dr W (n + 3), dr⟩ W (.v 5) d_law_led_b1 (.int (j : Int)) [.fz (.ref 0), e1, e2, e3, p4, p5, p6, p7] (shS [] k Q) = .ok (.nx [.fz (.ref 0), e1, e2, e3, p4, .fz (.int (j : Int)), .fz (sideD true), p7]) (shS [] (rndS k j) Q) := by
  have c1 := led_b0 (dr := dr) (W := W) (n := n) (e1 := e1) (e2 := e2) (e3 := e3) (p4 := p4) (p6 := p6) (p7 := p7) (Q := Q) hd hi hs j false
  have hi2 := shi_tick hd hi false (lateD j)
  have c2 := led_b0 (dr := dr) (W := W) (n := n) (e1 := e1) (e2 := e2) (e3 := e3) (p4 := p4) (p6 := .fz (sideD false)) (p7 := p7) (Q := Q) hd hi2 (by rw [sent_tick]; exact hs) j true
  simp only [forF_app, asg_v, List.set_cons_succ, List.set_cons_zero, d_law_led_b1, exSs_cons, exS_for, noOwnIt, if_true, evE_cst, srof_ok, itB]
  have e : (List.map (fun c => D.str [c]) [97, 98]) = [sideD false, sideD true] := rfl
  rw [e]
  simp only [forL, c1, next_nx, c2, exSs_nil]
  rfl
theorem led_rounds (hd : d ∈ [1, 2, 3, 4]) (m a : Nat) (k : Shk) (x : CX) (hi : ShI four d k x) (hs : k.sent.length ≤ 1000) (p5 p6 : Pl) :
    ∃ q5 q6, forL (forF ⟨callN (mk d_law) dr W (n + 3), dr⟩ W (.v 5) d_law_led_b1) ((List.range' a m).map fun (j : Nat) => D.int (j : Int)) [.fz (.ref 0), e1, e2, e3, p4, p5, p6, p7] (shS [] k Q) = .ok (.nx [.fz (.ref 0), e1, e2, e3, p4, q5, q6, p7]) (shS [] ((List.range' a m).foldl rndS k) Q) ∧ ShI four d ((List.range' a m).foldl rndS k) ((List.range' a m).foldl (rndX four) x) ∧ ((List.range' a m).foldl rndS k).sent = k.sent := by
  induction m generalizing a k x p5 p6 with
  | zero => exact ⟨p5, p6, rfl, hi, rfl⟩
  | succ m ih =>
    have c := led_b1 (dr := dr) (W := W) (n := n) (e1 := e1) (e2 := e2) (e3 := e3) (p4 := p4) (p5 := p5) (p6 := p6) (p7 := p7) (Q := Q) hd hi hs a
    have hi2 : ShI four d (rndS k a) (rndX four x a) := shi_tick hd (shi_tick hd hi false (lateD a)) true (lateD a)
    have hs2 : (rndS k a).sent = k.sent := by unfold rndS; rw [sent_tick, sent_tick]
    obtain ⟨q5, q6, e, h1, h2⟩ := ih (a + 1) (rndS k a) (rndX four x a) hi2 (by rw [hs2]; exact hs) (.fz (.int (a : Int))) (.fz (sideD true))
    refine ⟨q5, q6, ?_, h1, h2.trans hs2⟩
    simp only [List.range'_succ, List.map_cons, forL, c, next_nx, List.foldl_cons]
    exact e
/-- ticks of side b, the first one late -/
def bbS : Nat → Shk → Shk
  | 0, k => k
  | j + 1, k => (bbS j k).tick true (j == 0)
theorem shi_bb (hd : d ∈ [1, 2, 3, 4]) {k : Shk} {x : CX} (hi : ShI four d k x) : ∀ j, ShI four d (bbS j k) (bbX four j x)
  | 0 => hi
  | j + 1 => shi_tick hd (shi_bb hd hi j) true (j == 0)
theorem bb_sent (k : Shk) : ∀ j, (bbS j k).sent = k.sent
  | 0 => rfl
  | j + 1 => by show ((bbS j k).tick true (j == 0)).sent = _; rw [sent_tick, bb_sent k j]
theorem led_b2 {k : Shk} {x : CX} (hd : d ∈ [1, 2, 3, 4]) (hi : ShI four d k x) (hs : k.sent.length ≤ 1000) (j : Nat) :
    exSs ⟨callN (mk d_law) dr W (n + 3), dr⟩ W d_law_led_b2 [.fz (.ref 0), e1, e2, e3, p4, p5, p6, .fz (.int (j : Int))] (shS [] (bbS j k) Q) = .ok (.nx [.fz (.ref 0), e1, e2, e3, p4, p5, p6, .fz (.int ((j + 1 : Nat) : Int))]) (shS [] (bbS (j + 1) k) Q) := by
  have hd1 : 1 ≤ d ∧ d ≤ 4 := by simp at hd; omega
  have hj := shi_bb hd hi j
  have c := z_tick (dl := d_law) (dr := dr) (W := W) (n := n) (Q := Q) (k := bbS j k) (b := true) (late := j == 0) (shi_ok hj (seen_len hd)) hd1.1 (by omega) (shi_got hj (by rw [bb_sent]; exact hs))
  have e : decide ((j : Int) = 0) = (j == 0) := by
    by_cases h : j = 0
    · subst h; rfl
    · have : ¬ ((j : Int) = 0) := by omega
      simp [h]
  have c' : callN (mk d_law) dr W (n + 3) 1036 [.ref 0, .str [98], .bl (j == 0)] (shS [] (bbS j k) Q) = .ok ((bbS j k).tell true) (shS [] (bbS (j + 1) k) Q) := c
  rw [show (j == 0) = decide (j = 0) by cases j <;> rfl] at c'
  simp [d_law_led_b2, binds, c']
theorem led_whl {k : Shk} {x : CX} (hd : d ∈ [1, 2, 3, 4]) (hi : ShI four d k x) (hs : k.sent.length ≤ 1000) (h1 : ∀ j < d + 2, (bbX four j x).2 = true) (h2 : (bbX four (d + 2) x).2 = false) : ∀ (m j : Nat), j + m = d + 2 → ∀ f, m < f →
    whlR ⟨callN (mk d_law) dr W (n + 3), dr⟩ W (.and [(.cmp .eq (.ilen 1 1032 (.var 0)) (.cst (.int 1))), (.cmp .lt (.var 7) (.cst (.int 9)))]) d_law_led_b2 f [.fz (.ref 0), e1, e2, e3, p4, p5, p6, .fz (.int (j : Int))] (shS [] (bbS j k) Q) = .ok (.nx [.fz (.ref 0), e1, e2, e3, p4, p5, p6, .fz (.int ((d + 2 : Nat) : Int))]) (shS [] (bbS (d + 2) k) Q)
  | 0, j, hj, f + 1, hf => by
    have : j = d + 2 := by omega
    subst this
    have hb := shi_bb hd hi (d + 2)
    have ln := z_len (dl := d_law) (dr := dr) (W := W) (n := n + 2) (Q := Q) (k := bbS (d + 2) k) (shi_le hb)
    rw [shi_len hb, h2] at ln
    rw [whlR_succ]
    simp [ln]
  | m + 1, j, hj, f + 1, hf => by
    have hb := shi_bb hd hi j
    have hd1 : 1 ≤ d ∧ d ≤ 4 := by simp at hd; omega
    have ln := z_len (dl := d_law) (dr := dr) (W := W) (n := n + 2) (Q := Q) (k := bbS j k) (shi_le hb)
    rw [shi_len hb, h1 j (by omega)] at ln
    have c := led_b2 (dr := dr) (W := W) (n := n) (e1 := e1) (e2 := e2) (e3 := e3) (p4 := p4) (p5 := p5) (p6 := p6) (Q := Q) hd hi hs j
    rw [whlR_succ]
    have h9 : (j : Int) < 9 := by omega
    simp [ln, h9, c]
    exact led_whl hd hi hs h1 h2 m (j + 1) (by omega) f (by omega)
theorem led_turn26 {k : Shk} {x : CX} (hd : d ∈ [1, 2, 3, 4]) (hi : ShI four d k x) (hs : k.sent.length < 1000) {w : Int} (h0 : 0 ≤ w) (h1 : w ≤ 255) (hW : 20 ≤ W) :
    ∃ k' x' q5 q6 q7, forF ⟨callN (mk d_law) dr W (n + 3), dr⟩ W (.v 4) d_law_led_b3 (.int w) [.fz (.ref 0), e1, e2, .fz (.int (d : Int)), p4, p5, p6, p7] (shS [] k Q) = .ok (.nx [.fz (.ref 0), e1, e2, .fz (.int (d : Int)), .fz (.int w), q5, q6, q7]) (shS [] k' Q) ∧ ShI four d k' x' ∧ x'.2 = false ∧ k'.sent = k.sent ++ [w] := by
  have hd1 : 1 ≤ d ∧ d ≤ 4 := by simp at hd; omega
  obtain ⟨q5, q6, e, hi2, hs2⟩ := led_rounds (dr := dr) (W := W) (n := n) (e1 := e1) (e2 := e2) (e3 := .fz (.int (d : Int))) (p4 := .fz (.int w)) (p7 := p7) (Q := Q) hd (4 * d + 12) 0 k x hi (by omega) p5 p6
  generalize ek : (List.range' 0 (4 * d + 12)).foldl rndS k = k2 at e hi2 hs2
  have hr := rounds_of hd hi.mem
  rw [List.range_eq_range'] at hr
  generalize ex : (List.range' 0 (4 * d + 12)).foldl (rndX four) x = x2 at hi2 hr
  have hrd : k2.ready = true := by rw [shi_ready hi2]; exact hr.1
  have hi3 := shi_send hd hi2 hrd w
  have hsd := send_of hd hi2.mem hr.1
  have c := z_send (dl := d_law) (dr := dr) (W := W) (n := n) (Q := Q) (k := k2) h0 h1 hrd (by rw [hs2]; omega)
  have ln := z_len (dl := d_law) (dr := dr) (W := W) (n := n + 2) (Q := Q) (k := k2) (shi_le hi2)
  rw [shi_len hi2, hr.2] at ln
  have hw := led_whl (dr := dr) (W := W) (n := n) (e1 := e1) (e2 := e2) (e3 := .fz (.int (d : Int))) (p4 := .fz (.int w)) (p5 := q5) (p6 := q6) (Q := Q) hd hi3 (by simp only [Shk.send, List.length_append, List.length_cons, List.length_nil, hs2]; omega) hsd.1 hsd.2 (d + 2) 0 (by omega) W (by omega)
  refine ⟨bbS (d + 2) (k2.send w), _, q5, q6, .fz (.int ((d + 2 : Nat) : Int)), ?_, shi_bb hd hi3 (d + 2), hsd.2, ?_⟩
  · simp only [forF_app, asg_v, List.set_cons_succ, List.set_cons_zero]
    have s0 : exS ⟨callN (mk d_law) dr W (n + 3), dr⟩ W d_law_led_b3_0 [.fz (.ref 0), e1, e2, .fz (.int (d : Int)), .fz (.int w), p5, p6, p7] (shS [] k Q) = .ok (.nx [.fz (.ref 0), e1, e2, .fz (.int (d : Int)), .fz (.int w), q5, q6, p7]) (shS [] k2 Q) := by
      have er : rngB [.int (4 * (d : Int) + 12)] = some ((List.range' 0 (4 * d + 12)).map fun (j : Nat) => D.int (j : Int)) := by
        unfold rngB
        dsimp only
        rw [if_pos ⟨by unfold big; omega, by unfold big; omega⟩]
        unfold rangeL
        rw [show (4 * (d : Int) + 12).toNat = 4 * d + 12 by omega, List.range_eq_range']
        simp
      simp only [d_law_led_b3_0, exS_for, noOwnIt, if_true, evE_rng, evEs_cons, evEs_nil, evE_bin, rd_bin, rd_cst, evE_cst, rd_var, List.getElem?_cons_zero, List.getElem?_cons_succ, bind_ok, opI_mul (i := 4) (j := (d : Int)) rfl, of_some, opI_add, er, Option.map_some, srof_ok, itB_lst]
      exact e
    have s1 : exSs ⟨callN (mk d_law) dr W (n + 3), dr⟩ W [d_law_led_b3_1, d_law_led_b3_2, d_law_led_b3_3] [.fz (.ref 0), e1, e2, .fz (.int (d : Int)), .fz (.int w), q5, q6, p7] (shS [] k2 Q) = .ok (.nx [.fz (.ref 0), e1, e2, .fz (.int (d : Int)), .fz (.int w), q5, q6, .fz (.int ((0 : Nat) : Int))]) (shS [] (k2.send w) Q) := by
      simp [d_law_led_b3_1, d_law_led_b3_2, d_law_led_b3_3, binds, hrd, ln, c]
    have s4 : exS ⟨callN (mk d_law) dr W (n + 3), dr⟩ W d_law_led_b3_4 [.fz (.ref 0), e1, e2, .fz (.int (d : Int)), .fz (.int w), q5, q6, .fz (.int ((0 : Nat) : Int))] (shS [] (k2.send w) Q) = .ok (.nx [.fz (.ref 0), e1, e2, .fz (.int (d : Int)), .fz (.int w), q5, q6, .fz (.int ((d + 2 : Nat) : Int))]) (shS [] (bbS (d + 2) (k2.send w)) Q) := by
      simp only [d_law_led_b3_4, exS_whl]
      exact hw
    have s5 : exS ⟨callN (mk d_law) dr W (n + 3), dr⟩ W d_law_led_b3_5 [.fz (.ref 0), e1, e2, .fz (.int (d : Int)), .fz (.int w), q5, q6, .fz (.int ((d + 2 : Nat) : Int))] (shS [] (bbS (d + 2) (k2.send w)) Q) = .ok (.nx [.fz (.ref 0), e1, e2, .fz (.int (d : Int)), .fz (.int w), q5, q6, .fz (.int ((d + 2 : Nat) : Int))]) (shS [] (bbS (d + 2) (k2.send w)) Q) := by
      simp [d_law_led_b3_5]
    show exSs _ W ([d_law_led_b3_0] ++ ([d_law_led_b3_1, d_law_led_b3_2, d_law_led_b3_3] ++ ([d_law_led_b3_4] ++ [d_law_led_b3_5]))) _ _ = _
    rw [ssApp (ssOne s0), ssApp s1, ssApp (ssOne s4), ssOne s5]
  · rw [bb_sent]
    simp only [Shk.send, hs2]
end
end Mi

set_option maxRecDepth 100000
set_option maxHeartbeats 4000000
namespace Mi
section
variable {dr : Int → Int → Int} {W n : Nat} {e1 e2 : Pl} {Q : Sto} {four : Bool} {d : Nat}
theorem led_words (hd : d ∈ [1, 2, 3, 4]) (hW : 20 ≤ W) : ∀ (ws : List Int) (k : Shk) (x : CX) (p4 p5 p6 p7 : Pl), (∀ w ∈ ws, 0 ≤ w ∧ w ≤ 255) → ShI four d k x → k.sent.length + ws.length ≤ 1000 →
    ∃ k' x' q4 q5 q6 q7, forL (forF ⟨callN (mk d_law) dr W (n + 3), dr⟩ W (.v 4) d_law_led_b3) (ws.map .int) [.fz (.ref 0), e1, e2, .fz (.int (d : Int)), p4, p5, p6, p7] (shS [] k Q) = .ok (.nx [.fz (.ref 0), e1, e2, .fz (.int (d : Int)), q4, q5, q6, q7]) (shS [] k' Q) ∧ ShI four d k' x' ∧ ((ws ≠ [] ∨ x.2 = false) → x'.2 = false) ∧ k'.sent = k.sent ++ ws
  | [], k, x, p4, p5, p6, p7, _, hi, _ => ⟨k, x, p4, p5, p6, p7, rfl, hi, fun h => h.elim (fun h => absurd rfl h) id, by simp⟩
  | w :: ws, k, x, p4, p5, p6, p7, hw, hi, hl => by
    simp only [List.length_cons] at hl
    have h0 := hw w List.mem_cons_self
    obtain ⟨k1, x1, r5, r6, r7, e, hi1, hx1, hs1⟩ := led_turn26 (dr := dr) (W := W) (n := n) (e1 := e1) (e2 := e2) (p4 := p4) (p5 := p5) (p6 := p6) (p7 := p7) (Q := Q) hd hi (by omega) h0.1 h0.2 hW
    obtain ⟨k2, x2, q4, q5, q6, q7, e', hi2, hx2, hs2⟩ := led_words hd hW ws k1 x1 (.fz (.int w)) r5 r6 r7 (fun v hv => hw v (List.mem_cons_of_mem _ hv)) hi1 (by rw [hs1]; simp; omega)
    refine ⟨k2, x2, q4, q5, q6, q7, ?_, hi2, fun _ => ?_, ?_⟩
    · simp only [List.map_cons, forL, e, next_nx]
      exact e'
    · exact hx2 (.inr hx1)
    · rw [hs2, hs1]; simp
theorem law_led_run (hd : d ∈ [1, 2, 3, 4]) (hW : 20 ≤ W) {k : Shk} {x : CX} (hi : ShI four d k x) {ws l : List Int} (hl : ∀ w ∈ l, 0 ≤ w ∧ w ≤ 255) (hws : ∀ w ∈ ws, 0 ≤ w ∧ w ≤ 255) (he : k.sent ++ l = ws) (hn : ws.length ≤ 900) :
    ∃ S, callN (mk d_law) dr W (n + 5) 225 [.ref 0, il ws, .ref 5, .int (d : Int)] (shS [] k (.lst (l.map .int) :: Q)) = .ok (.bl true) S := by
  have hd1 : 1 ≤ d ∧ d ≤ 4 := by simp at hd; omega
  have hsl : k.sent.length + l.length = ws.length := by rw [← he]; simp
  rw [callN_eq (df := d_law_led) rfl rfl]
  obtain ⟨k', x', q4, q5, q6, q7, e, hi', hx, hs⟩ := led_words (dr := dr) (W := W) (n := n + 1) (e1 := .fz (il ws)) (e2 := .fz (.ref 5)) (Q := .lst (l.map .int) :: Q) hd hW (l ++ [7]) k x .un .un .un .un (by
    intro w hw
    rcases List.mem_append.mp hw with h | h
    · exact hl w h
    · simp at h; subst h; decide) hi (by simp; omega)
  have hx' := hx (.inl (by simp))
  have hgot : k'.got = ws ++ [7] := by
    have := hi'.wd
    rw [hx', hs, ← List.append_assoc, he] at this
    simpa using this.symm
  have c := led_over_run (dl := d_law) (dr := dr) (W := W) (n := n) (d := d) (ph := 2) hd1.1 (by omega) (.inl rfl) hws (by omega) (ts := []) (by simp) (S := shS [] k' (.lst (l.map .int) :: Q))
  simp only [List.map_nil, List.foldl_nil, Shk.new] at c
  have ea : opB .add (.lst (l.map .int)) (.lst [.int 7]) = some (.lst ((l ++ [7]).map .int)) := by
    rw [opL_add (by simp only [List.length_map, List.length_cons, List.length_nil, SZ_eq]; omega)]
    simp
  have eb : opB .add (.lst (ws.map .int)) (.lst [.int 7]) = some (.lst ((ws ++ [7]).map .int)) := by
    rw [opL_add (by simp only [List.length_map, List.length_cons, List.length_nil, SZ_eq]; omega)]
    simp
  have ec := eq_ilL (ws ++ [7]) (ws ++ [7])
  simp only [decide_true] at ec
  have s0 : exS ⟨callN (mk d_law) dr W (n + 4), dr⟩ W (.for_ (.v 4) (.binC .add (.var 2) (.lst [(.cst (.int 7))])) d_law_led_b3) [.fz (.ref 0), .fz (il ws), .fz (.ref 5), .fz (.int (d : Int)), .un, .un, .un, .un] (shS [] k (.lst (l.map .int) :: Q)) = .ok (.nx [.fz (.ref 0), .fz (il ws), .fz (.ref 5), .fz (.int (d : Int)), q4, q5, q6, q7]) (shS [] k' (.lst (l.map .int) :: Q)) := by
    simp only [exS_for, noOwnIt, if_true, evE_binC, evE_var, evE_lst, evEs_cons, evEs_nil, evE_cst, List.getElem?_cons_zero, List.getElem?_cons_succ, bind_ok, List.length_cons, List.length_nil]
    rw [if_pos (by simp)]
    simp only [bind_ok, z_d5, drf_lst, ea, of_some, srof_ok, itB_lst]
    exact e
  show ∃ S, (exSs _ W ([.for_ (.v 4) (.binC .add (.var 2) (.lst [(.cst (.int 7))])) d_law_led_b3] ++ [_]) [.fz (.ref 0), .fz (il ws), .fz (.ref 5), .fz (.int (d : Int)), .un, .un, .un, .un] _).fin = _
  rw [ssApp (ssOne s0)]
  refine ⟨shS (shS [] k' (.lst (l.map .int) :: Q)) (Shk.new d 2) [.lst (ws.map .int)], ?_⟩
  have eb' : opB .add (il ws) (.lst [.int 7]) = some (.lst ((ws ++ [7]).map .int)) := eb
  have ed : eqB (il []) (.lst []) = some true := rfl
  simp [binds, hgot, eb', ec, cmpB]
  simp only [List.map_append, List.map_cons, List.map_nil] at ec
  simp [ec, c, ed, Shk.new]
end
end Mi

set_option maxRecDepth 100000
set_option maxHeartbeats 4000000
namespace Mi
section
variable {dr : Int → Int → Int} {W n : Nat}
theorem stepL_all (s : Shk × List Int) : (stepL s).1.sent ++ (stepL s).2 = s.1.sent ++ s.2 := by
  obtain ⟨k, l⟩ := s
  cases l with
  | nil => rfl
  | cons w r =>
    simp only [stepL]
    split
    · simp [Shk.send]
    · rfl
theorem steps_all (ts : List (Bool × Bool)) : ∀ s : Shk × List Int, (ts.foldl stepS s).1.sent ++ (ts.foldl stepS s).2 = s.1.sent ++ s.2 := by
  induction ts with
  | nil => intro s; rfl
  | cons t ts ih =>
    intro s
    rw [List.foldl_cons, ih, ← stepL_all s]
    simp only [stepS, sent_tick]
theorem law_k26 (hb : Bnd dr) (hW : 70 ≤ W) : ∃ S, callN fn dr W (n + 7) 2000 [.scr] [] = .ok (.bl true) S := by
  have b0 := hb 0 4 (by decide)
  have b1 := hb 1 2 (by decide)
  have b2 := hb 2 9 (by decide)
  have b3 := hb 3 6 (by decide)
  have b4 := hb 4 30 (by decide)
  obtain ⟨d, ed⟩ : ∃ d : Nat, (d : Int) = 1 + dr 0 4 := ⟨(1 + dr 0 4).toNat, by omega⟩
  have hd : d ∈ [1, 2, 3, 4] := by
    have : d = 1 ∨ d = 2 ∨ d = 3 ∨ d = 4 := by omega
    simpa using this
  have hd1 : 1 ≤ d ∧ d ≤ 4 := by omega
  obtain ⟨four, ef⟩ : ∃ four, nth [D.int 2, .int 4] (dr 1 2) = some (.int (phI four)) := by
    have : dr 1 2 = 0 ∨ dr 1 2 = 1 := by omega
    rcases this with e | e <;> rw [e]
    · exact ⟨false, rfl⟩
    · exact ⟨true, rfl⟩
  have hph : phI four = 2 ∨ phI four = 4 := by cases four <;> simp [phI]
  have c0 := shk_init (dl := d_law) (dr := dr) (W := W) (n := n + 3) (P := []) (d := d) (ph := phI four) hd1.1 (by omega) hph
  simp only [List.length_nil, List.nil_append] at c0
  -- words
  let wsL : List Int := (List.range (1 + dr 3 6).toNat).map fun (i : Nat) => dr (10 + (i : Int)) 256
  have hws : ∀ w ∈ wsL, 0 ≤ w ∧ w ≤ 255 := by
    intro w hw
    obtain ⟨i, _, rfl⟩ := List.mem_map.mp hw
    have := hb (10 + (i : Int)) 256 (by decide)
    omega
  have hwl : wsL.length ≤ 6 := by simp [wsL]; omega
  let iL : List Int := (List.range (30 + dr 4 30).toNat).map fun (i : Nat) => (i : Int)
  have hisl : iL.length ≤ 60 := by simp [iL]; omega
  have hisI : ∀ i ∈ iL, 0 ≤ i ∧ i < 1000 := by
    intro i hi
    obtain ⟨j, hj, rfl⟩ := List.mem_map.mp hi
    have := List.mem_range.mp hj
    omega
  have hl0 : LInv d iL.length (Shk.new d (phI four), wsL) := ⟨shk_new_ok d _, hws, by simp [Shk.new]; omega, by simp [Shk.new]; omega⟩
  obtain ⟨q6, q9, q10, q11, q12, q13, q14, x', el, hi', hl'⟩ := loop_26 (dr := dr) (W := W) (n := n + 2) (dp := .int (d : Int)) (be := .int (phI four)) (ws := .lst (wsL.map .int)) hd (shI := 1 + dr 2 9) iL (Shk.new d (phI four)) wsL (CB.new d, false) [] .un .un .un .un .un .un .un hisI (shi_new hd) hl0 (by simp; omega)
  have hall := steps_all (iL.map (tk26 dr (1 + dr 2 9))) (Shk.new d (phI four), wsL)
  have clo := led_over_run (dl := d_law) (dr := dr) (W := W) (n := n + 2) (d := d) (ph := phI four) hd1.1 (by omega) hph hws (by omega) (ts := iL.map (tk26 dr (1 + dr 2 9))) (by simp; omega) (S := shS [] ((iL.map (tk26 dr (1 + dr 2 9))).foldl stepS (Shk.new d (phI four), wsL)).1 [.lst (((iL.map (tk26 dr (1 + dr 2 9))).foldl stepS (Shk.new d (phI four), wsL)).2.map .int)])
  generalize hts : iL.map (tk26 dr (1 + dr 2 9)) = ts at el hi' hl' hall clo
  generalize hs : ts.foldl stepS (Shk.new d (phI four), wsL) = s at el hi' hl' hall clo
  obtain ⟨k, l⟩ := s
  simp only [Shk.new, List.nil_append] at hall
  simp only at el hi' hl' clo
  obtain ⟨SF, efin⟩ := law_led_run (dr := dr) (W := W) (n := n + 1) (Q := shS (shS [] k [.lst (l.map .int)]) k [.lst (l.map .int)] |>.drop 6) hd (by omega) hi' (ws := wsL) (l := l) hl'.wd hws hall (by omega)
  have e6 : shS [] k (.lst (l.map .int) :: (shS (shS [] k [.lst (l.map .int)]) k [.lst (l.map .int)]).drop 6) = shS (shS [] k [.lst (l.map .int)]) k [.lst (l.map .int)] := by
    simp [shS]
  rw [e6] at efin
  have g6 : shS (shS [] k [.lst (l.map .int)]) k [.lst (l.map .int)] = shS [] k (.lst (l.map .int) :: (shS (shS [] k [.lst (l.map .int)]) k [.lst (l.map .int)]).drop 6) := e6.symm
  rw [callN_eq (df := d_law) rfl rfl]
  show ∃ S, (exSs _ W ([d_law_0] ++ ([d_law_1] ++ ([d_law_2] ++ ([d_law_3] ++ ([d_law_4] ++ ([d_law_5] ++ ([d_law_6, d_law_7] ++ [d_law_8]))))))) [.fz .scr, .un, .un, .un, .un, .un, .un, .un, .un, .un, .un, .un, .un, .un, .un] []).fin = _
  have s0 : exS ⟨callN fn dr W (n + 6), dr⟩ W d_law_0 [.fz .scr, .un, .un, .un, .un, .un, .un, .un, .un, .un, .un, .un, .un, .un, .un] [] = .ok (.nx [.fz .scr, .fz (.int (d : Int)), .fz (.int (phI four)), .un, .un, .un, .un, .un, .un, .un, .un, .un, .un, .un, .un]) [] := by
    rw [ed]
    simp [d_law_0, idxB, ef, puts, isL]
  have s1 : exS ⟨callN fn dr W (n + 6), dr⟩ W d_law_1 [.fz .scr, .fz (.int (d : Int)), .fz (.int (phI four)), .un, .un, .un, .un, .un, .un, .un, .un, .un, .un, .un, .un] [] = .ok (.nx [.fz .scr, .fz (.int (d : Int)), .fz (.int (phI four)), .fz (.ref 0), .fz (.int (1 + dr 2 9)), .un, .un, .un, .un, .un, .un, .un, .un, .un, .un]) (shS [] (Shk.new d (phI four)) []) := by
    simp [d_law_1, binds, c0, puts, isL]
  have s2 : exS ⟨callN fn dr W (n + 6), dr⟩ W d_law_2 [.fz .scr, .fz (.int (d : Int)), .fz (.int (phI four)), .fz (.ref 0), .fz (.int (1 + dr 2 9)), .un, .un, .un, .un, .un, .un, .un, .un, .un, .un] (shS [] (Shk.new d (phI four)) []) = .ok (.nx [.fz .scr, .fz (.int (d : Int)), .fz (.int (phI four)), .fz (.ref 0), .fz (.int (1 + dr 2 9)), .fz (.lst (wsL.map .int)), .un, .un, .un, .un, .un, .un, .un, .un, .un]) (shS [] (Shk.new d (phI four)) []) := by
    have er : rngB [.int (1 + dr 3 6)] = some ((List.range (1 + dr 3 6).toNat).map fun (j : Nat) => D.int (j : Int)) := by
      unfold rngB
      dsimp only
      rw [if_pos ⟨by unfold big; omega, by unfold big; omega⟩]
      unfold rangeL
      simp
    simp only [d_law_2, exS_set, evE_lc, rd_rng, evE_rng, evEs_cons, evEs_nil, evE_bin, rd_cst, evE_cst, rd_drawn, evE_drawn, List.getElem?_cons_zero, bind_ok]
    rw [if_pos (by decide)]
    simp only [bind_ok, opI_add, of_some, er, Option.map_some, itB_lst, slots_v]
    rw [if_pos (by simp [okW]; omega), lcL_mapT (g := fun (i : Nat) => .int (dr (10 + (i : Int)) 256))]
    · simp [wsL]
    · intro i hi
      have := List.mem_range.mp hi
      have h2 : 0 ≤ 10 + (i : Int) ∧ 10 + (i : Int) < 1000000 := by omega
      simp [wipS, h2]
  have s3 : exS ⟨callN fn dr W (n + 6), dr⟩ W d_law_3 [.fz .scr, .fz (.int (d : Int)), .fz (.int (phI four)), .fz (.ref 0), .fz (.int (1 + dr 2 9)), .fz (.lst (wsL.map .int)), .un, .un, .un, .un, .un, .un, .un, .un, .un] (shS [] (Shk.new d (phI four)) []) = .ok (.nx [.fz .scr, .fz (.int (d : Int)), .fz (.int (phI four)), .fz (.ref 0), .fz (.int (1 + dr 2 9)), .fz (.lst (wsL.map .int)), .un, .fz (.ref 5), .own (([] : List (Bool × Bool)).map tkD), .un, .un, .un, .un, .un, .un]) (shS [] (Shk.new d (phI four)) [.lst (wsL.map .int)]) := by
    simp [d_law_3, bltB, puts, isL, shS]
  have s4 : exS ⟨callN fn dr W (n + 6), dr⟩ W d_law_4 [.fz .scr, .fz (.int (d : Int)), .fz (.int (phI four)), .fz (.ref 0), .fz (.int (1 + dr 2 9)), .fz (.lst (wsL.map .int)), .un, .fz (.ref 5), .own (([] : List (Bool × Bool)).map tkD), .un, .un, .un, .un, .un, .un] (shS [] (Shk.new d (phI four)) [.lst (wsL.map .int)]) = .ok (.nx [.fz .scr, .fz (.int (d : Int)), .fz (.int (phI four)), .fz (.ref 0), .fz (.int (1 + dr 2 9)), .fz (.lst (wsL.map .int)), q6, .fz (.ref 5), .own (([] ++ ts).map tkD), q9, q10, q11, q12, q13, q14]) (shS [] k [.lst (l.map .int)]) := by
    have er : rngB [.int (30 + dr 4 30)] = some (iL.map .int) := by
      unfold rngB
      dsimp only
      rw [if_pos ⟨by unfold big; omega, by unfold big; omega⟩]
      unfold rangeL
      simp [iL]
    simp only [d_law_4, exS_for, noOwnIt, if_true, evE_rng, evEs_cons, evEs_nil, evE_bin, rd_cst, evE_cst, rd_drawn, evE_drawn, List.getElem?_cons_zero, bind_ok]
    rw [if_pos (by decide)]
    simp only [bind_ok, opI_add, of_some, er, Option.map_some, srof_ok, itB_lst]
    exact el
  have s5 : exS ⟨callN fn dr W (n + 6), dr⟩ W d_law_5 [.fz .scr, .fz (.int (d : Int)), .fz (.int (phI four)), .fz (.ref 0), .fz (.int (1 + dr 2 9)), .fz (.lst (wsL.map .int)), q6, .fz (.ref 5), .own (([] ++ ts).map tkD), q9, q10, q11, q12, q13, q14] (shS [] k [.lst (l.map .int)]) = .ok (.nx [.fz .scr, .fz (.int (d : Int)), .fz (.int (phI four)), .fz (.ref 0), .fz (.int (1 + dr 2 9)), .fz (.lst (wsL.map .int)), q6, .fz (.ref 5), .fz (.lst (ts.map tkD)), q9, q10, q11, q12, q13, q14]) (shS [] k [.lst (l.map .int)]) := by
    simp [d_law_5]
  have ee := eq_ilL k.got k.got
  simp only [decide_true] at ee
  have ew := eq_ilL wsL wsL
  simp only [decide_true] at ew
  have ea : opB .add (.lst (k.sent.map .int)) (.lst (l.map .int)) = some (.lst (wsL.map .int)) := by
    have hh : k.sent.length + l.length = wsL.length := by rw [← hall]; simp
    rw [opL_add (by simp only [List.length_map, SZ_eq]; omega), ← List.map_append, hall]
  have s6 : exSs ⟨callN fn dr W (n + 6), dr⟩ W [d_law_6, d_law_7] [.fz .scr, .fz (.int (d : Int)), .fz (.int (phI four)), .fz (.ref 0), .fz (.int (1 + dr 2 9)), .fz (.lst (wsL.map .int)), q6, .fz (.ref 5), .fz (.lst (ts.map tkD)), q9, q10, q11, q12, q13, q14] (shS [] k [.lst (l.map .int)]) = .ok (.nx [.fz .scr, .fz (.int (d : Int)), .fz (.int (phI four)), .fz (.ref 0), .fz (.int (1 + dr 2 9)), .fz (.lst (wsL.map .int)), q6, .fz (.ref 5), .fz (.lst (ts.map tkD)), q9, q10, q11, q12, q13, q14]) (shS (shS [] k [.lst (l.map .int)]) k [.lst (l.map .int)]) := by
    rw [g6] at clo ⊢
    simp [d_law_6, d_law_7, binds, clo, ee, cmpB, ea, ew]
  rw [ssApp (ssOne s0), ssApp (ssOne s1), ssApp (ssOne s2), ssApp (ssOne s3), ssApp (ssOne s4), ssApp (ssOne s5), ssApp s6]
  refine ⟨SF, ?_⟩
  have efin' : callN (mk d_law) dr W (n + 6) 225 [.ref 0, .lst (wsL.map .int), .ref 5, .int (d : Int)] (shS (shS [] k [.lst (l.map .int)]) k [.lst (l.map .int)]) = .ok (.bl true) SF := efin
  simp [d_law_8, binds, efin']
end
end Mi

open PySem PySem.W PyProof.Rows
set_option maxRecDepth 100000 in
set_option maxHeartbeats 0 in
theorem PySem.Challenge.cw_driftgates_k26_whole_shakes_holds : PySem.Challenge.rw_driftgates_k26_whole_shakes.Holds := by
  w_on; o_law; k_head; (case hw => w_witness2)
  k_fill
  refine L2.walk_of (l := PySem.Challenge.rw_driftgates_k26_whole_shakes) (n := 63) (k := 22) (x := "_law_script") (CX := fun w => L2.CX PySem.Challenge.pw_driftgates_k26_whole_shakes w) (sp := fun w => Mi.spLaw _) rfl (by decide) rfl ⟨rfl, by decide, by decide⟩ (fun w h Y => PySem.W.kIn_of Y) ?F (fun _ H a ns hl hO hS => ⟨a, ns, rfl, hO, hS, hl, fun _ => rfl⟩) (fun _ H s e s' h => by obtain ⟨_, _, _, _, _, _, _, _, _, _, _, _, z⟩ := h; exact z)
  case F =>
    intro w mg fa h KX G hmg
    refine' Mi.all_mk KX G hmg ?x_qa0 ?x_qb0 ?x_qm0 ?x_qk0 ?x_qa1 ?x_qb1 ?x_qm1 ?x_qk1 ?x_a0 ?x_l0 ?x_c0 ?x_k0 ?x_a1 ?x_l1 ?x_c1 ?x_k1 ?x_w1least ?x_w1most ?x_a2 ?x_l2 ?x_c2 ?x_k2 ?x_w2steps ?x_w2phases ?x_a3 ?x_l3 ?x_c3 ?x_k3 ?x_a4 ?x_l4 ?x_c4 ?x_k4 ?x_a5 ?x_n5 ?x_l5 ?x_c5 ?x_k5 ?x_a6 ?x_n6 ?x_l6 ?x_c6 ?x_k6 ?x_a7 ?x_n7 ?x_l7 ?x_c7 ?x_k7 ?x_a8 ?x_n8 ?x_l8 ?x_c8 ?x_k8 ?x_w8steps ?x_w8phases ?x_a9 ?x_n9 ?x_l9 ?x_c9 ?x_k9 ?x_a10 ?x_n10 ?x_l10 ?x_c10 ?x_k10 ?x_a11 ?x_n11 ?x_l11 ?x_c11 ?x_k11 ?x_a12 ?x_n12 ?x_l12 ?x_c12 ?x_k12 ?x_a13 ?x_n13 ?x_l13 ?x_c13 ?x_k13 ?x_w13late ?x_a14 ?x_n14 ?x_l14 ?x_c14 ?x_k14 ?x_a15 ?x_n15 ?x_l15 ?x_c15 ?x_k15 ?x_a16 ?x_n16 ?x_l16 ?x_c16 ?x_k16 ?x_a17 ?x_l17 ?x_c17 ?x_k17 ?x_z0 ?x_z1 ?x_z2 ?x_z3 ?x_z4 ?x_z5 ?x_z6 ?x_z7 ?x_z8 ?x_z9 ?x_z10 ?x_z11 ?x_z12 ?x_z13 ?x_z14 ?x_z15 ?x_z16 ?x_z17 ?x_g0 ?x_g1 ?x_gl1 ?x_xa0 ?x_xa8 ?x_xa5 ?x_xa11 ?x_xb0 ?x_xe0 ?x_xb8 ?x_xo8 ?x_xi8 ?x_xt8 ?x_xl8 ?x_xc8 ?x_xk8 ?x_xb5 ?x_xe5 ?x_xb11 ?x_xo11 ?x_xi11 ?x_xt11 ?x_xl11 ?x_xc11 ?x_xk11 ?x_xp (fun dr hd => Mi.law_k26 (n := 3) hd (by decide))
    (case x_qa0 => k_is); (case x_qb0 => kernel_rfl); (case x_qm0 => kernel_rfl); (case x_qk0 => k_is); (case x_qa1 => k_is); (case x_qb1 => kernel_rfl); (case x_qm1 => kernel_rfl); (case x_qk1 => k_is); (case x_a0 => k_is); (case x_l0 => k_is); (case x_c0 => k_is); (case x_k0 => k_is); (case x_a1 => k_is); (case x_l1 => k_is); (case x_c1 => k_is); (case x_k1 => k_is); (case x_w1least => k_is); (case x_w1most => k_is); (case x_a2 => k_is); (case x_l2 => k_is); (case x_c2 => k_is); (case x_k2 => k_is); (case x_w2steps => k_is); (case x_w2phases => k_is); (case x_a3 => k_is); (case x_l3 => k_is); (case x_c3 => k_is); (case x_k3 => k_is); (case x_a4 => k_is); (case x_l4 => k_is); (case x_c4 => k_is); (case x_k4 => k_is); (case x_a5 => k_is); (case x_n5 => kernel_rfl); (case x_l5 => k_is); (case x_c5 => k_is); (case x_k5 => k_is); (case x_a6 => k_is); (case x_n6 => kernel_rfl); (case x_l6 => k_is); (case x_c6 => k_is); (case x_k6 => k_is); (case x_a7 => k_is); (case x_n7 => kernel_rfl); (case x_l7 => k_is); (case x_c7 => k_is); (case x_k7 => k_is); (case x_a8 => k_is); (case x_n8 => kernel_rfl); (case x_l8 => k_is); (case x_c8 => k_is); (case x_k8 => k_is); (case x_w8steps => k_is); (case x_w8phases => k_is); (case x_a9 => k_is); (case x_n9 => kernel_rfl); (case x_l9 => k_is); (case x_c9 => k_is); (case x_k9 => k_is); (case x_a10 => k_is); (case x_n10 => kernel_rfl); (case x_l10 => k_is); (case x_c10 => k_is); (case x_k10 => k_is); (case x_a11 => k_is); (case x_n11 => kernel_rfl); (case x_l11 => k_is); (case x_c11 => k_is); (case x_k11 => k_is); (case x_a12 => k_is); (case x_n12 => kernel_rfl); (case x_l12 => k_is); (case x_c12 => k_is); (case x_k12 => k_is); (case x_a13 => k_is); (case x_n13 => kernel_rfl); (case x_l13 => k_is); (case x_c13 => k_is); (case x_k13 => k_is); (case x_w13late => k_is); (case x_a14 => k_is); (case x_n14 => kernel_rfl); (case x_l14 => k_is); (case x_c14 => k_is); (case x_k14 => k_is); (case x_a15 => k_is); (case x_n15 => kernel_rfl); (case x_l15 => k_is); (case x_c15 => k_is); (case x_k15 => k_is); (case x_a16 => k_is); (case x_n16 => kernel_rfl); (case x_l16 => k_is); (case x_c16 => k_is); (case x_k16 => k_is); (case x_a17 => k_is); (case x_l17 => k_is); (case x_c17 => k_is); (case x_k17 => k_is); (case x_z0 => k_is); (case x_z1 => k_is); (case x_z2 => k_is); (case x_z3 => k_is); (case x_z4 => k_is); (case x_z5 => k_is); (case x_z6 => k_is); (case x_z7 => k_is); (case x_z8 => k_is); (case x_z9 => k_is); (case x_z10 => k_is); (case x_z11 => k_is); (case x_z12 => k_is); (case x_z13 => k_is); (case x_z14 => k_is); (case x_z15 => k_is); (case x_z16 => k_is); (case x_z17 => k_is); (case x_g0 => k_is); (case x_g1 => k_is); (case x_gl1 => k_is); (case x_xa0 => k_is); (case x_xa8 => k_is); (case x_xa5 => k_is); (case x_xa11 => k_is); (case x_xb0 => kernel_rfl); (case x_xe0 => kernel_rfl); (case x_xb8 => kernel_rfl); (case x_xo8 => kernel_rfl); (case x_xi8 => k_is); (case x_xt8 => k_is); (case x_xl8 => k_is); (case x_xc8 => k_is); (case x_xk8 => k_is); (case x_xb5 => kernel_rfl); (case x_xe5 => kernel_rfl); (case x_xb11 => kernel_rfl); (case x_xo11 => kernel_rfl); (case x_xi11 => k_is); (case x_xt11 => k_is); (case x_xl11 => k_is); (case x_xc11 => k_is); (case x_xk11 => k_is); (case x_xp => kernel_rfl)
