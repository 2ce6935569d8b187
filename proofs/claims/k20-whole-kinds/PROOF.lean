import PyProof.Rows.All
import Wide.All
import OpenK.AllK
import Wide.FinOn
import KE.GoesEnum
import KE.KExcSuper
import HandS.ForMost
import HandS.ForExc
import HandS.ExcInit
import HandS.Wide
import HandS.TupAny
import HandS.IsInst
import HandS.CallLocal
import HandS.DictComp
import HandS.SlotsOwn
import HandS.Walk
import KE.RegKSuper
import KE.RegKIsAll
import PySem.Challenge.RW_oncekinds_k20_whole_kinds_are_judged
set_option Elab.async false
set_option linter.all false
set_option maxRecDepth 100000
set_option maxHeartbeats 3000000
/-! what the layer lacked for this claim: enumerate of a tuple, == and != of an own class with any right side, code that is never come to -/
namespace PySem
namespace KndX
/-- a new walk over the tuple at t; a new enumerate over the walk at i -/
abbrev tiO (t : Addr) : Obj := { cls := .type "tuple_iterator", data := .fields #[.ref t, .int 0 0] }
abbrev enO (i : Addr) : Obj := { cls := .type "enumerate", data := .fields #[.none, .bool false, .ref i, rawInt 0, .none, .none] }
theorem new_enumT (tp : Addr) (vs : Array Value) (n : Nat) (dct : Option Addr) (sl : Array (Option Value)) :
    Meets (Builtin.«enumerate.__new__» ⟨[.type "enumerate", .ref tp], []⟩) (fun _ R s =>
      s.heap.get? tp = some { cls := .type "tuple", dict := dct, data := .seq vs n, slots := sl } ∧
      R (.ok (.ret (.ref (s.heap.push (tiO tp)).objs.size))) { s with heap := (s.heap.push (tiO tp)).push (enO s.heap.objs.size) }) := by
  refine Meets.of_wp fun pr wo ar re st q => ?_
  rcases st with ⟨hp, gl, dr, tk, os⟩
  rcases q with ⟨hl, fin⟩
  have hsub := sub_enumerate
  have tup : Heap.IsTuple (Shared.heap ⟨hp, gl, dr, tk, os⟩) tp vs := ⟨_, hl, rfl, n, rfl⟩
  wp_walk using AutoSeq1.wpAny_loadPart' hl
  refine wpAny_stack_any (fun _ => ?_)
  refine wpAny_pure ?_
  split
  · rename_i c _ _ _ _ _
    by_cases hc : (c == Value.type "enumerate") = true
    · rw [hc]
      wp_walk using AutoSeq1.wpAny_loadPart' hl, wpAny_pyIter_tuple tup
      exact ⟨_, rfl, fin⟩
    · rw [Bool.not_eq_true] at hc
      rw [hc]
      wp_walk using AutoSeq1.wpAny_loadPart' hl, wpAny_pyIter_tuple tup
      exact ⟨_, rfl, fin⟩
  · wp_walk using AutoSeq1.wpAny_loadPart' hl, wpAny_pyIter_tuple tup
    exact ⟨_, rfl, fin⟩
section
variable {s : Shared} {A : Around} {E : Value → Shared → Prop} {prog : Program} {w : World}
/-- where enumerate(t) stands after its call -/
structure Laid (h h' : Heap) (tp : Addr) : Prop where
  en : IsEnum h' (h.objs.size + 1) h.objs.size 0 .none
  ti : h'.IsTupleIter h.objs.size tp 0
  keep : ∀ b o, h.get? b = some o → h'.get? b = some o
theorem laid (h : Heap) (tp : Addr) : Laid h ((h.push (tiO tp)).push (enO h.objs.size)) tp := by
  have sz : (h.push (tiO tp)).objs.size = h.objs.size + 1 := Heap.size_push ..
  refine ⟨?_, ⟨_, Heap.get?_push_of_some _ (Heap.get?_push_size _ rfl), rfl, rfl⟩, fun b o x => Heap.get?_push_of_some _ (Heap.get?_push_of_some _ x)⟩
  have q := Heap.get?_push_size (h.push (tiO tp)) (o := enO h.objs.size) rfl
  rw [sz] at q
  exact q
theorem call_enumT {tp : Addr} {vs : Array Value} {Q : Value → Shared → Prop} (hT : s.heap.IsTuple tp vs) (k : ∀ h', Laid s.heap h' tp → Q (.ref (s.heap.objs.size + 1)) { s with heap := h' }) :
    wpAny (model prog w) A (call (.type "enumerate") [.ref tp]) Q E s := by
  rcases hT with ⟨⟨c, dct, dt, sl⟩, hl, hc, n, hd⟩
  cases (show c = Value.type "tuple" from hc)
  cases (show dt = Data.seq vs n from hd)
  have L := laid s.heap tp
  have sz : (s.heap.push (tiO tp)).objs.size = s.heap.objs.size + 1 := Heap.size_push ..
  have init := fun obj => F.args_object_init_2 obj (Value.ref tp)
  refine callType_new F.called_enumerate (by decide) (F.typeCall_enumerate_1 _) (F.newCall_enumerate_1 _) init F.entry_enumerate_new (new_enumT tp vs n dct sl) (And.intro hl ?_)
  show _ ∧ _
  rw [sz]
  exact ⟨⟨_, L.en, rfl⟩, k _ L⟩
theorem enumT_end {e it tp : Addr} {i : Nat} {vs : Array Value} {old : Value} {Q : Option Value → Shared → Prop} (hh : A.handled = none) (en : IsEnum s.heap e it i old) (ti : s.heap.IsTupleIter it tp i)
    (ht : s.heap.IsTuple tp vs) (hx : vs[i]? = none) (k : ∀ h', Heap.ExtBut it s.heap h' → Q none { s with heap := h' }) :
    wpAny (model prog w) A (pyNext (Value.ref e)) Q E s := by
  have ty : s.TypeIs (.ref e) "enumerate" := ⟨_, en, rfl⟩
  unfold pyNext
  refine wpAny_bind (wpAny_attempt (wpAny_callSpecial?_slot (name := Str.ofString "__next__") ty F.slot_enumerate_next (wpAny_call_entry F.slot_enumerate_next ty F.entry_enumerate_next ?_ (F.args_enumerate_next_1 _))))
  show wpAny _ _ (field (Value.ref e) 2 >>= _) _ _ s
  refine wpAny_bind (wpAny_field en rfl (x := Value.ref it) rfl (wpAny_bind ?_))
  refine wpAny_nextOf_tuple_end hh ti ht hx fun h' x ex thrown => ?_
  rcases thrown with ⟨o, ho, hc⟩
  exact wpAny_bind (wpAny_isInstance (T := "StopIteration") (b := true) ⟨o, ho, hc⟩ isSubtype_stop (wpAny_pure (k h' ex)))
end

section
open PyProof.Rows PySem.W PySem.Calls
variable {s : Shared} {A : Around} {E : Value → Shared → Prop} {prog : Program} {w : World} {K : Frag} {x C L f : Addr} {h₀ : Heap} {m : Str → Option Value} {ox : Obj} {od : Option Obj} {b tb : Value}
/-- object.__ne__ where the class has an own __eq__ that answers a bool -/
theorem ne_body {Q : Fin → Shared → Prop} (hu : A.units < cLine) (X : K.In s.heap) (I : InstAt s.heap x ox C od) (hs : findIn K (.ref C) "__eq__" = some (some (.ref f))) (hf : isFn K (.ref f) = true)
    (h : wpAny (model prog w) A (call (.ref f) [.ref x, b]) (fun v s' => ∃ c, v = .bool c ∧ Q (.done (.ret (.bool (!c)))) s') E s) :
    wpAny (model prog w) A (Builtin.«object.__ne__» ⟨[.ref x, b], []⟩) Q E s := by
  rcases s with ⟨hp, gl, dr, tk, os⟩
  have step : wpAny (model prog w) A (callSpecialIfBound? (.ref x) (Str.ofString "__eq__") [b]) (fun r s' => ∃ c, r = some (.bool c) ∧ Q (.done (.ret (.bool (!c)))) s') E ⟨hp, gl, dr, tk, os⟩ := by
    refine ifBound_K X I hs hf (wpAny_mono h ?_ fun _ _ z => z)
    rintro v s' ⟨c, rfl, q⟩
    exact ⟨c, rfl, q⟩
  unfold Builtin.«object.__ne__»; repeat (first
    | (with_reducible refine wpAny_cRoomFor hu ?_)
    | (refine wpAny_bind (m := callSpecialIfBound? (.ref x) (Str.ofString "__eq__") [b]) (wpAny_mono step (fun r s' hr => by
          obtain ⟨c, rfl, hq⟩ := hr
          repeat (first | exact hq | exact wpAny_pure hq | exact wpAny_truthy_bool hq | (refine wpAny_bind (m := truthy (.bool _)) (wpAny_truthy_bool ?_)) | wp_step)) fun _ _ z => z))
    | wp_step)
/-- x != b, the class's __ne__ being object's -/
theorem ne_K {Q : Value → Shared → Prop} (hu : A.units + 1 < cLine) (F : Fr h₀ L s.heap m) (X₀ : K.In h₀) (I : InstAt s.heap x ox C od) (hb : Looks (model prog w) s.heap (typeOf b) tb) (hn : notFirst K C tb = true)
    (hne : findIn K (.ref C) "__ne__" = some (some (.builtin "object.__ne__"))) (hob : mroIn K C (.type "object") = some true) (hs : findIn K (.ref C) "__eq__" = some (some (.ref f))) (hf : isFn K (.ref f) = true)
    (h : wpAny (model prog w) A.in1 (call (.ref f) [.ref x, b]) (fun v s' => ∃ c, v = .bool c ∧ Q (.bool (!c)) s') E s) : wpAny (model prog w) A (richCompare .NotEq (.ref x) b) Q E s := by
  have X := X₀.keeps F.keep
  -- the slot's own call
  have inner : wpAny (model prog w) A (call (.builtin "object.__ne__") [.ref x, b]) (fun v s' => ∃ c, v = .bool c ∧ Q (.bool c) s') E s := by
    have body := ne_body (A := A.in1) (Q := fun r s' => ∃ v, r = .done (.ret v) ∧ ∃ c, v = .bool c ∧ Q (.bool c) s') hu X I hs hf (wpAny_mono h (by
      rintro v s' ⟨c, rfl, q⟩
      exact ⟨c, rfl, _, rfl, _, rfl, q⟩) fun _ _ z => z)
    refine wpAny_call (codeAny_call_builtin PySem.F.slot_object_ne.plain PySem.F.cmpEntry_ne (check_slot PySem.F.cmpKind_ne PySem.F.cmpSplit_ne (I.type.andThen (looks_mroIn X hob)) (PySem.F.cmpArgs_ne _ _) (wpAny_mono body ?_ fun _ _ z => z)))
    rintro r s' ⟨v, rfl, c, rfl, q⟩
    exact ⟨c, rfl, q⟩
  have got : ∀ {R : Option Value → Shared → Prop}, (∀ c s', Q (.bool c) s' → R (some (.bool c)) s') → wpAny (model prog w) A (call (.builtin "object.__ne__") ([.ref x] ++ [b]) >>= fun v => pure (some v)) R E s := fun {R} k =>
    wpAny_bind (wpAny_mono inner (by
      rintro v s' ⟨c, rfl, q⟩
      exact wpAny_pure (k c s' q)) fun _ _ z => z)
  have bindsIt := Looks.of_pure (M := model prog w) (h := s.heap) (PySem.F.slot_object_ne.bind (Value.ref x))
  have one : wpAny (model prog w) A (tryCompare (.ref x) "__ne__" b) (fun r s' => ∃ v, r = some v ∧ Q v s') E s := by
    unfold tryCompare
    refine wpAny_bind ?_
    simp only [bindSpecialIfBound?, callSpecialIfBound?]
    refine wpAny_holding (wpAny_bind (wpAny_bind (wpAny_bind (I.type.here ((looks_findIn X hne).here ?_)))))
    refine wpAny_bind ?_
    refine wpAny_askSetting (wpAny_ite ?_)
    split
    · refine wpAny_bind (bindsIt.here (wpAny_pure ?_))
      exact got fun c s' q => wpAny_pure ⟨_, rfl, q⟩
    · refine wpAny_tryCatch (wpAny_bind (bindsIt.here (wpAny_pure ?_)))
      exact got fun c s' q => wpAny_pure ⟨_, rfl, q⟩
  have last : ∀ (t : Option Value → Sem Value), (∀ v, t (some v) = pure v) → wpAny (model prog w) A (tryCompare (.ref x) "__ne__" b >>= t) Q E s := fun t ht => wpAny_bind (wpAny_mono one (by
    rintro r s' ⟨v, rfl, q⟩
    rw [ht]
    exact wpAny_pure q) fun _ _ z => z)
  unfold richCompare
  simp only [oneThing_ref]
  refine wpAny_holding (wpAny_bind (wpAny_cRoomFor (Nat.lt_of_succ_lt hu) (wpAny_bind (I.type.here (wpAny_bind (hb.here ?_))))))
  split
  · rename_i q
    have nosub : subIn K tb (.ref C) = some false := by
      cases Bool.or_eq_true_iff.mp hn with
      | inl z =>
        rw [beq_iff_eq.mp z] at q
        simp at q
      | inr z => exact beq_iff_eq.mp z
    refine wpAny_bind ((looks_subIn X nosub).here ?_)
    simp only [if_false, Bool.false_eq_true]
    exact last _ fun _ => rfl
  · refine wpAny_bind ?_
    refine wpAny_pure ?_
    simp only [if_false, Bool.false_eq_true]
    exact last _ fun _ => rfl
end
end KndX
end PySem

namespace Knd
open PySem PySem.Spec PyProof.Rows L2
/-! ### never come to -/
theorem pe_nev {X : Cx} {e : Expr} : PE X e (fun _ _ _ => False) := ⟨fun _ _ _ _ _ _ h => h.elim⟩
theorem pt_nev {X : Cx} {e : Expr} : PT X e (fun _ _ _ => False) := ⟨fun _ _ _ _ _ _ h => h.elim⟩

/-! ### enumerate(tuple) -/
def IteT (K : PySem.W.Frag) (a : Addr) : It where
  go := fun i H => ∃ (xs : List V) (x : V), SqT K H a xs ∧ xs[i]? = some x
  yld := fun i H v H' => ∃ T x, v = .ref T ∧ H T = none ∧ H' = upd H T (.tup [.int (i : Nat), x]) ∧ ∀ ys, SqT K H a ys → ys[i]? = some x
  stop := fun i H => ∃ xs : List V, SqT K H a xs ∧ xs.length ≤ i
/-- the enumerate at e over the walk at it over the tuple at a, before turn i -/
structure EnT (a e it : Addr) (i : Nat) (h : Heap) : Prop where
  en : ∃ old, IsEnum h e it ((i : Nat) : Int) old
  ti : h.IsTupleIter it a i
  d1 : e ≠ it
  d2 : a ≠ it
  d3 : a ≠ e
theorem of_two {α : Type} {b x y : α} (h : b ∈ [x, y]) : b = x ∨ b = y := (List.mem_cons.mp h).imp id List.mem_singleton.mp
theorem EnT.small {a e it : Addr} {i : Nat} {h : Heap} (st : EnT a e it i h) {b : Addr} (hb : b ∈ [e, it]) : b < h.objs.size := by
  obtain ⟨old, en⟩ := st.en
  obtain ⟨o, ho, _⟩ := st.ti
  rcases of_two hb with rfl | rfl
  · exact Heap.lt_size en
  · exact Heap.lt_size ho
theorem turn_enumT {P : Program} {w : World} {K : PySem.W.Frag} {elts : List Expr} {kk : Nat} {tpos : Pos} (a e it : Addr) : Turn P w K (.Tuple elts kk tpos) (IteT K a) [e, it] e (EnT a e it) where
  mem := List.mem_cons_self
  obj := by
    intro i h st b hb
    obtain ⟨old, en⟩ := st.en
    obtain ⟨o, ho, _, hd⟩ := st.ti
    rcases of_two hb with rfl | rfl
    · exact ⟨_, en, fun _ z => nomatch z⟩
    · refine ⟨o, ho, fun _ z => ?_⟩
      rw [hd] at z
      cases z
  keep := by
    intro i h h' st k
    obtain ⟨old, en⟩ := st.en
    exact ⟨⟨old, k e (by simp) _ en⟩, st.ti.at fun o z => k it (by simp) o z, st.d1, st.d2, st.d3⟩
  item := by
    rintro X rfl rfl rfl hc i pins s σ H E I hf st ⟨xs, x, hq, hx⟩
    obtain ⟨old, en⟩ := st.en
    obtain ⟨us, rel, tup, _⟩ := I.tuple hq
    obtain ⟨u, hu, ru⟩ := rel.get hx
    have tupA : s.heap.IsTuple a us.toArray := tup
    have small : i < us.toArray.size := by simpa using (List.getElem?_eq_some_iff.mp hu).1
    have D := Draws.tuple (prog := X.prog) (w := X.w) (A := X.A.in1) (I.ok.hd hc) it a st.d2 us.toArray
    refine wpAny_pyNext_enum_itemD D en ⟨st.ti, tupA⟩ small st.d1 (by simp [st.d1, Ne.symm st.d3]) fun v h1 tk hv own ti1 new1 _ kept => ?_
    have same : v = u := Option.some.inj ((show us[i]? = some v by simpa using hv).symm.trans hu)
    subst same
    refine ⟨_, rfl, wpAny_letOwnedTupleGo_enum (s := { s with heap := h1, toks := tk + 1 }) own fun h2 en2 but => ?_⟩
    have far : ∀ b, b ∉ [e, it] → b ≠ e ∧ b ≠ it := fun b hb => ⟨fun z => hb (by simp [z]), fun z => hb (by simp [z])⟩
    have pair : h2.get? s.heap.objs.size = some { cls := .type "tuple", data := .seq #[.int i tk, v] } := (but.2 _ (Nat.ne_of_gt (st.small (List.mem_cons_self)))).trans new1
    have ok : ObjOk X.prog X.w (upd H s.heap.objs.size (.tup [.int (i : Nat), x])) h2 s.heap.objs.size (.tup [.int (i : Nat), x]) :=
      ⟨(by decide : 2 ≤ sizeLine), [.int i tk, v], Paired.cons ⟨_, rfl⟩ (Paired.cons ru Paired.nil), _, pair, rfl, _, rfl⟩
    have J : Inv X pins σ (upd H s.heap.objs.size (.tup [.int (i : Nat), x])) { s with heap := h2, toks := tk + 1 } := by
      refine I.turnedNew (ch := [e, it]) (fun b ob hb z => ?_) hf (Nat.le_refl _) ok
      obtain ⟨n1, n2⟩ := far b hb
      exact (but.2 b n1).trans (kept b ob n1 n2 z)
    have next : EnT a e it (i + 1) h2 := ⟨⟨v, by rw [show ((i + 1 : Nat) : Int) = (i : Int) + 1 from by omega]; exact en2⟩, ti1.1.at fun o z => (but.2 it (Ne.symm st.d1)).trans z, st.d1, st.d2, st.d3⟩
    refine ⟨.ref s.heap.objs.size, _, J, rfl, ⟨_, x, rfl, I.hok.fresh (Nat.le_refl _), rfl, fun ys hy => by rw [I.tuple_inj hy hq]; exact hx⟩, next, fun b hb => ?_⟩
    rw [upd_ne (Nat.ne_of_lt (st.small hb))]
    exact (hf b hb).1
  done := by
    rintro X rfl rfl rfl hc i pins s σ H E I hf st ⟨xs, hq, hx⟩
    obtain ⟨old, en⟩ := st.en
    obtain ⟨us, rel, tup, _⟩ := I.tuple hq
    have tupA : s.heap.IsTuple a us.toArray := tup
    have len := rel.length
    have fi := hf it (List.mem_cons_of_mem _ List.mem_cons_self)
    exact PySem.KndX.enumT_end (I.ok.hd hc) en st.ti tupA (by simp; omega) fun h' but => ⟨rfl, I.turned (t' := s.toks) (fun b o hb z => but b o hb z) fi.1 fi.2.1 fi.2.2.2.1 fi.2.2.2.2.1 fi.2.2.2.2.2⟩
  self := by
    intro A i s Q E st h
    obtain ⟨old, en⟩ := st.en
    exact wpAny_pyIter_enum en h
end Knd

set_option Elab.async false
set_option linter.all false
set_option maxRecDepth 100000
set_option maxHeartbeats 3000000
namespace Knd
open PySem PySem.Spec PyProof.Rows L2
/-! ### for i, x in enumerate(t) -/
def iEnumT (K : PySem.W.Frag) (ta : TA) : TI := fun σ H R => ta σ H fun vs H1 => ∃ a xs, vs = [.ref a] ∧ SqT K H1 a xs ∧ R (IteT K a) H1
theorem pi_enumT {X : Cx} {e : Expr} {ta : TA} {p pos tpos : Pos} {elts : List Expr} {kk : Nat} (hg : Gl X "enumerate") (hm : X.mg "enumerate" = none) (ha : PA X [e] ta) (hs : starEach [e] X.env = [(false, eval e X.env)] := by rfl) :
    PI X (.Tuple elts kk tpos) (.Call (.Name "enumerate" p) [e] [] pos) (iEnumT X.K ta) := by
  constructor
  intro pins s σ H R I h
  have arg := ha.run pos pins s σ H (fun vs H1 => ∃ a xs, vs = [.ref a] ∧ SqT X.K H1 a xs ∧ R (IteT X.K a) H1) I h
  refine Call_ (ld_blt I hg hm boot_enumerate (PyProof.Rows.callWith_type1 (thn arg ?_) hs rfl))
  rintro us s1 ⟨vs, H1, I1, r1, a, xs, rfl, hq, q⟩
  obtain ⟨u, rfl, rfl⟩ := r1.one
  obtain ⟨its, _, tup, _⟩ := I1.tuple hq
  have tupA : s1.heap.IsTuple a its.toArray := tup
  have lt : a < s1.heap.objs.size := tup.lt
  refine PySem.KndX.call_enumT tupA fun h' L => wpAny_pyIter_enum L.en ?_
  have st : EnT a (s1.heap.objs.size + 1) s1.heap.objs.size 0 h' := ⟨⟨.none, L.en⟩, L.ti, Nat.succ_ne_self _, Nat.ne_of_lt lt, Nat.ne_of_lt (Nat.lt_succ_of_lt lt)⟩
  refine ⟨_, [s1.heap.objs.size + 1, s1.heap.objs.size], _, _, H1, rfl, I1.kept (t' := s1.toks) L.keep, turn_enumT a _ _, st, fun b hb => ?_, q⟩
  have old : s1.heap.objs.size ≤ b := by
    rcases of_two hb with rfl | rfl
    · exact Nat.le_succ _
    · exact Nat.le_refl _
  exact I1.fpOk old (I1.hok.fresh old)
theorem walk_enumT {K : PySem.W.Frag} {a : Addr} {xs : List V} : Walk (IteT K a) xs.length (fun H => SqT K H a xs) (fun i H v H' => ∃ T x, v = .ref T ∧ H T = none ∧ H' = upd H T (.tup [.int (i : Nat), x]) ∧ xs[i]? = some x) := by
  refine ⟨fun i _ hi q => ⟨xs, xs[i], q, List.getElem?_eq_getElem hi⟩, fun _ q => ⟨xs, q, Nat.le_refl _⟩, ?_⟩
  rintro i H v H' hi q ⟨T, x, h1, h2, h3, h4⟩
  exact ⟨T, x, h1, h2, h3, h4 xs q⟩
/-- the loop over enumerate of a tuple that stands still: each turn a new pair at T -/
theorem for_enumT {K : PySem.W.Frag} {a : Addr} {xs : List V} {g : TG} {tb : TS} {D : Ends} {σ : L2.St} {H : Hp} (Pv : Nat → L2.St → Hp → Prop) (h0 : Pv 0 σ H) (hl : ∀ i σ H, i ≤ xs.length → Pv i σ H → SqT K H a xs)
    (hs : ∀ i x σ H T, xs[i]? = some x → Pv i σ H → H T = none → g (.ref T) σ (upd H T (.tup [.int (i : Nat), x])) fun σ2 H2 => tb { D with nx := Pv (i + 1), ct := Pv (i + 1), bk := D.nx } σ2 H2) (hd : ∀ σ H, Pv xs.length σ H → D.nx σ H) :
    ∃ W : Nat → Nat → L2.St → Hp → Prop, (∃ m, W 0 m σ H) ∧ ∀ i m σ H, W i m σ H → ((IteT K a).stop i H ∧ D.nx σ H) ∨ ((IteT K a).go i H ∧ ∃ N : L2.St → Hp → Prop, (∀ σ' H', N σ' H' → ∃ m', m' < m ∧ W (i + 1) m' σ' H') ∧
      ∀ x H', (IteT K a).yld i H x H' → g x σ H' fun σ2 H2 => tb { D with nx := N, ct := N, bk := D.nx } σ2 H2) :=
  for_it walk_enumT Pv h0 hl (by
    rintro i v σ H H' _ p ⟨T, x, rfl, h2, rfl, h4⟩
    exact hs i x σ H T h4 p h2) hd

/-! ### == and != by an own __eq__, any right side -/
def rOwnE (K : PySem.W.Frag) (C : Addr) (sp : Sp) (E : XK) : R2 := fun x y H Q => ∃ a dx fs t, x = .ref a ∧ H a = some (.ins C dx fs) ∧ TyX K H y t ∧ PySem.W.notFirst K C t = true ∧ sp [x, y] H Q E
def rOwnN (K : PySem.W.Frag) (C : Addr) (sp : Sp) (E : XK) : R2 := fun x y H Q => ∃ a dx fs t, x = .ref a ∧ H a = some (.ins C dx fs) ∧ TyX K H y t ∧ PySem.W.notFirst K C t = true ∧ sp [x, y] H (fun z H' => ∃ c, z = .bl c ∧ Q (.bl (!c)) H') E
section
variable {X : Cx} {CX : CXT} {C f : Addr} {fd : FuncData} {ps : List Str} {n : Nat} {sp : Sp} {E : XK}
theorem op_ownE (hs : PySem.W.findIn X.K (.ref C) "__eq__" = some (some (.ref f))) (hf : PySem.W.isFn X.K (.ref f) = true) (F : FnOk X.prog X.w X.K X.mg X.base CX n f fd ps sp) (hb : Binds X.K fd ps []) (hr : Room n X.A) (hx : Passes CX X E) :
    OpR X (compareOp .Eq) (rOwnE X.K C sp E) := by
  rintro pins s σ H _ y _ u Q I rx ry ⟨a, dx, fs, t, rfl, ha, ty, hn, q⟩
  obtain rfl := rx
  obtain ⟨_, inst, _⟩ := ins_get I.hok ha
  obtain ⟨_, look, _⟩ := inst.look
  obtain ⟨_, kit, kp, _⟩ := kit_of I ry ty
  obtain ⟨_, frag⟩ := I.fr
  have both : Vals [V.ref a, y] [Value.ref a, u] := .cons rfl (.cons ry .nil)
  have run := run_fn (us := [.ref a, u]) (vs := [.ref a, y]) F hr hb .nil hx I both q
  refine PySem.W.cmp_K (op := .Eq) (tb := t) hr.units0 frag I.ok.mod.kin look (kit.ty _ _ I.kIn kp) hn hs hf (wpAny_mono run ?_ fun _ _ z => z)
  rintro v s' ⟨z, H', I', rz, qz⟩
  exact SlX.cmpback rz ⟨z, H', I', rz, qz⟩
theorem op_ownN (hs : PySem.W.findIn X.K (.ref C) "__eq__" = some (some (.ref f))) (hf : PySem.W.isFn X.K (.ref f) = true) (hne : PySem.W.findIn X.K (.ref C) "__ne__" = some (some (.builtin "object.__ne__")))
    (hob : PySem.W.mroIn X.K C (.type "object") = some true) (F : FnOk X.prog X.w X.K X.mg X.base CX n f fd ps sp) (hb : Binds X.K fd ps []) (hr : Room (n + 1) X.A) (hx : Passes CX X E) :
    OpR X (compareOp .NotEq) (rOwnN X.K C sp E) := by
  rintro pins s σ H _ y _ u Q I rx ry ⟨a, dx, fs, t, rfl, ha, ty, hn, q⟩
  obtain rfl := rx
  obtain ⟨_, inst, _⟩ := ins_get I.hok ha
  obtain ⟨_, look, _⟩ := inst.look
  obtain ⟨_, kit, kp, _⟩ := kit_of I ry ty
  obtain ⟨_, frag⟩ := I.fr
  have both : Vals [V.ref a, y] [Value.ref a, u] := .cons rfl (.cons ry .nil)
  have len := F.len _ _ _ _ q
  have bind := hb s [.ref a, u] I.kIn (by simpa using len)
  have run := F.run X.A.in1 X.stack s H ⟨[.ref a, u], []⟩ [.ref a, u] [.ref a, y] _ E hr.in1 I.env0.in1 (by simpa using bind) both q
  refine PySem.KndX.ne_K (tb := t) (hu_of hr) frag I.ok.mod.kin look (kit.ty _ _ I.kIn kp) hn hne hob hs hf (wpAny_call (codeAny_mono run ?_))
  rintro (er | fl) s' hq
  · exact hx pins σ H s er s' I hq
  · cases fl with
    | ret v =>
      obtain ⟨_, H', I', rz, c, rfl, qc⟩ := I.after hq
      cases rz
      exact ⟨c, rfl, .bl (!c), H', I', rfl, qc⟩
    | _ => exact False.elim hq
end
end Knd

set_option Elab.async false
set_option linter.all false
set_option maxRecDepth 100000
set_option maxHeartbeats 3000000
/-! BadKind(index): an own error over KindError over ValueError whose __init__ says super().__init__(index), then self.index = index -/
namespace PySem
namespace BkX
open PySem.Calls PySem.HandSPX PySem.W PyProof.Rows
def iA : Arguments := { posonlyargs := [], args := [{ arg := "self", annotation := none, pos := ⟨11, 17, 11, 21⟩ }, { arg := "index", annotation := none, pos := ⟨11, 23, 11, 28⟩ }], vararg := none, kwonlyargs := [], kw_defaults := [], kwarg := none, defaults := [] }
def iB : List Stmt :=
  [.Expr (.Call (.Attribute (.Call (.Name "super" ⟨12, 8, 12, 13⟩) [] [] ⟨12, 8, 12, 15⟩) "__init__" ⟨12, 8, 12, 24⟩) [.Name "index" ⟨12, 25, 12, 30⟩] [] ⟨12, 8, 12, 31⟩) ⟨12, 8, 12, 31⟩,
   .Assign [.Attribute (.Name "self" ⟨13, 8, 13, 12⟩) "index" ⟨13, 8, 13, 18⟩] (.Name "index" ⟨13, 21, 13, 26⟩) ⟨13, 8, 13, 26⟩]
def iS : Scope := { kind := .function, names := [(PySem.Str.ofString "self", .local), (PySem.Str.ofString "index", .local), (PySem.Str.ofString "__class__", .free), (PySem.Str.ofString "super", .globalImplicit)], isGenerator := false, isCoroutine := false, more := [] }
/-- what the written part says of BadKind, at C, of its __init__, at fI, of the cell cc that holds the class, of the code object cda -/
structure BkTxt (prog : Program) (K : Frag) (mg : Str → Option Value) (C fI : Addr) : Prop where
  gC : mg "BadKind" = some (.ref C)
  gS : mg "super" = none
  cls : ∃ nm q N bs bm sn sub ab col dd k0 k1 k2 k3 k5, K.lookup C = some (excClassObj nm q C N bs bm true sn sub ab col dd k0 k1 k2 k3 k5 "ValueError.__new__") ∧ refsVE bm = true
  su : ks_superIn K C C "__init__" = some (some (.builtin "ValueError.__init__"))
  sa : findIn K (.ref C) "__setattr__" = some (some (.builtin "object.__setattr__"))
  ga : findIn K (.ref C) "__getattribute__" = some (some (.builtin "BaseException.__getattribute__"))
  gg : findIn K (.ref C) "__getattr__" = some none
  noN : findIn K (.ref C) "index" = some none
  iC : findIn K (.ref C) "__init__" = some (some (.ref fI))
  tC : typeIn K (.ref fI) = some (.type "function")
  kC : keepIn K (.ref C) = true
  exC : subIn K (.ref C) (.type "BaseException") = some true
  exV : subIn K (.ref C) (.type "ValueError") = some true
  selfC : mroIn K C (.ref C) = some true
  tyC : typeIn K (.ref C) = some (.type "type")
  hdC : hasDictIn K C = true
  te : exmOne K (.ref C) (.ref C) = some true
  op : nsIn K cStatics "thirdparty.any" = some none
  top : (prog.main.scope.names.lookup ("super" : Str)).isSome = false
  fn : ∃ (oc : Value) (od : Option Addr) (doc pm : Value) (an : Option Addr) (cda : Addr) (ct : Value) (osl : Array (Option Value)) (cc : Addr) (ccl : Value) (cdd : Option Addr) (vs : Array Value) (ccs : Array (Option Value)) (file : Str) (tf : Tok) (cl : Value) (cld : Option Addr) (csl : Array (Option Value)),
    K.lookup fI = some ⟨oc, od, .func (ksFn "__init__" "BadKind.__init__" iA iB iS .none .none doc pm an (.ref cda) ct cc), osl⟩ ∧ codeIn K (.ref cda) "BadKind.__init__" = true ∧
    K.lookup cda = some ⟨ccl, cdd, .fields vs, ccs⟩ ∧ vs[2]? = some (.str file tf) ∧ ((prog.main.file : Str) == file) = true ∧ K.lookup cc = some ⟨cl, cld, .cell (some (.ref C)), csl⟩
theorem one_size (v : Value) : [v].length ≤ sizeLine := by
  rw [sizeLine_eq]
  exact (by decide : 1 ≤ 16777216)
/-- what __init__ leaves of a fresh exception at x -/
structure InitEnd (h h' : Heap) (x C dx : Addr) (v : Value) : Prop where
  keep : ∀ b o, b ≠ x → h.get? b = some o → h'.get? b = some o
  obj : ∃ t1 : Addr, h'.get? x = some { cls := .ref C, dict := some dx, data := .fields #[.ref t1, .none, .none, .none, .bool false, .none] }
  dbig : h.objs.size ≤ dx
  dne : dx ≠ x
  ns : h'.Ns1 dx (fun y => if y = "index" then some v else none)
/-- a made BadKind -/
structure OwnMade (h h' : Heap) (e C d : Addr) (v : Value) : Prop where
  keep : ∀ b o, h.get? b = some o → h'.get? b = some o
  new : h.objs.size ≤ e
  obj : ∃ oe vs, h'.get? e = some oe ∧ oe.cls = .ref C ∧ oe.dict = some d ∧ oe.data = .fields vs ∧ vs[1]? = some .none
  dbig : h.objs.size ≤ d
  dne : d ≠ e
  ns : h'.Ns1 d (fun y => if y = "index" then some v else none)
section
variable {prog : Program} {w : World} {A : Around} {E : Value → Shared → Prop} {R : Result → Shared → Prop} {s : Shared} {K : Frag} {mg mb : Str → Option Value} {C fI : Addr}
/-- the bound wrapper of ValueError.__init__, called -/
theorem call_mw {u e t0 : Addr} {rest : List Value} {nm q : Str} {N : Addr} {bs bm : List Value} {hdct : Bool} {sn : List Str} {sub : List Value} {ab : Bool} {col : Option Bool} {dd : Option Addr} {k0 k1 k2 k3 k5 : Option Value} {Q : Value → Shared → Prop}
    (hC : s.heap.get? C = some (excClassObj nm q C N bs bm hdct sn sub ab col dd k0 k1 k2 k3 k5 "ValueError.__new__")) (he : s.heap.get? e = some (excO C t0)) (hu : s.heap.get? u = some (kxs_mw "ValueError.__init__" e)) (hz : rest.length ≤ sizeLine)
    (hq : ∀ h' t1, (∀ b o, b ≠ e → s.heap.get? b = some o → h'.get? b = some o) → h'.get? e = some (excO C t1) → Q .none { s with heap := h' }) :
    wpAny (model prog w) A (call (Value.ref u) rest) Q E s := by
  rcases s with ⟨hp, gl, dr, tk, os⟩
  have B := PySem.F.excBase_ValueError
  refine wpAny_call (codeAny_of_tree (show wpAny _ A.in1 (callAny (Value.ref u) ⟨rest, []⟩) _ _ _ from ?_))
  simp only [callAny]
  refine wpAny_bind (wpAny_load hu (KFB.if_so rfl (KFB.if_so rfl ?_)))
  refine wpAny_bind (check_bound_init B.toExcCallFacts hC he rfl (wpAny_pure ?_))
  refine ⟨plainId_quiet B.init.plain _, codeAny_builtin B.initEntry ?_⟩
  exact exc_init_tree (cls := Value.ref C) (t0 := t0) (dv := Option.none) (c2 := Value.none) (c3 := Value.none) (b4 := Value.bool false) he hz fun h' k x1 _ => hq h' _ k x1
theorem bk_init (T : BkTxt prog K mg C fI) {x t0 : Addr} {v : Value} (X : K.In s.heap) (hlim : s.heap.NoLimit) (hg : s.heap.Ns mainGlobals mg) (hb : s.heap.Ns builtinsNs mb) (hmb : mb "super" = bootBuiltins "super") (hx : s.heap.get? x = some (excO C t0)) (hnx : K.lookup x = none) (hroom : A.depth < recursionLimit)
    (hq : ∀ h' tk dx, InitEnd s.heap h' x C dx v → R (.ok (.ret .none)) { s with heap := h', toks := tk }) :
    codeAny (model prog w) A (.call (.ref fI) ⟨[.ref x, v], []⟩) R s := by
  obtain ⟨oc, od, doc, pm, an, cda, ct, osl, cc, ccl, cdd, vs, ccs, file, tf, cl, cld, csl, ho, hcd, hcode, hvs, hfile, hcell⟩ := T.fn
  rcases T.cls with ⟨nm, q, N, bs, bm, sn, sub, ab, col, dd, k0, k1, k2, k3, k5, hC, hbm⟩
  have hcl : clsIn K C = some { name := nm, bases := bs, mro := .ref C :: bm, ns := N, qualname := q, hasDict := true, slotNames := sn, subclasses := sub, abstract := ab, collection := col, hasDel := false } := by unfold clsIn; rw [hC] <;> rfl
  have hal : alongIn K "__init__" bm = some (some (.builtin "ValueError.__init__")) := by
    have z := T.su
    unfold ks_superIn at z
    rw [hcl] at z
    simpa [List.dropWhile_cons] using z
  refine ks_codeAny_call_defAt (fd := ksFn "__init__" "BadKind.__init__" iA iB iS .none .none doc pm an (.ref cda) ct cc) (body := iB) (binds := [("self", .ref x), ("index", v)])
    hroom (X _ _ ho) rfl hlim (codeRec_of X hcd) rfl (BindsTo.of_eq (by first | rfl | with_unfolding_all rfl)) (show ∀ y ∈ iS.names, y.2 ≠ .cell by decide) (locs rfl) (fun h₁ hn k => ?_) rfl rfl rfl
  have hxL : s.heap.objs.size ≠ x := Nat.ne_of_gt (Heap.lt_size hx)
  have hxC : x ≠ C := fun z => by
    rw [z, X _ _ hC] at hx
    cases hx
  have X₁ : K.In h₁ := X.keeps k
  have hx₁ := k _ _ hx
  refine ks_wpAt_execs_cons (ks_wpAt_Expr_any (ks_wpAt_MethodCall ?_) (by rfl))
  refine ks_wpAt_super_base (env := callEnv (ksFn "__init__" "BadKind.__init__" iA iB iS .none .none doc pm an (.ref cda) ct cc) s.heap.objs.size fI) (f := fI) (cc := cda) (by rfl) (by rfl) (by decide) rfl (X₁ _ _ ho) rfl rfl rfl (X₁ _ _ hcode) rfl hvs hfile T.top ?_
  refine ks_loadName_global rfl (by rfl) (loadGlobal_builtin (hg.keeps k) T.gS (hb.keeps k) (hmb.trans (by boot_by_name)) ⟨rfl, ?_⟩)
  refine wpAny_loadName_free rfl (by rfl) rfl ⟨_, X₁ _ _ hcell, rfl⟩ ?_
  refine wpAny_loadName_local rfl (by rfl) hn (show _ = some (Value.ref x) by rfl) ?_
  have hC₁ := X₁ _ _ hC
  refine ks_wpAny_isType_cls hC₁ rfl ⟨rfl, ?_⟩
  have hnc : ∀ c, (excO C t0).data ≠ .cls c := fun c z => by cases z
  refine ks_wpAny_call_super hC₁ rfl hx₁ rfl hnc (looks_mroIn X₁ T.selfC) (fun h₂ e₂ k₂ => ?_)
  have X₂ : K.In h₂ := X₁.keeps k₂
  have hx₂ := k₂ _ _ hx₁
  have I₂ : InstAt h₂ x (excO C t0) C none := ⟨hx₂, rfl, rfl, trivial⟩
  have hlm : Looks (model prog w) h₂ (mroOf (.ref C)) (.ref C :: bm) := fun A Q E s k q => wpAny_bind ((looks_clsIn X₂ hcl) A _ E s k (wpAny_pure q))
  refine kxs_getMethod kxs_ValueError e₂ (looks_opaque X₂ T.op) hlm (by simp [List.dropWhile_cons]) X₂ hal (I₂.type.andThen (looks_subIn X₂ T.exV)) hxC (by decide) ?_
  have hu : (h₂.push (kxs_mw "ValueError.__init__" x)).get? h₂.objs.size = some (kxs_mw "ValueError.__init__" x) := Heap.get?_push_size _ rfl
  have kk : ∀ b o, h₁.get? b = some o → (h₂.push (kxs_mw "ValueError.__init__" x)).get? b = some o := fun b o e => Heap.get?_push_of_some _ (k₂ b o e)
  have hn₃ : (h₂.push (kxs_mw "ValueError.__init__" x)).Ns s.heap.objs.size (fun y => ([(("self" : Str), Value.ref x), (("index" : Str), v)] : List (Str × Value)).reverse.lookup y) := hn.keeps kk
  refine kxs_callWith (i := "ValueError.__init__") (x := x) rfl (Calls.evalArgs_plain (Calls.spliced_cons (wpAny_Name (wpAny_loadName_local rfl (by rfl) hn₃ (show _ = some v by rfl) (Calls.spliced_nil ⟨hu, ?_⟩)) (by decide))))
  refine call_mw (t0 := t0) (kk _ _ hC₁) (kk _ _ hx₁) hu (one_size v) fun h₄ t1 k₄ hx₄ => ?_
  refine wpAt_of_wpAny ?_
  have k14 : ∀ b o, b ≠ x → h₁.get? b = some o → h₄.get? b = some o := fun b o hb e => k₄ b o hb (kk b o e)
  have hn₄ : h₄.Ns s.heap.objs.size (fun y => ([(("self" : Str), Value.ref x), (("index" : Str), v)] : List (Str × Value)).reverse.lookup y) := by
    obtain ⟨o, es, ep, e, r⟩ := hn₃
    exact ⟨o, es, ep, k₄ _ _ hxL e, r⟩
  have X₄ : K.In h₄ := fun b o e => k14 b o (fun z => by
    rw [z, hnx] at e
    cases e) (X₁ _ _ e)
  -- self.index = index
  show wpAny _ _ (execs _ _) _ _ _
  refine wpAny_execs_cons (plainObj_wpAny_Assign_Attribute ?_ (by rfl))
  refine wpAny_Name (wpAny_loadName_local rfl (by rfl) hn₄ (show _ = some v by rfl) ?_) (by decide)
  refine wpAny_Name (wpAny_loadName_local rfl (by rfl) hn₄ (show _ = some (Value.ref x) by rfl) ?_) (by decide)
  refine set_plain X₄ (ox := excO C t1) (od := none) ⟨hx₄, rfl, rfl, trivial⟩ T.sa ?_
  refine exc_osa X₄ hx₄ hcl (show refsVE (.ref C :: bm) = true from hbm) rfl T.noN (fun h₅ tk₅ dx k₅ dn dne hx₅ hn₅ => ?_)
  show wpAny _ _ (execs _ _) _ _ _
  have z : s.heap.objs.size < h₄.objs.size := hn₄.lt
  exact wpAny_execs_nil (hq h₅ tk₅ dx ⟨fun b o hb e => k₅ b o hb (k14 b o hb (k b o e)), ⟨t1, hx₅⟩, Nat.le_of_lt (Nat.lt_of_lt_of_le z dn), dne, hn₅⟩)
theorem bk_made (T : BkTxt prog K mg C fI) {v : Value} (X : K.In s.heap) (hlim : s.heap.NoLimit) (hg : s.heap.Ns mainGlobals mg) (hb : s.heap.Ns builtinsNs mb) (hmb : mb "super" = bootBuiltins "super") (hroom : A.depth + 1 < recursionLimit)
    (hq : ∀ h' tk e d, OwnMade s.heap h' e C d v → R (.ok (.ret (.ref e))) { s with heap := h', toks := tk }) :
    codeAny (model prog w) A (.call (.ref C) ⟨[v], []⟩) R s := by
  rcases T.cls with ⟨nm, q, N, bs, bm, sn, sub, ab, col, dd, k0, k1, k2, k3, k5, hC, hbm⟩
  obtain ⟨hp, g, dr, tk, os⟩ := s
  have k : ∀ b o, hp.get? b = some o → ((hp.push (kdv_tup [v])).push (excO C hp.objs.size)).get? b = some o := fun b o e => Heap.get?_push_of_some _ (Heap.get?_push_of_some _ e)
  have hget : ((hp.push (kdv_tup [v])).push (excO C hp.objs.size)).get? (hp.objs.size + 1) = some (excO C hp.objs.size) := by heap_get
  have hnx : K.lookup (hp.objs.size + 1) = none := by
    cases e : K.lookup (hp.objs.size + 1) with
    | none => rfl
    | some o =>
      have z : hp.get? (hp.objs.size + 1) = some o := X _ _ e
      exact absurd (Nat.lt_of_succ_lt (Heap.lt_size z)) (Nat.lt_irrefl _)
  refine call_own PySem.F.excBase_ValueError (fun X => refsVE_contains X bm hbm) (X _ _ hC) (looks_findIn X T.iC) (fun self => bind_fn X self T.tC) (one_size v) ?_
  refine bk_init (s := ⟨(hp.push (kdv_tup [v])).push (excO C hp.objs.size), g, dr, tk, os⟩) T (X.keeps k) (hlim.keeps k) (hg.keeps k) (hb.keeps k) hmb hget hnx ?_ fun h' tk' dx ⟨k', ⟨t1, hx⟩, dn, dne, hns⟩ => ?_
  · show A.depth + 1 < recursionLimit
    exact hroom
  · have old : ∀ b o, hp.get? b = some o → h'.get? b = some o := fun b o e => k' b o (Nat.ne_of_lt (Nat.lt_succ_of_lt (Heap.lt_size e))) (k b o e)
    have z : hp.objs.size + 1 + 1 ≤ dx := by
      first
        | (simpa only [Heap.size_push] using dn)
        | exact dn
        | (have q := dn; rw [Heap.size_push, Heap.size_push] at q; exact q)
    exact ⟨rfl, hq h' tk' (hp.objs.size + 1) dx ⟨old, Nat.le_succ _, ⟨_, _, hx, rfl, rfl, rfl, rfl⟩, Nat.le_trans (Nat.le_trans (Nat.le_succ _) (Nat.le_succ _)) z, dne, hns⟩⟩
end
end BkX
end PySem

namespace Knd
open PySem PySem.Spec PyProof.Rows L2 PySem.BkX
theorem relO_ix {v : V} {v' : Value} (r : RelV v v') (f : Str) : RelO (List.lookup f [(("index" : Str), v)]) (if f = "index" then some v' else none) := by
  by_cases hw : f = "index"
  · subst hw
    rw [if_pos rfl]
    have q : List.lookup ("index" : Str) [(("index" : Str), v)] = some v := by simp [List.lookup]
    rw [q]
    exact r
  · rw [if_neg hw]
    have qw : (f == ("index" : Str)) = false := by simpa using hw
    have q2 : List.lookup f [(("index" : Str), v)] = none := by simp [List.lookup, qw]
    rw [q2]
    trivial
section
variable {X : Cx} {C fI : Addr}
/-- BadKind(e) -/
def tMkBk (C : Addr) (ta : TA) : L2.St → Hp → XK → Prop := fun σ H Q => ta σ H fun vs H1 => ∃ v, vs = [v] ∧ ∀ d, H1 d = none → Q (.ref C) (some d) (upd H1 d (.xd [(("index" : Str), v)]))
theorem pmk_bk {a : Expr} {ta : TA} {p pos : Pos} {k : Nat} (T : BkTxt X.prog X.K X.mg C fI) (hr : Room k X.A) (ha : PA X [a] ta) (hg : Gl X "BadKind" := by rfl)
    (he : starEach (a :: []) X.env = (false, eval a X.env) :: starEach [] X.env := by rfl) (hpl : (backTo pos (starEach [] X.env)).any (·.1) = false := by rfl) :
    PMk X (.Call (.Name "BadKind" p) [a] [] pos) (tMkBk C ta) := by
  intro pins s σ H Q I h
  refine wpAny_Call_Name_kw (ld_glob I hg T.gC ?_)
  refine PySem.W.callWith_K (h₀ := X.base) I.ok.mod.kin T.kC (thn (ha.run pos pins s σ H _ I h) fun us s1 hh => ?_) he hpl
  obtain ⟨vs, H1, I1, r1, v, ev, q1⟩ := hh
  subst ev
  refine ⟨I1.kIn, ?_⟩
  cases r1 with
  | cons rv rn =>
    rename_i v' us'
    cases rn
    show wpAny _ _ (call (.ref C) [v']) _ _ _
    have hlim := I1.nolimit
    have hgl : s1.heap.Ns mainGlobals X.mg := I1.ok.mod.glob.keeps I1.bk
    obtain ⟨mb, hb0, hbb⟩ := I1.ok.mod.blt
    have hbl : s1.heap.Ns builtinsNs mb := hb0.keeps I1.bk
    obtain ⟨hp, g, dr, tk, os⟩ := s1
    refine wpAny_call (bk_made T I1.kIn hlim hgl hbl (hbb _ (by decide)) (by have := hr.dp; omega) fun h' tk' e d M => ?_)
    show MkP X pins σ Q (.ref e) ⟨h', g, dr, tk', os⟩
    obtain ⟨oe, fv, hoe, hc, hd, hdat, h1⟩ := M.obj
    have hns := M.ns
    obtain ⟨G', g1, g2⟩ := restrict h' fun b => decide (b ≠ e)
    have gk : ∀ b, b ≠ e → G'.get? b = h'.get? b := fun b hb => g1 b (decide_eq_true hb)
    have ge : G'.get? e = none := g2 e (by simp)
    have old : ∀ b o, hp.get? b = some o → G'.get? b = some o := fun b o q => (gk b (Nat.ne_of_lt (Nat.lt_of_lt_of_le (Heap.lt_size q) M.new))).trans (M.keep b o q)
    have ob : ObjOk X.prog X.w (upd H1 d (.xd [(("index" : Str), v)])) G' d (.xd [(("index" : Str), v)]) :=
      ⟨_, hns.at (fun o q => (gk d M.dne).trans q), fun f => relO_ix rv f⟩
    have J : Inv X pins σ (upd H1 d (.xd [(("index" : Str), v)])) ⟨G', g, dr, tk', os⟩ := I1.laid (t' := tk') old M.dbig ob
    refine ⟨e, oe, fv, ⟨G', g, dr, tk', os⟩, _, .ref C, some d, rfl, J, fun b o q => ?_, ge, hoe, ⟨hc, hd⟩, hdat, h1, ?_, rfl, I1.bare, raises_own T.exC T.tyC, q1 d (I1.hok.fresh M.dbig)⟩
    · by_cases hb : b = e
      · have q' : G'.get? b = some o := q
        rw [hb, ge] at q'; cases q'
      · exact (gk b hb).symm.trans q
    · rw [upd_ne (Ne.symm M.dne)]
      exact I1.hok.fresh M.new
/-- raise BadKind(e) -/
def tRaiseBk (C : Addr) (W : WX) (ta : TA) : TS := fun _ σ H => tMkBk C ta σ H fun cls d H' => W cls d σ H'
theorem ps_raiseBk {a : Expr} {ta : TA} {W : WX} {p pos pos2 : Pos} {k : Nat} (hc : X.calm = true) (T : BkTxt X.prog X.K X.mg C fI) (hr : Room k X.A) (tk : Takes X W) (ha : PA X [a] ta) (hg : Gl X "BadKind" := by rfl)
    (he : starEach (a :: []) X.env = (false, eval a X.env) :: starEach [] X.env := by rfl) (hpl : (backTo pos (starEach [] X.env)).any (·.1) = false := by rfl) :
    PS X (.Raise (some (.Call (.Name "BadKind" p) [a] [] pos)) none pos2) (tRaiseBk C W ta) := ps_raise hc tk (pmk_bk T hr ha hg he hpl)
/-- e.index, e the exception that the suite holds (at a; its class cls, its dict d) -/
def tByBk (C : Addr) (a : Addr) (cls : Value) (d : Option Addr) (te : TE) : TE := fun σ H Q => te σ H fun x H1 => x = .ref a ∧ cls = .ref C ∧ ∃ (dd : Addr) (v : V), d = some dd ∧ H1 dd = some (.xd [(("index" : Str), v)]) ∧ Q v H1
theorem pe_byBk {prog : Program} {a : Addr} {oe : Obj} {cls : Value} {d : Option Addr} {pn : List (Addr × Obj)} {e : Expr} {te : TE} {pos : Pos} (T : BkTxt prog X.K X.mg C fI) (hz : Zc cls d oe) (hf : ∃ vs, oe.data = .fields vs) (he : PE (X.suite a ((a, oe) :: pn)) e te)
    (hb : attributeBase e "index" X.env (eval e X.env) = eval e X.env := by rfl) :
    PE (X.suite a ((a, oe) :: pn)) (.Attribute e "index" pos) (tByBk C a cls d te) := by
  refine ⟨fun pins s σ H Q I h => ?_⟩
  refine attr_of hb (thn (he.run pins s σ H _ I h) ?_)
  rintro u s1 ⟨x, H1, I1, rx, ex, ec, dd, v, ed, ea, q⟩
  subst ex
  obtain rfl : u = Value.ref a := rx
  subst ec
  subst ed
  have ha := (I1.pin (a, oe) (List.mem_append_left _ List.mem_cons_self)).1
  obtain ⟨vs, hd⟩ := hf
  have hx : ObjOk X.prog X.w H1 s1.heap dd (.xd [(("index" : Str), v)]) := I1.hok dd _ ea
  obtain ⟨mA, hns, hr⟩ := hx
  obtain ⟨od, ho, hl⟩ := lookIn_ns hns
  have l : List.lookup ("index" : Str) [(("index" : Str), v)] = some v := by simp [List.lookup]
  obtain ⟨u, hu, ru⟩ := RelO.some_of (v := v) (o := mA "index") (by rw [← l]; exact hr "index")
  have J : PySem.W.InstAt s1.heap a oe C (some od) := by
    refine ⟨ha, hz.1, ?_, hz.2 ▸ ho⟩
    unfold PySem.W.notCls
    rw [hd] <;> rfl
  exact HandSPX.exc_get I1.kIn J T.ga T.gg T.exC (PySem.W.findObj_own T.hdC T.noN rfl (by rw [hl, hu])) (handed_of ru) ⟨v, H1, I1.tok _, ru, q⟩
end
end Knd

set_option Elab.async false
set_option linter.all false
set_option maxRecDepth 100000
set_option maxHeartbeats 3000000
namespace Knd
open PySem PySem.Spec PyProof.Rows L2
/-! ### the text by places -/
abbrev pw : Program := PySem.Challenge.pw_oncekinds_k20_whole_kinds_are_judged
def top (i : Nat) : Stmt := PySem.Challenge.pw_oncekinds_k20_whole_kinds_are_judged.main.body.getD i (.Pass ⟨0, 0, 0, 0⟩)

/-! ### plain: words and their first fault -/
def isI : V → Bool
  | .int _ => true
  | _ => false
def isB : V → Bool
  | .bl _ => true
  | _ => false
def isS : V → Bool
  | .str _ => true
  | _ => false
/-- a number -/
def isNum : V → Bool
  | .int i => decide (0 ≤ i)
  | _ => false
def arr : Str := ">"
/-- a right word: a number or the arrow -/
def okW : V → Bool
  | .int i => decide (0 ≤ i)
  | .str x => decide (x = arr)
  | _ => false
def firstBad : Nat → List V → Option Nat
  | _, [] => none
  | k, v :: r => if okW v = true then firstBad (k + 1) r else some k
/-- from the place k on, asked kinds being wanted -/
def endAt : Nat → Int → List V → Option Nat
  | k, q, [] => if q = 0 then none else some k
  | k, q, v :: r => if q = 0 then some k else endAt (k + 1) (if isS v = true then q + 1 else q - 1) r
def faultOf (xs : List V) : Option Nat := match firstBad 0 xs with
  | some k => some k
  | none => endAt 0 1 xs
/-- what is due of a tuple of words -/
def dueT (xs : List V) : Option Int := if 1 ≤ xs.length ∧ xs.length ≤ 4000 then (faultOf xs).map (fun k => (k : Int)) else some (-1)
def oN : Option Nat → V
  | none => .non
  | some k => .int (k : Int)
def oI : Option Int → V
  | none => .non
  | some k => .int k
theorem firstBad_none : ∀ {xs : List V} {k : Nat}, firstBad k xs = none → ∀ x ∈ xs, okW x = true
  | [], _, _ => fun x hx => by cases hx
  | v :: r, k, h => fun x hx => by
    unfold firstBad at h
    by_cases c : okW v = true
    · rw [if_pos c] at h
      rcases List.mem_cons.mp hx with rfl | hx
      · exact c
      · exact firstBad_none h x hx
    · rw [if_neg c] at h
      cases h
theorem firstBad_all : ∀ {xs : List V} {k : Nat}, (∀ x ∈ xs, okW x = true) → firstBad k xs = none
  | [], _, _ => rfl
  | v :: r, k, h => by
    unfold firstBad
    rw [if_pos (h v List.mem_cons_self)]
    exact firstBad_all fun x hx => h x (List.mem_cons_of_mem _ hx)
theorem drop_cons {α : Type} {xs : List α} {i : Nat} {x : α} (h : xs[i]? = some x) : xs.drop i = x :: xs.drop (i + 1) := by
  obtain ⟨hl, e⟩ := List.getElem?_eq_some_iff.mp h
  rw [List.drop_eq_getElem_cons hl, e]

/-! ### addresses -/
structure AF where
  a : Addr
  d : FuncData
structure Ads where
  bC : Addr
  bI : Addr
  kC : Addr
  pC : Addr
  kI : AF
  kE : AF
  pI : AF
  cInt : AF
  cNum : AF
  cName : AF
  kArr : AF
  kEnd : AF
  kFlt : AF
  pGive : AF
  pTake : AF
  pWord : AF
  pAsk : AF
  pEnd : AF
  pSec : AF
  pEnds : AF
  pUses : AF
  pWt : AF
  pFlt : AF
  lPot : AF
  lDraw : AF
  lAny : AF
  lShape : AF
  lKind : AF
  lDeep : AF
  lFault : AF
  lItem : AF
  lSpoil : AF
  lThing : AF
  lRight : AF
/-- a def of the module under the name g -/
structure Df (K : PySem.W.Frag) (mg : Str → Option Value) (g x qual : Str) (st : Stmt) (ps : List Str) (F : AF) : Prop where
  fn : Fun K x qual st F.a F.d
  bd : Binds K F.d ps []
  gl : mg g = some (.ref F.a)
/-- a method -/
structure Mf (K : PySem.W.Frag) (x qual : Str) (st : Stmt) (ps : List Str) (F : AF) : Prop where
  fn : Fun K x qual st F.a F.d
  bd : Binds K F.d ps []
/-- an own class without bases, as isinstance and == ask -/
structure Kls (K : PySem.W.Frag) (kC C : Addr) (b : Bool) : Prop extends SlX.SIsi K C where
  cl : Cls K C
  nW : NoAttr K C "words"
  i1 : PySem.W.kitOne K (.ref C) (.type "int") = some false
  i2 : PySem.W.kitOne K (.ref C) (.type "bool") = some false
  i3 : PySem.W.kitOne K (.ref C) (.type "str") = some false
  i4 : PySem.W.kitOne K (.ref C) (.type "tuple") = some false
  i5 : PySem.W.kitOne K (.ref C) (.ref kC) = some b
structure Txt (K : PySem.W.Frag) (mg : Str → Option Value) (A : Ads) : Prop where
  bk : PySem.BkX.BkTxt pw K mg A.bC A.bI
  kK : Kls K A.kC A.kC true
  kP : Kls K A.kC A.pC false
  gK : mg "Kind" = some (.ref A.kC)
  gP : mg "Program" = some (.ref A.pC)
  mK : Mk K A.kC A.kI.a
  mP : Mk K A.pC A.pI.a
  eK : PySem.W.findIn K (.ref A.kC) "__eq__" = some (some (.ref A.kE.a))
  eF : PySem.W.isFn K (.ref A.kE.a) = true
  nK : PySem.W.findIn K (.ref A.kC) "__ne__" = some (some (.builtin "object.__ne__"))
  nf1 : PySem.W.notFirst K A.kC (.type "tuple") = true
  nf2 : PySem.W.notFirst K A.kC (.type "int") = true
  nf3 : PySem.W.notFirst K A.kC (.type "str") = true
  nf4 : PySem.W.notFirst K A.kC (.ref A.pC) = true
  nf5 : PySem.W.notFirst K A.kC (.ref A.kC) = true
  ki1 : PySem.W.kitOne K (.type "tuple") (.ref A.kC) = some false
  ki2 : PySem.W.kitOne K (.type "int") (.ref A.kC) = some false
  ki3 : PySem.W.kitOne K (.type "str") (.ref A.kC) = some false
  most : ∃ t, mg "MOST_WORDS_kinds" = some (.int 4000 t)
  mostP : ∃ t, mg "MOST_WORDS_programs" = some (.int 1000 t)
  isi : mg "isinstance" = none
  int_ : mg "int" = none
  bool_ : mg "bool" = none
  str_ : mg "str" = none
  tuple_ : mg "tuple" = none
  list_ : mg "list" = none
  len : mg "len" = none
  enum : mg "enumerate" = none
  range : mg "range" = none
  all_ : mg "all" = none
  abs_ : mg "abs" = none
  sum_ : mg "sum" = none
  max_ : mg "max" = none
  cInt : Df K mg "is_integer" "is_integer" "is_integer" (top 5) ["thing"] A.cInt
  cNum : Df K mg "is_number" "is_number" "is_number" (top 6) ["thing"] A.cNum
  cName : Df K mg "is_name" "is_name" "is_name" (top 7) ["thing"] A.cName
  kArr : Df K mg "is_arrow" "is_arrow" "is_arrow" (top 10) ["word"] A.kArr
  kEnd : Df K mg "wrong_end_kinds" "wrong_end" "wrong_end" (top 11) ["words"] A.kEnd
  kFlt : Df K mg "fault_in_kinds" "fault_in" "fault_in" (top 13) ["words"] A.kFlt
  kI : Mf K "__init__" "Kind.__init__" (inClass (top 15) 0) ["self", "words"] A.kI
  kE : Mf K "__eq__" "Kind.__eq__" (inClass (top 15) 1) ["self", "other"] A.kE
  pGive : Df K mg "is_give" "is_give" "is_give" (top 18) ["word"] A.pGive
  pTake : Df K mg "is_take" "is_take" "is_take" (top 19) ["word"] A.pTake
  pWord : Df K mg "is_word" "is_word" "is_word" (top 21) ["thing"] A.pWord
  pAsk : Df K mg "asked_by" "asked_by" "asked_by" (top 22) ["word"] A.pAsk
  pEnd : Df K mg "wrong_end_programs" "wrong_end" "wrong_end" (top 23) ["words"] A.pEnd
  pSec : Df K mg "wrong_second" "wrong_second" "wrong_second" (top 25) ["words"] A.pSec
  pEnds : Df K mg "raw_ends" "raw_ends" "raw_ends" (top 26) ["words"] A.pEnds
  pUses : Df K mg "uses" "uses" "uses" (top 27) ["words"] A.pUses
  pWt : Df K mg "wrong_take" "wrong_take" "wrong_take" (top 28) ["words"] A.pWt
  pFlt : Df K mg "fault_in_programs" "fault_in" "fault_in" (top 29) ["words"] A.pFlt
  pI : Mf K "__init__" "Program.__init__" (inClass (top 31) 0) ["self", "words"] A.pI
  lPot : Df K mg "_law_pot" "_law_pot" "_law_pot" (top 33) ["_law_script"] A.lPot
  lDraw : Df K mg "_law_draw" "_law_draw" "_law_draw" (top 34) ["_law_pot_here", "_law_many"] A.lDraw
  lAny : Df K mg "_law_any" "_law_any" "_law_any" (top 35) ["_law_pot_here", "_law_items"] A.lAny
  lShape : Df K mg "_law_shape_of" "_law_shape_of" "_law_shape_of" (top 36) ["_law_pot_here", "_law_leaves", "_law_way"] A.lShape
  lKind : Df K mg "_law_kind" "_law_kind" "_law_kind" (top 37) ["_law_pot_here", "_law_leaves", "_law_letters"] A.lKind
  lDeep : Df K mg "_law_deep" "_law_deep" "_law_deep" (top 38) [] A.lDeep
  lFault : Df K mg "_law_fault" "_law_fault" "_law_fault" (top 39) ["_law_words"] A.lFault
  lItem : Df K mg "_law_item" "_law_item" "_law_item" (top 40) ["_law_pot_here", "_law_words"] A.lItem
  lSpoil : Df K mg "_law_spoiled" "_law_spoiled" "_law_spoiled" (top 41) ["_law_pot_here", "_law_words"] A.lSpoil
  lThing : Df K mg "_law_thing" "_law_thing" "_law_thing" (top 42) ["_law_pot_here"] A.lThing
  lRight : Df K mg "_law_right" "_law_right" "_law_right" (top 43) ["_law_thing_here"] A.lRight

/-! ### what a word may be -/
inductive Obk (A : Ads) (H : Hp) (a : Addr) : Prop where
  | lst {xs : List V} (e : H a = some (.lst xs))
  | tup {xs : List V} (e : H a = some (.tup xs))
  | dk {kvs : List (Key × V)} (e : H a = some (.dK kvs))
  | kin {dx : Addr} {fs : List (Str × V)} (e : H a = some (.ins A.kC dx fs))
  | pin {dx : Addr} {fs : List (Str × V)} (e : H a = some (.ins A.pC dx fs))
def Itm (A : Ads) (H : Hp) : V → Prop
  | .non => True
  | .bl _ => True
  | .int _ => True
  | .str _ => True
  | .ref a => Obk A H a
  | _ => False
/-- what isinstance tells of it -/
structure Isi (K : PySem.W.Frag) (H : Hp) (v : V) (t : Value) (i b s : Bool) : Prop where
  ty : TyX K H v t
  ki : PySem.W.kitOne K t (.type "int") = some i
  kb : PySem.W.kitOne K t (.type "bool") = some b
  ks : PySem.W.kitOne K t (.type "str") = some s
section
variable {K : PySem.W.Frag} {mg : Str → Option Value} {A : Ads} {H : Hp} {v : V}
theorem kt {a b : String} {r : Bool} (h : kitB a b = some r := by decide +kernel) : PySem.W.kitOne K (.type a) (.type b) = some r := kit_ty h
theorem Obk.ty (T : Txt K mg A) {a : Addr} (h : Obk A H a) : (∃ t, Isi K H (.ref a) t false false false) ∧ ((∃ xs, H a = some (.tup xs)) ∨ ∃ t, TyX K H (.ref a) t ∧ PySem.W.kitOne K t (.type "tuple") = some false) := by
  cases h with
  | lst e => exact ⟨⟨_, .base (.lst e), kt, kt, kt⟩, .inr ⟨_, .base (.lst e), kt⟩⟩
  | tup e => exact ⟨⟨_, .base (.tup e), kt, kt, kt⟩, .inl ⟨_, e⟩⟩
  | dk e => exact ⟨⟨_, .base (.dK e), kt, kt, kt⟩, .inr ⟨_, .base (.dK e), kt⟩⟩
  | kin e => exact ⟨⟨_, .base (.ins e T.kK.cl T.kK.ca T.kK.cn T.kK.ct T.kK.cm), T.kK.i1, T.kK.i2, T.kK.i3⟩, .inr ⟨_, .base (.ins e T.kK.cl T.kK.ca T.kK.cn T.kK.ct T.kK.cm), T.kK.i4⟩⟩
  | pin e => exact ⟨⟨_, .base (.ins e T.kP.cl T.kP.ca T.kP.cn T.kP.ct T.kP.cm), T.kP.i1, T.kP.i2, T.kP.i3⟩, .inr ⟨_, .base (.ins e T.kP.cl T.kP.ca T.kP.cn T.kP.ct T.kP.cm), T.kP.i4⟩⟩
theorem Itm.isi (T : Txt K mg A) (h : Itm A H v) : ∃ t, Isi K H v t (isI v || isB v) (isB v) (isS v) := by
  cases v with
  | non => exact ⟨_, .base .non, kt, kt, kt⟩
  | bl b => exact ⟨_, .base (.bl b), kt (r := true), kt (r := true), kt (r := false)⟩
  | int i => exact ⟨_, .base (.int i), kt (r := true), kt (r := false), kt (r := false)⟩
  | str x => exact ⟨_, .base (.str x), kt (r := false), kt (r := false), kt (r := true)⟩
  | ref a => exact (Obk.ty T h).1
  | byt b => exact h.elim
  | flt b => exact h.elim
  | ty n => exact h.elim
theorem Itm.tup (T : Txt K mg A) (h : Itm A H v) : (∃ a xs, v = .ref a ∧ H a = some (.tup xs)) ∨ ∃ t, TyX K H v t ∧ PySem.W.kitOne K t (.type "tuple") = some false := by
  cases v with
  | non => exact .inr ⟨_, .base .non, kt⟩
  | bl b => exact .inr ⟨_, .base (.bl b), kt⟩
  | int i => exact .inr ⟨_, .base (.int i), kt⟩
  | str x => exact .inr ⟨_, .base (.str x), kt⟩
  | ref a =>
    rcases (Obk.ty T h).2 with ⟨xs, e⟩ | z
    · exact .inl ⟨a, xs, rfl, e⟩
    · exact .inr z
  | byt b => exact h.elim
  | flt b => exact h.elim
  | ty n => exact h.elim
theorem okW_itm (h : okW v = true) : Itm A H v := by
  cases v with
  | int i => trivial
  | str x => trivial
  | _ => cases h
end
end Knd

set_option Elab.async false
set_option linter.all false
set_option maxRecDepth 100000
set_option maxHeartbeats 3000000
namespace Knd
open PySem PySem.Spec PyProof.Rows L2
/-! ### the promises: checks, kinds -/
def spInt (A : Ads) : Sp := fun vs H Q _ => ∃ v, vs = [v] ∧ Itm A H v ∧ Q (.bl (isI v)) H
def spNum (A : Ads) : Sp := fun vs H Q _ => ∃ v, vs = [v] ∧ Itm A H v ∧ Q (.bl (isNum v)) H
def spArr (A : Ads) : Sp := fun vs H Q _ => ∃ v, vs = [v] ∧ Itm A H v ∧ Q (.bl (isS v)) H
/-- wrong_end of right words -/
def spEnd (K : PySem.W.Frag) : Sp := fun vs H Q _ => ∃ a xs, vs = [.ref a] ∧ SqT K H a xs ∧ (∀ x ∈ xs, okW x = true) ∧ ∀ H', Same H H' → Q (oN (endAt 0 1 xs)) H'
def spFlt (K : PySem.W.Frag) (A : Ads) : Sp := fun vs H Q _ => ∃ a xs, vs = [.ref a] ∧ SqT K H a xs ∧ (∀ x ∈ xs, Itm A H x) ∧ ∀ H', Same H H' → Q (oN (faultOf xs)) H'
theorem sm_seqT {K : PySem.W.Frag} {H H' : Hp} {a : Addr} {xs : List V} (e : Same H H') (h : SqT K H a xs) : SqT K H' a xs := by
  rcases h with (h | ⟨o, h⟩) | h
  · exact .inl (.inl (e _ _ h))
  · exact .inl (.inr ⟨o, e _ _ h⟩)
  · exact .inr h
theorem sm_upd {H H' : Hp} {p : Addr} {o : HO} (e : Same H H') (h : H' p = none) : Same H (L2.upd H' p o) := fun b u q => by
  rw [upd_ne (ne_of_none (e b u q) h)]
  exact e b u q
theorem sm_obk {A : Ads} {H H' : Hp} {a : Addr} (e : Same H H') (h : Obk A H a) : Obk A H' a := by
  cases h with
  | lst q => exact .lst (e _ _ q)
  | tup q => exact .tup (e _ _ q)
  | dk q => exact .dk (e _ _ q)
  | kin q => exact .kin (e _ _ q)
  | pin q => exact .pin (e _ _ q)
theorem sm_itm {A : Ads} {H H' : Hp} {v : V} (e : Same H H') (h : Itm A H v) : Itm A H' v := by
  cases v with
  | ref a => exact sm_obk e h
  | _ => first | trivial | exact h
section
variable {w : World} {K : PySem.W.Frag} {mg : Str → Option Value} {base : Heap} {A : Ads}
theorem scInt : FnScope ["thing"] ["thing"] (defScope (top 5)) := ⟨rfl, rfl, rfl, by decide +kernel, rfl, by decide +kernel, by decide +kernel⟩
theorem ok_int (T : Txt K mg A) : FnOk pw w K mg base CX0 1 A.cInt.a A.cInt.d ["thing"] (spInt A) := by
  refine T.cInt.fn.ok scInt (fun vs H Q E h => ?_) (fun cdv Ar outer s H vs Q E hr h => ?_)
  · obtain ⟨v, rfl, _⟩ := h
    rfl
  · obtain ⟨v, rfl, hi, k⟩ := h
    obtain ⟨t, J⟩ := hi.isi T
    refine ⟨_, pss_one (ps_ret (pe_and (pe_callB call_isi (by rfl) T.isi PyProof.Rows.boot_isinstance (pa_cons (pv 0) (pa_cons (pe_bltn (v := .ty "int") (by rfl) T.int_ PyProof.Rows.boot_int rfl) pa_nil)))
      (pe_one (pe_not (pe_callB call_isi (by rfl) T.isi PyProof.Rows.boot_isinstance (pa_cons (pv 0) (pa_cons (pe_bltn (v := .ty "bool") (by rfl) T.bool_ (by decide +kernel) rfl) pa_nil))))))), ?_⟩
    refine ⟨_, rfl, _, _, t, _, _, rfl, .ty "int", J.ty, J.ki, _, rfl, ?_⟩
    cases v with
    | int i => exact iteT ⟨_, rfl, _, _, t, _, _, rfl, .ty "bool", J.ty, J.kb, _, rfl, k⟩
    | bl i => exact iteT ⟨_, rfl, _, _, t, _, _, rfl, .ty "bool", J.ty, J.kb, _, rfl, k⟩
    | _ => exact iteF k
theorem scNum : FnScope ["thing"] ["thing"] (defScope (top 6)) := ⟨rfl, rfl, rfl, by decide +kernel, rfl, by decide +kernel, by decide +kernel⟩
theorem ok_num (T : Txt K mg A) : FnOk pw w K mg base CX0 2 A.cNum.a A.cNum.d ["thing"] (spNum A) := by
  refine T.cNum.fn.ok scNum (fun vs H Q E h => ?_) (fun cdv Ar outer s H vs Q E hr h => ?_)
  · obtain ⟨v, rfl, _⟩ := h
    rfl
  · obtain ⟨v, rfl, hi, k⟩ := h
    refine ⟨_, pss_one (ps_ret (pe_and (pe_call (ok_int T) hr rfl T.cInt.gl T.cInt.fn.kp T.cInt.bd .nil pass0 (pa_cons (pv 0) pa_nil)) (pe_one (pe_cmpR op_ge (pv 0) pe_int (nomark _))))), ?_⟩
    refine ⟨_, rfl, v, rfl, hi, _, rfl, ?_⟩
    cases v with
    | int i => exact iteT ⟨_, rfl, _, _, rfl, rfl, k⟩
    | _ => exact iteF k
theorem scArr : FnScope ["word"] ["word"] (defScope (top 10)) := ⟨rfl, rfl, rfl, by decide +kernel, rfl, by decide +kernel, by decide +kernel⟩
theorem ok_arr (T : Txt K mg A) : FnOk pw w K mg base CX0 1 A.kArr.a A.kArr.d ["word"] (spArr A) := by
  refine T.kArr.fn.ok scArr (fun vs H Q E h => ?_) (fun cdv Ar outer s H vs Q E hr h => ?_)
  · obtain ⟨v, rfl, _⟩ := h
    rfl
  · obtain ⟨v, rfl, hi, k⟩ := h
    obtain ⟨t, J⟩ := hi.isi T
    refine ⟨_, pss_one (ps_ret (pe_callB call_isi (by rfl) T.isi PyProof.Rows.boot_isinstance (pa_cons (pv 0) (pa_cons (pe_bltn (v := .ty "str") (by rfl) T.str_ (by decide +kernel) rfl) pa_nil)))), ?_⟩
    exact ⟨_, rfl, _, _, t, _, _, rfl, .ty "str", J.ty, J.ks, k⟩
theorem scEnd : FnScope ["words", "asked", "place", "word"] ["words"] (defScope (top 11)) := ⟨rfl, rfl, rfl, by decide +kernel, rfl, by decide +kernel, by decide +kernel⟩
theorem ok_end (T : Txt K mg A) : FnOk pw w K mg base CX0 2 A.kEnd.a A.kEnd.d ["words"] (spEnd K) := by
  refine T.kEnd.fn.ok scEnd (fun vs H Q E h => ?_) (fun cdv Ar outer s H vs Q E hr h => ?_)
  · obtain ⟨a, xs, rfl, _⟩ := h
    rfl
  · obtain ⟨a, xs, rfl, hT, hok, k⟩ := h
    refine ⟨_, pss_cons (ps_set (i := 1) scEnd.nd rfl (Or.inl rfl) pe_int)
      (pss_cons (ps_for PassesOwn.never rfl (pi_enumT (by rfl) T.enum (pa_cons (pv 0) pa_nil)) (pg_tup rfl (pgs_cons (pg_name (i := 2) scEnd.nd rfl (.inl rfl)) (pgs_cons (pg_name (i := 3) scEnd.nd rfl (.inl rfl)) pgs_nil)))
        (pss_cons (ps_if (pt_cmpR op_eq (pv 1) pe_int (nomark _)) (pss_one (ps_ret (pv 2))) pss_nil)
        (pss_one (ps_aug (i := 1) scEnd.nd rfl (.inl rfl) (pe_ifExp (pt_val (pe_call (ok_arr T) hr rfl T.kArr.gl T.kArr.fn.kp T.kArr.bd .nil pass0 (pa_cons (pv 3) pa_nil))) pe_int (pe_un un_neg pe_int)) ip_add))))
      (pss_one (ps_ret (pe_ifExp (pt_cmpR op_gt (pv 1) pe_int (nomark _)) (pe_callB call_len_seq (by rfl) T.len PySem.boot_len (pa_cons (pv 0) pa_nil)) pe_non)))), ?_⟩
    refine ⟨_, rfl, a, xs, rfl, hT, for_enumT (K := K) (a := a) (xs := xs) (fun i σ H' => ∃ (q : Int) (p u : Option V), σ = [some (.ref a), some (.int q), p, u] ∧ Same H H' ∧ 0 ≤ q ∧ endAt i q (xs.drop i) = endAt 0 1 xs)
      ⟨1, none, none, rfl, Same.refl H, by decide, rfl⟩ (fun i σ H' _ ⟨_, _, _, _, s1, _⟩ => sm_seqT s1 hT) ?_ ?_⟩
    · rintro i x σ H1 P hx ⟨q, p, u, rfl, s1, q0, e⟩ hP
      have hxo : okW x = true := hok x (List.mem_of_getElem? hx)
      have s2 : Same H (upd H1 P (.tup [.int (i : Nat), x])) := sm_upd s1 hP
      rw [drop_cons hx] at e
      refine ⟨P, _, rfl, SqT.of upd_same, rfl, _, _, rfl, _, _, rfl, ⟨rfl, ?_⟩⟩
      refine ⟨_, rfl, rfl, _, rfl, ?_⟩
      by_cases c : q = 0
      · subst c
        refine iteT ⟨_, rfl, ?_⟩
        have e2 : endAt 0 1 xs = some i := by rw [← e]; unfold endAt; rw [if_pos rfl]
        have k2 := k _ s2
        rw [e2] at k2
        exact k2
      · have e2 : endAt (i + 1) (if isS x = true then q + 1 else q - 1) (xs.drop (i + 1)) = endAt 0 1 xs := by
          rw [← e]
          conv => rhs; unfold endAt
          rw [if_neg c]
        have cd : decide (V.int q = V.int 0) = false := decide_eq_false fun z => c (V.int.inj z)
        rw [cd]
        refine iteF ⟨_, rfl, _, rfl, x, rfl, okW_itm hxo, _, rfl, ?_⟩
        cases hs : isS x with
        | true =>
          rw [hs, if_pos rfl] at e2
          refine iteT ⟨_, _, rfl, rfl, ?_⟩
          exact ⟨q + 1, _, _, rfl, s2, by omega, e2⟩
        | false =>
          rw [hs, if_neg Bool.false_ne_true] at e2
          refine iteF ⟨_, rfl, _, _, rfl, rfl, ?_⟩
          exact ⟨q + -1, _, _, rfl, s2, by omega, e2⟩
    · rintro σ H1 ⟨q, p, u, rfl, s1, q0, e⟩
      rw [List.drop_length] at e
      have k1 := k _ s1
      rw [← e] at k1
      unfold endAt at k1
      refine ⟨_, rfl, _, _, rfl, rfl, _, rfl, ?_⟩
      by_cases c : 0 < q
      · rw [decide_eq_true c]
        refine iteT ⟨_, rfl, a, xs, rfl, .inr (sm_seqT s1 hT), ?_⟩
        rw [if_neg (by omega)] at k1
        exact k1
      · rw [decide_eq_false c]
        refine iteF ?_
        rw [if_pos (by omega)] at k1
        exact k1
end
end Knd

set_option Elab.async false
set_option linter.all false
set_option maxRecDepth 100000
set_option maxHeartbeats 3000000
namespace Knd
open PySem PySem.Spec PyProof.Rows L2
/-! ### words as data -/
def dV : V → PyData
  | .int i => .int i
  | .str x => .str x
  | _ => .none
def dT (xs : List V) : PyData := .tuple (xs.map dV)
theorem arr_ok : PyData.canLay0 (.str arr) = true := by decide +kernel
theorem dV_ok {x : V} (h : okW x = true) : (dV x).canLay0 = true ∧ (dV x).depth = 0 := by
  cases x with
  | int i => exact ⟨rfl, rfl⟩
  | str s =>
    have e : s = arr := of_decide_eq_true h
    subst e
    exact ⟨arr_ok, rfl⟩
  | _ => cases h
theorem dAll_ok : ∀ {xs : List V}, (∀ x ∈ xs, okW x = true) → PyData.canLayAll0 (xs.map dV) = true ∧ PyData.depthAll (xs.map dV) = 0
  | [], _ => ⟨rfl, rfl⟩
  | x :: r, h => by
    obtain ⟨h1, h2⟩ := dV_ok (h x List.mem_cons_self)
    obtain ⟨h3, h4⟩ := dAll_ok (xs := r) fun y hy => h y (List.mem_cons_of_mem _ hy)
    constructor
    · rw [List.map_cons, PyData.canLayAll0, h1, h3]; rfl
    · rw [List.map_cons, PyData.depthAll, h2, h4]; rfl
theorem dT_ok {xs : List V} (h : ∀ x ∈ xs, okW x = true) : SeqAt.shaped (dT xs) = true := by
  obtain ⟨h1, h2⟩ := dAll_ok h
  unfold SeqAt.shaped dT
  rw [PyData.canLay0, PyData.depth, h1, h2]
  rfl
theorem dT_self {xs : List V} (h : ∀ x ∈ xs, okW x = true) : PyData.eqv (dT xs) (dT xs) = true := SeqAt.eqv_refl _ (SeqAt.canLay_of_shaped (dT_ok h))
theorem eqvAll_len : ∀ {ds es : List PyData}, PyData.eqvAll ds es = true → ds.length = es.length
  | [], [], _ => rfl
  | [], _ :: _, h => by rw [PyData.eqvAll] at h; cases h
  | _ :: _, [], h => by rw [PyData.eqvAll] at h; cases h
  | d :: ds, e :: es, h => by
    rw [PyData.eqvAll, Bool.and_eq_true] at h
    rw [List.length_cons, List.length_cons, eqvAll_len h.2]
theorem dT_len {xs ys : List V} (h : xs.length ≠ ys.length) : PyData.eqv (dT xs) (dT ys) = false := by
  cases e : PyData.eqv (dT xs) (dT ys) with
  | false => rfl
  | true =>
    unfold dT at e
    rw [PyData.eqv] at e
    have z := eqvAll_len e
    rw [List.length_map, List.length_map] at z
    exact absurd z h
theorem dp_all {K : PySem.W.Frag} {H : Hp} : ∀ {xs : List V}, (∀ x ∈ xs, okW x = true) → DpAll K H xs (xs.map dV)
  | [], _ => .nil
  | x :: r, h => by
    refine .cons ?_ (dp_all fun y hy => h y (List.mem_cons_of_mem _ hy))
    have hx := h x List.mem_cons_self
    cases x with
    | int i => exact .int i
    | str s => exact .str s
    | _ => cases hx
theorem dp_tup {K : PySem.W.Frag} {H : Hp} {a : Addr} {xs : List V} (h : SqT K H a xs) (ok : ∀ x ∈ xs, okW x = true) : Dp K H (.ref a) (dT xs) := .tup h (dp_all ok)

/-! ### Kind: what is made of what -/
/-- v is a tuple of words xs (o = some xs), or no tuple -/
def ThgAt (K : PySem.W.Frag) (A : Ads) (H : Hp) (v : V) : Option (List V) → Prop
  | some xs => ∃ a, v = .ref a ∧ H a = some (.tup xs) ∧ ∀ x ∈ xs, Itm A H x
  | none => ∃ t, TyX K H v t ∧ PySem.W.kitOne K t (.type "tuple") = some false
def dueO : Option (List V) → Option Int
  | some xs => dueT xs
  | none => some (-1)
/-- Kind.__init__ -/
def spKI (K : PySem.W.Frag) (A : Ads) : Sp := fun vs H Q E => ∃ (x dx : Addr) (v : V) (o : Option (List V)), vs = [.ref x, v] ∧ H x = some (.ins A.kC dx []) ∧ ThgAt K A H v o ∧
  (∀ i, dueO o = some i → ∀ (d : Addr) (H' : Hp), Same H H' → H' d = none → E (.ref A.bC) (some d) (upd H' d (.xd [(("index" : Str), .int i)]))) ∧
  (dueO o = none → ∀ H', Same H H' → Q .non (upd H' x (.ins A.kC dx [(("words" : Str), v)])))
/-- a Kind of the words at wa stands at a -/
def KndAt (A : Ads) (H : Hp) (a wa : Addr) (xs : List V) : Prop := (∃ dx, H a = some (.ins A.kC dx [(("words" : Str), .ref wa)])) ∧ H wa = some (.tup xs) ∧ ∀ x ∈ xs, okW x = true
/-- Kind.__eq__ -/
def spKE (K : PySem.W.Frag) (A : Ads) : Sp := fun vs H Q _ => ∃ (a wa : Addr) (y : V) (xs : List V), vs = [.ref a, y] ∧ KndAt A H a wa xs ∧
  ((∃ b wb ys, y = .ref b ∧ KndAt A H b wb ys ∧ Q (.bl (PyData.eqv (dT xs) (dT ys))) H) ∨ (∃ t, TyX K H y t ∧ PySem.W.kitOne K t (.ref A.kC) = some false ∧ Q (.bl false) H))
section
variable {w : World} {K : PySem.W.Frag} {mg : Str → Option Value} {base : Heap} {A : Ads}
theorem scFlt : FnScope ["words", "place", "word"] ["words"] (defScope (top 13)) := ⟨rfl, rfl, rfl, by decide +kernel, rfl, by decide +kernel, by decide +kernel⟩
theorem ok_flt (T : Txt K mg A) : FnOk pw w K mg base CX0 3 A.kFlt.a A.kFlt.d ["words"] (spFlt K A) := by
  refine T.kFlt.fn.ok scFlt (fun vs H Q E h => ?_) (fun cdv Ar outer s H vs Q E hr h => ?_)
  · obtain ⟨a, xs, rfl, _⟩ := h
    rfl
  · obtain ⟨a, xs, rfl, hT, hit, k⟩ := h
    refine ⟨_, pss_cons (ps_for PassesOwn.never rfl (pi_enumT (by rfl) T.enum (pa_cons (pv 0) pa_nil)) (pg_tup rfl (pgs_cons (pg_name (i := 1) scFlt.nd rfl (.inl rfl)) (pgs_cons (pg_name (i := 2) scFlt.nd rfl (.inl rfl)) pgs_nil)))
        (pss_one (ps_if (PW.pt (pw_and (pt_not (pt_val (pe_call (ok_num T) hr rfl T.cNum.gl T.cNum.fn.kp T.cNum.bd .nil pass0 (pa_cons (pv 2) pa_nil))))
            (pw_and1 (pt_not (PW.pt (pw_and (pt_val (pe_callB call_isi (by rfl) T.isi PyProof.Rows.boot_isinstance (pa_cons (pv 2) (pa_cons (pe_bltn (v := .ty "str") (by rfl) T.str_ (by decide +kernel) rfl) pa_nil))))
              (pw_and1 (pt_cmpR op_eq (pv 2) pe_str (nomark _)))))))))
          (pss_one (ps_ret (pv 1))) pss_nil)))
      (pss_one (ps_ret (pe_call (ok_end T) hr rfl T.kEnd.gl T.kEnd.fn.kp T.kEnd.bd .nil pass0 (pa_cons (pv 0) pa_nil)))), ?_⟩
    refine ⟨_, rfl, a, xs, rfl, hT, for_enumT (K := K) (a := a) (xs := xs) (fun i σ H' => ∃ (p u : Option V), σ = [some (.ref a), p, u] ∧ Same H H' ∧ firstBad i (xs.drop i) = firstBad 0 xs)
      ⟨none, none, rfl, Same.refl H, rfl⟩ (fun i σ H' _ ⟨_, _, _, s1, _⟩ => sm_seqT s1 hT) ?_ ?_⟩
    · rintro i x σ H1 P hx ⟨p, u, rfl, s1, e⟩ hP
      have s2 : Same H (upd H1 P (.tup [.int (i : Nat), x])) := sm_upd s1 hP
      have hxi : Itm A (upd H1 P (.tup [.int (i : Nat), x])) x := sm_itm s2 (hit x (List.mem_of_getElem? hx))
      rw [drop_cons hx] at e
      refine ⟨P, _, rfl, SqT.of upd_same, rfl, _, _, rfl, _, _, rfl, ⟨rfl, ?_⟩⟩
      refine ⟨_, rfl, x, rfl, hxi, _, rfl, ?_⟩
      have bad : okW x = false → firstBad 0 xs = some i := fun c => by
        rw [← e]; unfold firstBad; rw [if_neg (by rw [c]; exact Bool.false_ne_true)]
      have good : okW x = true → firstBad (i + 1) (xs.drop (i + 1)) = firstBad 0 xs := fun c => by
        rw [← e]; conv => rhs; unfold firstBad
        rw [if_pos c]
      have leave : okW x = false → Q (.int (i : Nat)) (upd H1 P (.tup [.int (i : Nat), x])) := fun c => by
        have k2 := k _ s2
        unfold faultOf at k2
        rw [bad c] at k2
        exact k2
      obtain ⟨t, J⟩ := hxi.isi T
      cases hn : isNum x with
      | true =>
        have c : okW x = true := by
          cases x with
          | int z => exact hn
          | _ => cases hn
        exact iteF (iteF ⟨_, _, rfl, s2, good c⟩)
      | false =>
        refine iteT ⟨_, rfl, x, _, t, _, _, rfl, .ty "str", J.ty, J.ks, _, rfl, ?_⟩
        cases x with
        | str z =>
          refine iteT ⟨_, rfl, rfl, _, rfl, ?_⟩
          by_cases c : z = arr
          · subst c
            have cd : decide (V.str arr = V.str (Str.ofString ">")) = true := decide_eq_true rfl
            rw [cd]
            exact iteF ⟨_, _, rfl, s2, good (show decide (arr = arr) = true from decide_eq_true rfl)⟩
          · have cd : decide (V.str z = V.str (Str.ofString ">")) = false := decide_eq_false fun q => c (V.str.inj q)
            rw [cd]
            exact iteT ⟨_, rfl, leave (show decide (z = arr) = false from decide_eq_false c)⟩
        | int z => exact iteF (iteT ⟨_, rfl, leave hn⟩)
        | _ => exact iteF (iteT ⟨_, rfl, leave rfl⟩)
    · rintro σ H1 ⟨p, u, rfl, s1, e⟩
      rw [List.drop_length] at e
      have e0 : firstBad 0 xs = none := e.symm
      refine ⟨_, rfl, a, xs, rfl, sm_seqT s1 hT, firstBad_none e0, fun H2 s2 => ?_⟩
      have k2 := k _ (s1.trans s2)
      unfold faultOf at k2
      rw [e0] at k2
      exact k2
theorem scKI : FnScope ["self", "words", "fault"] ["self", "words"] (defScope (inClass (top 15) 0)) := ⟨rfl, rfl, rfl, by decide +kernel, rfl, by decide +kernel, by decide +kernel⟩
theorem ok_ki (T : Txt K mg A) : FnOk pw w K mg base (L2.CX pw w) 4 A.kI.a A.kI.d ["self", "words"] (spKI K A) := by
  obtain ⟨mt, hmost⟩ := T.most
  refine T.kI.fn.okX scKI (fun vs H Q E h => ?_) (fun cdv Ar outer s H vs Q E hr h => ?_)
  · obtain ⟨x, dx, v, o, rfl, _⟩ := h
    rfl
  · obtain ⟨x, dx, v, o, rfl, hx, ht, kE, kQ⟩ := h
    refine ⟨_, pss_cons (ps_if (PW.pt (pw_or (pt_not (pt_val (pe_callB call_isi (by rfl) T.isi PyProof.Rows.boot_isinstance (pa_cons (pv 1) (pa_cons (pe_bltn (v := .ty "tuple") (by rfl) T.tuple_ (by decide +kernel) rfl) pa_nil)))))
        (pw_or1 (pt_not (pt_chain op_le op_le pe_int (pe_callB call_len_seq (by rfl) T.len PySem.boot_len (pa_cons (pv 1) pa_nil)) (pe_glob (v := .int 4000) rfl hmost ⟨_, rfl⟩))))))
        (pss_one (ps_raiseBk rfl T.bk hr (takes_of rfl rfl rfl rfl) (pa_cons (pe_un un_neg pe_int) pa_nil))) pss_nil)
      (pss_cons (ps_set (i := 2) scKI.nd rfl (Or.inl rfl) (pe_call (ok_flt T) hr rfl T.kFlt.gl T.kFlt.fn.kp T.kFlt.bd .nil pass0 (pa_cons (pv 1) pa_nil)))
      (pss_cons (ps_if (pt_cmpR op_notN (pv 2) pe_non (nomark _)) (pss_one (ps_raiseBk rfl T.bk hr (takes_of rfl rfl rfl rfl) (pa_cons (pv 2) pa_nil))) pss_nil)
      (pss_one (ps_fld (pv 0) (pv 1) rfl)))), ?_⟩
    cases o with
    | none =>
      obtain ⟨t, ty, kt⟩ := ht
      refine ⟨_, rfl, v, _, t, _, _, rfl, .ty "tuple", ty, kt, _, rfl, ?_⟩
      exact iteT (iteT ⟨_, rfl, _, rfl, fun d hd => kE (-1) rfl d H (Same.refl H) hd⟩)
    | some xs =>
      obtain ⟨a, rfl, ha, hit⟩ := ht
      refine ⟨_, rfl, _, _, _, _, _, rfl, .ty "tuple", .base (.tup ha), kit_ty (r := true) (by decide +kernel), _, rfl, ?_⟩
      refine iteF ⟨_, rfl, a, xs, rfl, .inr (SqT.of ha), _, _, rfl, rfl, _, rfl, ?_⟩
      have hdue : dueO (some xs) = if 1 ≤ xs.length ∧ xs.length ≤ 4000 then (faultOf xs).map (fun k => (k : Int)) else some (-1) := rfl
      by_cases c1 : (1 : Int) ≤ (xs.length : Int)
      · rw [decide_eq_true c1]
        refine iteT ⟨_, _, rfl, rfl, _, rfl, ?_⟩
        by_cases c2 : (xs.length : Int) ≤ 4000
        · rw [decide_eq_true c2]
          rw [if_pos ⟨by omega, by omega⟩] at hdue
          refine iteF ⟨_, rfl, a, xs, rfl, SqT.of ha, hit, fun H1 s1 => ?_⟩
          refine ⟨_, rfl, rfl, _, rfl, ?_⟩
          cases hf : faultOf xs with
          | some k =>
            rw [hf] at hdue
            exact iteT ⟨_, rfl, _, rfl, fun d hd => kE k hdue d H1 s1 hd⟩
          | none =>
            rw [hf] at hdue
            refine iteF ⟨_, rfl, _, rfl, x, A.kC, dx, [], rfl, s1 _ _ hx, T.kK.cl, T.kK.nW, (by show 0 < 1000; decide), ?_⟩
            exact kQ hdue H1 s1
        · rw [decide_eq_false c2]
          rw [if_neg (fun z => c2 (by omega))] at hdue
          exact iteT ⟨_, rfl, _, rfl, fun d hd => kE (-1) hdue d H (Same.refl H) hd⟩
      · rw [decide_eq_false c1]
        rw [if_neg (fun z => c1 (by omega))] at hdue
        exact iteF ⟨_, rfl, iteT ⟨_, rfl, _, rfl, fun d hd => kE (-1) hdue d H (Same.refl H) hd⟩⟩
theorem scKE : FnScope ["self", "other"] ["self", "other"] (defScope (inClass (top 15) 1)) := ⟨rfl, rfl, rfl, by decide +kernel, rfl, by decide +kernel, by decide +kernel⟩
theorem ok_ke (T : Txt K mg A) : FnOk pw w K mg base CX0 1 A.kE.a A.kE.d ["self", "other"] (spKE K A) := by
  refine T.kE.fn.ok scKE (fun vs H Q E h => ?_) (fun cdv Ar outer s H vs Q E hr h => ?_)
  · obtain ⟨a, wa, y, xs, rfl, _⟩ := h
    rfl
  · obtain ⟨a, wa, y, xs, rfl, ⟨⟨dx, ha⟩, hwa, okx⟩, h⟩ := h
    refine ⟨_, pss_one (ps_ret (pe_and (pe_callB call_isi (by rfl) T.isi PyProof.Rows.boot_isinstance (pa_cons (pv 1) (pa_cons (pe_glob (v := .ref A.kC) rfl T.gK rfl) pa_nil)))
      (pe_one (pe_cmpR (op_eqD hr.units) (pe_fld (pv 0) rfl) (pe_fld (pv 1) rfl) (nomark _))))), ?_⟩
    rcases h with ⟨b, wb, ys, rfl, ⟨⟨dy, hb⟩, hwb, oky⟩, k⟩ | ⟨t, ty, ki, k⟩
    · refine ⟨_, rfl, _, _, _, _, _, rfl, .own A.kC, .base (.ins hb T.kK.cl T.kK.ca T.kK.cn T.kK.ct T.kK.cm), T.kK.i5, _, rfl, ?_⟩
      refine iteT ⟨_, rfl, a, A.kC, dx, _, _, rfl, ha, T.kK.cl, T.kK.nW, rfl, _, rfl, b, A.kC, dy, _, _, rfl, hb, T.kK.cl, T.kK.nW, rfl, ?_⟩
      exact ⟨_, _, dp_tup (SqT.of hwa) okx, dp_tup (SqT.of hwb) oky, dT_ok okx, dT_ok oky, k⟩
    · refine ⟨_, rfl, _, _, t, _, _, rfl, .own A.kC, ty, ki, _, rfl, ?_⟩
      exact iteF k
end
end Knd

set_option Elab.async false
set_option linter.all false
set_option maxRecDepth 100000
set_option maxHeartbeats 3000000
namespace Knd
open PySem PySem.Spec PyProof.Rows L2
/-! ### Program(("x",)): each def at the one word x -/
def sx : Str := "x"
theorem ne_at : decide (V.str sx = V.str (Str.ofString "@")) = false := by decide +kernel
theorem ne_sl : decide (V.str (cutS sx none (some 1)) = V.str (Str.ofString "/")) = false := by decide +kernel
theorem sx_small : sx.length ≤ sizeLine := by decide +kernel
def spB (b : Bool) : Sp := fun vs H Q _ => vs = [.str sx] ∧ Q (.bl b) H
def spI0 : Sp := fun vs H Q _ => vs = [.str sx] ∧ Q (.int 0) H
def spBS (b : Bool) : Sp := fun vs H Q _ => vs = [.str sx] ∧ ∀ H', Same H H' → Q (.bl b) H'
/-- of the words ("x",): None -/
def spNon (K : PySem.W.Frag) : Sp := fun vs H Q _ => ∃ a, vs = [.ref a] ∧ SqT K H a [.str sx] ∧ ∀ H', Same H H' → Q .non H'
def spSome (K : PySem.W.Frag) : Sp := fun vs H Q _ => ∃ a, vs = [.ref a] ∧ SqT K H a [.str sx] ∧ ∀ H' v, Same H H' → Q v H'
def spPI (K : PySem.W.Frag) (A : Ads) : Sp := fun vs H Q _ => ∃ (x dx a : Addr), vs = [.ref x, .ref a] ∧ H x = some (.ins A.pC dx []) ∧ H a = some (.tup [.str sx]) ∧ ∀ H', Same H H' → Q .non (upd H' x (.ins A.pC dx [(("words" : Str), .ref a)]))
section
variable {w : World} {K : PySem.W.Frag} {mg : Str → Option Value} {base : Heap} {A : Ads}
theorem scGive : FnScope ["word"] ["word"] (defScope (top 18)) := ⟨rfl, rfl, rfl, by decide +kernel, rfl, by decide +kernel, by decide +kernel⟩
theorem ok_give (T : Txt K mg A) : FnOk pw w K mg base CX0 1 A.pGive.a A.pGive.d ["word"] (spB false) := by
  refine T.pGive.fn.ok scGive (fun vs H Q E h => by obtain ⟨rfl, _⟩ := h; rfl) (fun cdv Ar outer s H vs Q E hr h => ?_)
  obtain ⟨rfl, k⟩ := h
  refine ⟨_, pss_one (ps_ret (pe_cmpR op_eq (pv 0) pe_str (nomark _))), ?_⟩
  refine ⟨_, rfl, rfl, ?_⟩
  rw [← ne_at] at k
  exact k
theorem scTake : FnScope ["word"] ["word"] (defScope (top 19)) := ⟨rfl, rfl, rfl, by decide +kernel, rfl, by decide +kernel, by decide +kernel⟩
theorem ok_take (T : Txt K mg A) : FnOk pw w K mg base CX0 1 A.pTake.a A.pTake.d ["word"] (spB false) := by
  refine T.pTake.fn.ok scTake (fun vs H Q E h => by obtain ⟨rfl, _⟩ := h; rfl) (fun cdv Ar outer s H vs Q E hr h => ?_)
  obtain ⟨rfl, k⟩ := h
  refine ⟨_, pss_one (ps_ret (pe_cmpR op_eq (pe_slice sl_str (pv 0) po_none (po_some pe_int)) pe_str (nomark _))), ?_⟩
  refine ⟨_, rfl, 1, rfl, sx, rfl, sx_small, rfl, ?_⟩
  rw [← ne_sl] at k
  exact k
theorem scName : FnScope ["thing", "sign"] ["thing"] (defScope (top 7)) := ⟨rfl, rfl, rfl, by decide +kernel, rfl, by decide +kernel, by decide +kernel⟩
theorem ok_name (T : Txt K mg A) : FnOk pw w K mg base CX0 1 A.cName.a A.cName.d ["thing"] (spBS true) := by
  refine T.cName.fn.ok scName (fun vs H Q E h => by obtain ⟨rfl, _⟩ := h; rfl) (fun cdv Ar outer s H vs Q E hr h => ?_)
  obtain ⟨rfl, k⟩ := h
  refine ⟨_, pss_one (ps_ret (pe_and (pe_callB call_isi (by rfl) T.isi PyProof.Rows.boot_isinstance (pa_cons (pv 0) (pa_cons (pe_bltn (v := .ty "str") (by rfl) T.str_ (by decide +kernel) rfl) pa_nil)))
    (pe_and (pe_chain op_le op_le pe_int (pe_callB call_len_str (by rfl) T.len PySem.boot_len (pa_cons (pv 0) pa_nil)) pe_int)
    (pe_one (pe_callB (cr_all rfl) (by rfl) T.all_ (by decide +kernel) (pa_cons
      (pe_lc (own := [("sign", 1)]) (g := gName 1) (tt := tYes) rfl scName.nd (pi_str (pv 0)) (blkOk_by (N := ["thing", "sign"]) (sc := defScope (top 7)) (by decide +kernel)) (fun _ _ _ _ _ => pg_name (i := 1) scName.nd rfl (Or.inl rfl)) (fun _ _ _ _ _ => pts_nil)
        (fun _ _ _ _ _ => pe_chain op_le_str op_le_str pe_str (pv 1) pe_str)) pa_nil)))))), ?_⟩
  refine ⟨_, rfl, _, _, _, _, _, rfl, .ty "str", .base (.str sx), kt (r := true), _, rfl, ?_⟩
  refine iteT ⟨_, rfl, sx, rfl, sx_small, _, _, rfl, rfl, true, rfl, iteT ⟨_, _, rfl, rfl, true, rfl, ?_⟩⟩
  refine iteT ⟨_, rfl, sx, rfl, fun D hD => ?_⟩
  refine lc_it (walk_str (z := sx)) (fun i H' => Same H H' ∧ H' D = some (.lst ((List.replicate i true).map V.bl))) ⟨sm_upd (Same.refl H) hD, upd_same⟩ (fun _ _ _ _ => trivial) ?_ ?_
  · rintro i v H1 H2 hi ⟨s1, hl⟩ ⟨rfl, c, hc, rfl⟩
    have i0 : i = 0 := Nat.lt_one_iff.mp hi
    subst i0
    have ec : c = 120 := by
      have z : sx.cps[0]? = some 120 := by decide +kernel
      rw [z] at hc
      exact (Option.some.inj hc).symm
    subst ec
    refine ⟨rfl, ?_⟩
    refine ⟨_, rfl, _, _, rfl, rfl, true, by decide +kernel, ?_⟩
    refine iteT ?_
    refine ⟨_, _, rfl, rfl, ?_⟩
    refine ⟨_, hl, (by show 0 < sizeLine; decide), fun b o e => ?_, ?_⟩
    · rw [upd_ne (ne_of_none e hD)]
      exact s1 b o e
    · rw [upd_same]
      exact congrArg some (congrArg HO.lst (by decide +kernel))
  · rintro H1 ⟨s1, hl⟩
    exact ⟨D, [true], rfl, SqL.of hl, k _ s1⟩
theorem scWord : FnScope ["thing"] ["thing"] (defScope (top 21)) := ⟨rfl, rfl, rfl, by decide +kernel, rfl, by decide +kernel, by decide +kernel⟩
theorem ok_word (T : Txt K mg A) : FnOk pw w K mg base CX0 2 A.pWord.a A.pWord.d ["thing"] (spBS true) := by
  refine T.pWord.fn.ok scWord (fun vs H Q E h => by obtain ⟨rfl, _⟩ := h; rfl) (fun cdv Ar outer s H vs Q E hr h => ?_)
  obtain ⟨rfl, k⟩ := h
  refine ⟨_, pss_cons (ps_if (pt_not (pt_val (pe_callB call_isi (by rfl) T.isi PyProof.Rows.boot_isinstance (pa_cons (pv 0) (pa_cons (pe_bltn (v := .ty "str") (by rfl) T.str_ (by decide +kernel) rfl) pa_nil))))) pss_never pss_nil)
    (pss_one (ps_ret (pe_or (pe_cmpR op_eq (pv 0) pe_str (nomark _)) (pe_or (pe_call (ok_name T) hr rfl T.cName.gl T.cName.fn.kp T.cName.bd .nil pass0 (pa_cons (pv 0) pa_nil)) (pe_one pe_nev))))), ?_⟩
  refine ⟨_, rfl, _, _, _, _, _, rfl, .ty "str", .base (.str sx), kt (r := true), _, rfl, ?_⟩
  refine iteF ⟨_, rfl, rfl, _, rfl, ?_⟩
  rw [ne_at]
  exact iteF ⟨_, rfl, rfl, fun H1 s1 => ⟨_, rfl, iteT (k _ s1)⟩⟩
theorem scAsk : FnScope ["word"] ["word"] (defScope (top 22)) := ⟨rfl, rfl, rfl, by decide +kernel, rfl, by decide +kernel, by decide +kernel⟩
theorem ok_ask (T : Txt K mg A) : FnOk pw w K mg base CX0 2 A.pAsk.a A.pAsk.d ["word"] spI0 := by
  refine T.pAsk.fn.ok scAsk (fun vs H Q E h => by obtain ⟨rfl, _⟩ := h; rfl) (fun cdv Ar outer s H vs Q E hr h => ?_)
  obtain ⟨rfl, k⟩ := h
  refine ⟨_, pss_cons (ps_if (pt_val (pe_call (ok_give T) hr rfl T.pGive.gl T.pGive.fn.kp T.pGive.bd .nil pass0 (pa_cons (pv 0) pa_nil))) pss_never pss_nil)
    (pss_one (ps_ret (pe_ifExp (pt_val (pe_call (ok_take T) hr rfl T.pTake.gl T.pTake.fn.kp T.pTake.bd .nil pass0 (pa_cons (pv 0) pa_nil))) pe_nev pe_int))), ?_⟩
  exact ⟨_, rfl, rfl, _, rfl, iteF ⟨_, rfl, rfl, _, rfl, iteF k⟩⟩
theorem scPE : FnScope ["words", "asked", "place", "word"] ["words"] (defScope (top 23)) := ⟨rfl, rfl, rfl, by decide +kernel, rfl, by decide +kernel, by decide +kernel⟩
theorem one_at {i : Nat} {x : V} (h : ([V.str sx] : List V)[i]? = some x) : i = 0 ∧ x = .str sx := by
  cases i with
  | zero => exact ⟨rfl, (Option.some.inj h).symm⟩
  | succ i => simp at h
theorem ok_pend (T : Txt K mg A) : FnOk pw w K mg base CX0 3 A.pEnd.a A.pEnd.d ["words"] (spNon K) := by
  refine T.pEnd.fn.ok scPE (fun vs H Q E h => by obtain ⟨a, rfl, _⟩ := h; rfl) (fun cdv Ar outer s H vs Q E hr h => ?_)
  obtain ⟨a, rfl, hT, k⟩ := h
  refine ⟨_, pss_cons (ps_set (i := 1) scPE.nd rfl (Or.inl rfl) pe_int)
    (pss_cons (ps_for PassesOwn.never rfl (pi_enumT (by rfl) T.enum (pa_cons (pv 0) pa_nil)) (pg_tup rfl (pgs_cons (pg_name (i := 2) scPE.nd rfl (.inl rfl)) (pgs_cons (pg_name (i := 3) scPE.nd rfl (.inl rfl)) pgs_nil)))
      (pss_cons (ps_if (pt_cmpR op_eq (pv 1) pe_int (nomark _)) pss_never pss_nil)
      (pss_one (ps_aug (i := 1) scPE.nd rfl (.inl rfl) (pe_op op_sub (pe_call (ok_ask T) hr rfl T.pAsk.gl T.pAsk.fn.kp T.pAsk.bd .nil pass0 (pa_cons (pv 3) pa_nil)) pe_int) ip_add))))
    (pss_one (ps_ret (pe_ifExp (pt_cmpR op_gt (pv 1) pe_int (nomark _)) pe_nev pe_non)))), ?_⟩
  refine ⟨_, rfl, a, _, rfl, hT, for_enumT (K := K) (a := a) (xs := [.str sx]) (fun i σ H' => ∃ (p u : Option V), σ = [some (.ref a), some (.int (1 - (i : Int))), p, u] ∧ Same H H')
    ⟨none, none, rfl, Same.refl H⟩ (fun i σ H' _ ⟨_, _, _, s1⟩ => sm_seqT s1 hT) ?_ ?_⟩
  · rintro i x σ H1 P hx ⟨p, u, rfl, s1⟩ hP
    obtain ⟨rfl, rfl⟩ := one_at hx
    refine ⟨P, _, rfl, SqT.of upd_same, rfl, _, _, rfl, _, _, rfl, ⟨rfl, ?_⟩⟩
    refine ⟨_, rfl, rfl, _, rfl, iteF ?_⟩
    refine ⟨_, rfl, _, rfl, rfl, _, _, rfl, rfl, _, _, rfl, rfl, ?_⟩
    exact ⟨_, _, rfl, sm_upd s1 hP⟩
  · rintro σ H1 ⟨p, u, rfl, s1⟩
    exact ⟨_, rfl, _, _, rfl, rfl, _, rfl, iteF (k _ s1)⟩
theorem scPS : FnScope ["words", "met", "place", "word"] ["words"] (defScope (top 25)) := ⟨rfl, rfl, rfl, by decide +kernel, rfl, by decide +kernel, by decide +kernel⟩
theorem ok_psec (T : Txt K mg A) : FnOk pw w K mg base CX0 3 A.pSec.a A.pSec.d ["words"] (spNon K) := by
  refine T.pSec.fn.ok scPS (fun vs H Q E h => by obtain ⟨a, rfl, _⟩ := h; rfl) (fun cdv Ar outer s H vs Q E hr h => ?_)
  obtain ⟨a, rfl, hT, k⟩ := h
  have hr1 : Room 1 _ := hr.mono (by decide)
  refine ⟨_, pss_cons (ps_set (i := 1) scPS.nd rfl (Or.inl rfl) pe_dnewK)
    (pss_cons (ps_for PassesOwn.never rfl (pi_enumT (by rfl) T.enum (pa_cons (pv 0) pa_nil)) (pg_tup rfl (pgs_cons (pg_name (i := 2) scPS.nd rfl (.inl rfl)) (pgs_cons (pg_name (i := 3) scPS.nd rfl (.inl rfl)) pgs_nil)))
      (pss_one (ps_if (pt_not (pt_val (pe_call (ok_give T) hr1 rfl T.pGive.gl T.pGive.fn.kp T.pGive.bd .nil pass0 (pa_cons (pv 3) pa_nil))))
        (pss_cons (ps_if (pt_cmp (pc_din (hu_of hr) (pv 3) (pv 1)) (by rfl)) pss_never pss_nil) (pss_one (ps_dput (hu_of hr) (pv 1) (pv 3) pe_bl rfl))) pss_nil)))
    (pss_one (ps_ret pe_non))), ?_⟩
  intro d hd
  have s0 : Same H (upd H d (.dK [])) := sm_upd (Same.refl H) hd
  refine ⟨_, rfl, a, _, rfl, sm_seqT s0 hT, for_enumT (K := K) (a := a) (xs := [.str sx]) (fun i σ H' => ∃ (p u : Option V), σ = [some (.ref a), some (.ref d), p, u] ∧ Same H H' ∧ (i = 0 → H' d = some (.dK [])))
    ⟨none, none, rfl, s0, fun _ => upd_same⟩ (fun i σ H' _ ⟨_, _, _, s1, _⟩ => sm_seqT s1 hT) ?_ ?_⟩
  · rintro i x σ H1 P hx ⟨p, u, rfl, s1, hz⟩ hP
    obtain ⟨rfl, rfl⟩ := one_at hx
    have hd1 := hz rfl
    have hdP : d ≠ P := ne_of_none hd1 hP
    have hd2 : upd H1 P (.tup [.int ((0 : Nat) : Int), .str sx]) d = some (.dK []) := by rw [upd_ne hdP]; exact hd1
    refine ⟨P, _, rfl, SqT.of upd_same, rfl, _, _, rfl, _, _, rfl, ⟨rfl, ?_⟩⟩
    refine ⟨_, rfl, rfl, _, rfl, iteT ?_⟩
    refine ⟨_, rfl, _, rfl, d, none, rfl, DGet.k (k := Sum.inr sx) hd2, _, rfl, iteF ?_⟩
    refine ⟨_, rfl, _, rfl, d, _, rfl, DPut.k (k := Sum.inr sx) hd2 (by show 0 < sizeLine; decide), ?_⟩
    refine ⟨_, _, rfl, fun b o e => ?_, fun z => by cases z⟩
    rw [upd_ne (ne_of_none e hd)]
    exact sm_upd s1 hP b o e
  · rintro σ H1 ⟨p, u, rfl, s1, _⟩
    exact k _ s1
end
end Knd

set_option Elab.async false
set_option linter.all false
set_option maxRecDepth 100000
set_option maxHeartbeats 3000000
namespace Knd
open PySem PySem.Spec PyProof.Rows L2
section
variable {w : World} {K : PySem.W.Frag} {mg : Str → Option Value} {base : Heap} {A : Ads}
theorem scEs : FnScope ["words", "found", "whole", "place", "end", "turn"] ["words"] (defScope (top 26)) := ⟨rfl, rfl, rfl, by decide +kernel, rfl, by decide +kernel, by decide +kernel⟩
theorem ok_pends (T : Txt K mg A) : FnOk pw w K mg base CX0 3 A.pEnds.a A.pEnds.d ["words"] (spSome K) := by
  refine T.pEnds.fn.ok scEs (fun vs H Q E h => by obtain ⟨a, rfl, _⟩ := h; rfl) (fun cdv Ar outer s H vs Q E hr h => ?_)
  obtain ⟨a, rfl, hT, k⟩ := h
  refine ⟨_, pss_cons (ps_set (i := 1) scEs.nd rfl (Or.inl rfl) (pe_op op_rep (pe_lst (pa_cons pe_int pa_nil)) (pe_callB call_len_seq (by rfl) T.len PySem.boot_len (pa_cons (pv 0) pa_nil))))
    (pss_cons (ps_set (i := 2) scEs.nd rfl (Or.inl rfl) (pe_lst pa_nil))
    (pss_cons (ps_for PassesOwn.never rfl (pi_range3 rfl T.range (pa_cons (pe_op op_sub (pe_callB call_len_seq (by rfl) T.len PySem.boot_len (pa_cons (pv 0) pa_nil)) pe_int) (pa_cons (pe_un un_neg pe_int) (pa_cons (pe_un un_neg pe_int) pa_nil))))
        (pg_name (i := 3) scEs.nd rfl (.inl rfl))
      (pss_cons (ps_set (i := 4) scEs.nd rfl (Or.inl rfl) (pe_op op_add (pv 3) pe_int))
      (pss_cons (ps_for PassesOwn.never rfl (pi_range1 rfl T.range (pa_cons (pe_call (ok_ask T) hr rfl T.pAsk.gl T.pAsk.fn.kp T.pAsk.bd .nil pass0 (pa_cons (pe_ix ix_tup (pv 0) (pv 3) (fun _ _ => rfl)) pa_nil)) pa_nil))
          (pg_name (i := 5) scEs.nd rfl (.inl rfl)) pss_never)
      (pss_cons (ps_asg (pv 4) (pg_sub (pv 1) (pv 3) set_list))
      (pss_one (ps_expr (pe_bm PySem.F.plainAttrs_list PySem.F.slot_list_append PySem.F.type_list_append mt_append (pv 2) (pa_cons (pv 4) pa_nil))))))))
    (pss_one (ps_ret (pe_callTy call_tuple_of (by rfl) T.tuple_ (by decide +kernel) (pa_cons (pv 1) pa_nil)))))), ?_⟩
  -- found = [0] * len(words); whole = []
  refine ⟨(by show 1 ≤ sizeLine; decide), fun l0 h0 => ?_⟩
  have s0 : Same H (upd H l0 (.lst [.int 0])) := sm_upd (Same.refl H) h0
  refine ⟨_, rfl, a, _, rfl, .inr (sm_seqT s0 hT), l0, 1, [.int 0], rfl, rfl, upd_same, by decide, by decide, (by show 1 * 1 ≤ sizeLine; decide), fun l1 h1 => ?_⟩
  have s1 := sm_upd (o := .lst (List.replicate (1 : Int).toNat [V.int 0]).flatten) s0 h1
  refine ⟨(by show 0 ≤ sizeLine; decide), fun l2 h2 => ?_⟩
  have s2 := sm_upd (o := .lst []) s1 h2
  have f1 : H l1 = Option.none := s0.free h1
  have f2 : H l2 = Option.none := s1.free h2
  have n12 : l1 ≠ l2 := ne_of_none upd_same h2
  refine ⟨_, rfl, a, _, rfl, .inr (sm_seqT s2 hT), _, _, rfl, rfl, _, rfl, _, rfl, 0, -1, -1, 1, rfl, RgC.neg (by decide) (by decide) (by decide) (by decide), ?_⟩
  refine for_rangeC (lo := 0) (c := -1) (n := 1) (fun i σ H' => ∃ (p u v : Option V), σ = [some (.ref a), some (.ref l1), some (.ref l2), p, u, v] ∧ Same H H' ∧ H' l1 = some (.lst [.int (if i = 0 then 0 else 1)]) ∧ ∃ ws, H' l2 = some (.lst ws) ∧ ws.length = i)
    ⟨none, none, none, rfl, s2, ?_, [], upd_same, rfl⟩ ?_ ?_
  · rw [upd_ne n12, upd_same]
    rfl
  · rintro i σ H1 hi ⟨p, u, v, rfl, t1, e1, ws, e2, e3⟩
    have i0 : i = 0 := Nat.lt_one_iff.mp hi
    subst i0
    refine ⟨_, rfl, _, _, rfl, rfl, ?_⟩
    refine ⟨_, rfl, _, rfl, a, _, _, _, rfl, rfl, sm_seqT t1 hT, atI_nat (j := 0) (v := .str sx) rfl, rfl, 0, rfl, by decide, by decide, ?_⟩
    refine for_range (lo := 0) (n := 0) (fun i σ H' => σ = [some (.ref a), some (.ref l1), some (.ref l2), some (.int (0 + ((0 : Nat) : Int) * -1)), some (.int (0 + ((0 : Nat) : Int) * -1 + 1)), v] ∧ H' = H1) ⟨rfl, rfl⟩ (fun i σ H' hi => absurd hi (Nat.not_lt_zero _)) ?_
    rintro σ H2 ⟨rfl, rfl⟩
    refine ⟨_, rfl, _, rfl, _, rfl, l1, _, _, 0, rfl, rfl, e1, by decide, ?_⟩
    have n12' : l2 ≠ l1 := n12.symm
    refine ⟨_, rfl, .inl ⟨rfl, ws, SqL.of (by rw [upd_ne n12']; exact e2)⟩, _, rfl, l2, ws, _, rfl, rfl, (by rw [upd_ne n12']; exact e2), (by rw [e3]; show 0 < sizeLine; decide), ?_⟩
    refine ⟨_, _, _, rfl, fun b o q => ?_, ?_, _, upd_same, by simp [e3]⟩
    · rw [upd_ne (ne_of_none q f2), upd_ne (ne_of_none q f1)]
      exact t1 b o q
    · rw [upd_ne n12, upd_same]
      rfl
  · rintro σ H1 ⟨p, u, v, rfl, t1, e1, ws, e2, e3⟩
    refine ⟨_, rfl, l1, _, rfl, .inl ⟨SqL.of e1, fun l hl => ?_⟩⟩
    exact k _ _ (sm_upd t1 hl)
theorem scUs : FnScope ["words", "place", "word"] ["words"] (defScope (top 27)) := ⟨rfl, rfl, rfl, by decide +kernel, rfl, by decide +kernel, by decide +kernel⟩
theorem ok_puses (T : Txt K mg A) : FnOk pw w K mg base CX0 2 A.pUses.a A.pUses.d ["words"] (spSome K) := by
  refine T.pUses.fn.ok scUs (fun vs H Q E h => by obtain ⟨a, rfl, _⟩ := h; rfl) (fun cdv Ar outer s H vs Q E hr h => ?_)
  obtain ⟨a, rfl, hT, k⟩ := h
  refine ⟨_, pss_one (ps_ret (pe_dc (own := [("place", 1), ("word", 2)]) (g := gTup K 2 (gCons (gName 1) (gCons (gName 2) gNil))) rfl scUs.nd (pi_enumT (by rfl) T.enum (pa_cons (pv 0) pa_nil)) (blkOk_by (N := ["words", "place", "word"]) (sc := defScope (top 27)) (by decide +kernel))
    (fun _ _ _ _ _ => pg_tup rfl (pgs_cons (pg_name (i := 1) scUs.nd rfl (Or.inl rfl) (Or.inr rfl)) (pgs_cons (pg_name (i := 2) scUs.nd rfl (Or.inl rfl) (Or.inr rfl)) pgs_nil)))
    (fun _ _ _ _ _ => pts_one (PW.pt (pw_and (pt_not (pt_val (pe_call (ok_give T) hr rfl T.pGive.gl T.pGive.fn.kp T.pGive.bd .nil pass0 (pa_cons (pv 2) pa_nil)))) (pw_and1 (pt_not (pt_val (pe_call (ok_take T) hr rfl T.pTake.gl T.pTake.fn.kp T.pTake.bd .nil pass0 (pa_cons (pv 2) pa_nil))))))))
    (fun _ _ _ _ _ => pv 2) (fun _ _ _ _ _ => pv 1))), ?_⟩
  refine ⟨_, rfl, a, _, rfl, hT, fun D hD => ?_⟩
  refine ⟨fun i m H' => m = 1 - i ∧ i ≤ 1 ∧ Same H H' ∧ (i = 0 → H' D = some (.dK [])), ⟨1, rfl, Nat.zero_le _, sm_upd (Same.refl H) hD, fun _ => upd_same⟩, ?_⟩
  rintro i m H1 ⟨rfl, hi, s1, hz⟩
  by_cases i0 : i = 0
  · subst i0
    have hd1 := hz rfl
    refine .inr ⟨⟨_, .str sx, sm_seqT s1 hT, rfl⟩, fun H' => Same H H', fun H' q => ⟨0, Nat.zero_lt_one, rfl, Nat.le_refl _, q, fun z => by cases z⟩, fun x H' y => ?_⟩
    obtain ⟨P, z, rfl, hP, rfl, y⟩ := y
    have ez : z = .str sx := by
      have q := y _ (sm_seqT s1 hT)
      exact (Option.some.inj q).symm
    subst ez
    have hd2 : upd H1 P (.tup [.int ((0 : Nat) : Int), .str sx]) D = some (.dK []) := by rw [upd_ne (ne_of_none hd1 hP)]; exact hd1
    refine ⟨P, _, rfl, SqT.of upd_same, rfl, _, _, rfl, _, _, rfl, ⟨rfl, rfl, ?_⟩⟩
    refine ⟨_, rfl, rfl, _, rfl, ?_⟩
    refine iteT ⟨_, rfl, rfl, _, rfl, ?_⟩
    refine iteT ⟨_, rfl, _, rfl, [], Sum.inr sx, rfl, hd2, (by show 0 < sizeLine; decide), fun b o e => ?_⟩
    rw [upd_ne (ne_of_none e hD)]
    exact sm_upd s1 hP b o e
  · have e1 : i = 1 := by omega
    subst e1
    exact .inl ⟨⟨_, sm_seqT s1 hT, Nat.le_refl _⟩, k _ _ s1⟩
theorem scWt : FnScope ["words", "ends", "there", "place", "word"] ["words"] (defScope (top 28)) := ⟨rfl, rfl, rfl, by decide +kernel, rfl, by decide +kernel, by decide +kernel⟩
theorem ok_pwt (T : Txt K mg A) : FnOk pw w K mg base CX0 4 A.pWt.a A.pWt.d ["words"] (spNon K) := by
  refine T.pWt.fn.ok scWt (fun vs H Q E h => by obtain ⟨a, rfl, _⟩ := h; rfl) (fun cdv Ar outer s H vs Q E hr h => ?_)
  obtain ⟨a, rfl, hT, k⟩ := h
  have hr1 : Room 1 _ := hr.mono (by decide)
  have hr2 : Room 2 _ := hr.mono (by decide)
  refine ⟨_, pss_cons (ps_set (i := 1) scWt.nd rfl (Or.inl rfl) (pe_call (ok_pends T) hr rfl T.pEnds.gl T.pEnds.fn.kp T.pEnds.bd .nil pass0 (pa_cons (pv 0) pa_nil)))
    (pss_cons (ps_set (i := 2) scWt.nd rfl (Or.inl rfl) (pe_call (ok_puses T) hr2 rfl T.pUses.gl T.pUses.fn.kp T.pUses.bd .nil pass0 (pa_cons (pv 0) pa_nil)))
    (pss_cons (ps_for PassesOwn.never rfl (pi_enumT (by rfl) T.enum (pa_cons (pv 0) pa_nil)) (pg_tup rfl (pgs_cons (pg_name (i := 3) scWt.nd rfl (.inl rfl)) (pgs_cons (pg_name (i := 4) scWt.nd rfl (.inl rfl)) pgs_nil)))
      (pss_one (ps_if (PW.pt (pw_and (pt_val (pe_call (ok_take T) hr1 rfl T.pTake.gl T.pTake.fn.kp T.pTake.bd .nil pass0 (pa_cons (pv 4) pa_nil))) (pw_and1 pt_nev))) pss_never pss_nil)))
    (pss_one (ps_ret pe_non)))), ?_⟩
  refine ⟨_, rfl, a, rfl, hT, fun H1 v1 s1 => ?_⟩
  refine ⟨_, rfl, a, rfl, sm_seqT s1 hT, fun H2 v2 s2 => ?_⟩
  have s12 := s1.trans s2
  refine ⟨_, rfl, a, _, rfl, sm_seqT s12 hT, for_enumT (K := K) (a := a) (xs := [.str sx]) (fun i σ H' => ∃ (p u : Option V), σ = [some (.ref a), some v1, some v2, p, u] ∧ Same H H')
    ⟨none, none, rfl, s12⟩ (fun i σ H' _ ⟨_, _, _, s1⟩ => sm_seqT s1 hT) ?_ ?_⟩
  · rintro i x σ H3 P hx ⟨p, u, rfl, s3⟩ hP
    obtain ⟨rfl, rfl⟩ := one_at hx
    refine ⟨P, _, rfl, SqT.of upd_same, rfl, _, _, rfl, _, _, rfl, ⟨rfl, ?_⟩⟩
    refine ⟨_, rfl, rfl, _, rfl, iteF (iteF ?_)⟩
    exact ⟨_, _, rfl, sm_upd s3 hP⟩
  · rintro σ H3 ⟨p, u, rfl, s3⟩
    exact k _ s3
/-- what fault_in calls by a local name -/
def callS (K : PySem.W.Frag) (A : Ads) : Addr → Option Sp := fun f => if f = A.pEnd.a ∨ f = A.pSec.a ∨ f = A.pWt.a then some (spNon K) else none
theorem callS_ok (T : Txt K mg A) : ∀ f sp, callS K A f = some sp → Held pw w K mg base 4 f sp := fun f sp h => by
  unfold callS at h
  by_cases c : f = A.pEnd.a ∨ f = A.pSec.a ∨ f = A.pWt.a
  · rw [if_pos c] at h
    cases h
    rcases c with rfl | rfl | rfl
    · exact ⟨_, _, (ok_pend T).mono (by decide), T.pEnd.fn.kp, T.pEnd.bd⟩
    · exact ⟨_, _, (ok_psec T).mono (by decide), T.pSec.fn.kp, T.pSec.bd⟩
    · exact ⟨_, _, ok_pwt T, T.pWt.fn.kp, T.pWt.bd⟩
  · rw [if_neg c] at h
    cases h
theorem scPf : FnScope ["words", "place", "word", "wrong", "found"] ["words"] (defScope (top 29)) := ⟨rfl, rfl, rfl, by decide +kernel, rfl, by decide +kernel, by decide +kernel⟩
theorem ok_pflt (T : Txt K mg A) : FnOk pw w K mg base CX0 5 A.pFlt.a A.pFlt.d ["words"] (spNon K) := by
  refine T.pFlt.fn.ok scPf (fun vs H Q E h => by obtain ⟨a, rfl, _⟩ := h; rfl) (fun cdv Ar outer s H vs Q E hr h => ?_)
  obtain ⟨a, rfl, hT, k⟩ := h
  have hr2 : Room 2 _ := hr.mono (by decide)
  refine ⟨_, pss_cons (ps_for PassesOwn.never rfl (pi_enumT (by rfl) T.enum (pa_cons (pv 0) pa_nil)) (pg_tup rfl (pgs_cons (pg_name (i := 1) scPf.nd rfl (.inl rfl)) (pgs_cons (pg_name (i := 2) scPf.nd rfl (.inl rfl)) pgs_nil)))
      (pss_one (ps_if (pt_not (pt_val (pe_call (ok_word T) hr2 rfl T.pWord.gl T.pWord.fn.kp T.pWord.bd .nil pass0 (pa_cons (pv 2) pa_nil)))) pss_never pss_nil)))
    (pss_cons (ps_for PassesOwn.never rfl (pi_tup (pe_tup (pa_cons (pe_glob (v := .ref A.pEnd.a) rfl T.pEnd.gl rfl) (pa_cons (pe_glob (v := .ref A.pSec.a) rfl T.pSec.gl rfl) (pa_cons (pe_glob (v := .ref A.pWt.a) rfl T.pWt.gl rfl) pa_nil))))) (pg_name (i := 3) scPf.nd rfl (.inl rfl))
      (pss_cons (ps_set (i := 4) scPf.nd rfl (Or.inl rfl) (pe_callA (i := 3) (callS_ok T) hr rfl (.inl rfl) (pa_cons (pv 0) pa_nil)))
      (pss_one (ps_if (pt_cmpR op_notN (pv 4) pe_non (nomark _)) pss_never pss_nil))))
    (pss_one (ps_ret pe_non))), ?_⟩
  refine ⟨_, rfl, a, _, rfl, hT, for_enumT (K := K) (a := a) (xs := [.str sx]) (fun i σ H' => ∃ (p u : Option V), σ = [some (.ref a), p, u, none, none] ∧ Same H H')
    ⟨none, none, rfl, Same.refl H⟩ (fun i σ H' _ ⟨_, _, _, s1⟩ => sm_seqT s1 hT) ?_ ?_⟩
  · rintro i x σ H3 P hx ⟨p, u, rfl, s3⟩ hP
    obtain ⟨rfl, rfl⟩ := one_at hx
    refine ⟨P, _, rfl, SqT.of upd_same, rfl, _, _, rfl, _, _, rfl, ⟨rfl, ?_⟩⟩
    refine ⟨_, rfl, rfl, fun H4 s4 => ⟨_, rfl, iteF ?_⟩⟩
    exact ⟨_, _, rfl, (sm_upd s3 hP).trans s4⟩
  · rintro σ H3 ⟨p, u, rfl, s3⟩
    refine ⟨(by show 3 ≤ sizeLine; decide), fun q hq => ?_⟩
    have s4 := sm_upd (o := .tup [.ref A.pEnd.a, .ref A.pSec.a, .ref A.pWt.a]) s3 hq
    refine ⟨q, rfl, ⟨_, SqT.of upd_same⟩, for_tup (K := K) (a := q) (xs := [.ref A.pEnd.a, .ref A.pSec.a, .ref A.pWt.a]) (fun i σ H' => ∃ (y z : Option V), σ = [some (.ref a), p, u, y, z] ∧ Same H H' ∧ H' q = some (.tup [.ref A.pEnd.a, .ref A.pSec.a, .ref A.pWt.a]))
      ⟨none, none, rfl, s4, upd_same⟩ (fun i σ H' _ ⟨_, _, _, _, e⟩ => SqT.of e) ?_ ?_⟩
    · rintro i x σ H5 hx ⟨y, z, rfl, s5, e5⟩
      have ex : ∃ f, x = .ref f ∧ callS K A f = some (spNon K) := by
        match i, hx with
        | 0, hx => exact ⟨_, (Option.some.inj hx).symm, if_pos (.inl rfl)⟩
        | 1, hx => exact ⟨_, (Option.some.inj hx).symm, if_pos (.inr (.inl rfl))⟩
        | 2, hx => exact ⟨_, (Option.some.inj hx).symm, if_pos (.inr (.inr rfl))⟩
        | i + 3, hx => simp at hx
      obtain ⟨f, rfl, hf⟩ := ex
      refine ⟨f, _, rfl, hf, _, rfl, a, rfl, sm_seqT s5 hT, fun H6 s6 => ?_⟩
      exact ⟨_, rfl, rfl, _, rfl, iteF ⟨_, _, rfl, s5.trans s6, s6 _ _ e5⟩⟩
    · rintro σ H5 ⟨y, z, rfl, s5, _⟩
      exact k _ s5
theorem scPI : FnScope ["self", "words", "fault"] ["self", "words"] (defScope (inClass (top 31) 0)) := ⟨rfl, rfl, rfl, by decide +kernel, rfl, by decide +kernel, by decide +kernel⟩
theorem ok_pi (T : Txt K mg A) : FnOk pw w K mg base CX0 6 A.pI.a A.pI.d ["self", "words"] (spPI K A) := by
  obtain ⟨mt, hmost⟩ := T.mostP
  refine T.pI.fn.ok scPI (fun vs H Q E h => by obtain ⟨x, dx, a, rfl, _⟩ := h; rfl) (fun cdv Ar outer s H vs Q E hr h => ?_)
  obtain ⟨x, dx, a, rfl, hx, ha, k⟩ := h
  refine ⟨_, pss_cons (ps_if (PW.pt (pw_or (pt_not (pt_val (pe_callB call_isi (by rfl) T.isi PyProof.Rows.boot_isinstance (pa_cons (pv 1) (pa_cons (pe_bltn (v := .ty "tuple") (by rfl) T.tuple_ (by decide +kernel) rfl) pa_nil)))))
      (pw_or1 (pt_not (pt_chain op_le op_le pe_int (pe_callB call_len_seq (by rfl) T.len PySem.boot_len (pa_cons (pv 1) pa_nil)) (pe_glob (v := .int 1000) rfl hmost ⟨_, rfl⟩)))))) pss_never pss_nil)
    (pss_cons (ps_set (i := 2) scPI.nd rfl (Or.inl rfl) (pe_call (ok_pflt T) hr rfl T.pFlt.gl T.pFlt.fn.kp T.pFlt.bd .nil pass0 (pa_cons (pv 1) pa_nil)))
    (pss_cons (ps_if (pt_cmpR op_notN (pv 2) pe_non (nomark _)) pss_never pss_nil)
    (pss_one (ps_fld (pv 0) (pv 1) rfl)))), ?_⟩
  refine ⟨_, rfl, _, _, _, _, _, rfl, .ty "tuple", .base (.tup ha), kit_ty (r := true) (by decide +kernel), _, rfl, ?_⟩
  refine iteF ⟨_, rfl, a, _, rfl, .inr (SqT.of ha), _, _, rfl, rfl, true, rfl, ?_⟩
  refine iteT ⟨_, _, rfl, rfl, true, rfl, ?_⟩
  refine iteF ⟨_, rfl, a, rfl, SqT.of ha, fun H1 s1 => ?_⟩
  refine ⟨_, rfl, rfl, _, rfl, iteF ?_⟩
  refine ⟨_, rfl, _, rfl, x, A.pC, dx, [], rfl, s1 _ _ hx, T.kP.cl, T.kP.nW, (by show 0 < 1000; decide), ?_⟩
  exact k H1 s1
end
end Knd

set_option Elab.async false
set_option linter.all false
set_option maxRecDepth 100000
set_option maxHeartbeats 3000000
namespace Knd
open PySem PySem.Spec PyProof.Rows L2
/-! ### the pot, and what a draw leaves as it was -/
structure PotAt (H : Hp) (p g s : Addr) : Prop where
  ex : ∃ (gs ss : List Int) (t r : Int), H p = some (.lst [.ref g, .ref s, .int t, .int r]) ∧ H g = some (.lst (gs.map V.int)) ∧ H s = some (.lst (ss.map V.int)) ∧ ss ≠ []
  ne : g ≠ s
theorem no_ref {a : Addr} {l : List V} : ∀ {ns : List Int}, (V.ref a :: l) ≠ ns.map V.int
  | [], h => by cases h
  | n :: ns, h => by cases h
theorem PotAt.pg {H : Hp} {p g s : Addr} (h : PotAt H p g s) : p ≠ g := by
  obtain ⟨gs, ss, t, r, h1, h2, _⟩ := h.ex
  exact ne_of h1 h2 fun z => no_ref (HO.lst.inj z)
theorem PotAt.ps {H : Hp} {p g s : Addr} (h : PotAt H p g s) : p ≠ s := by
  obtain ⟨gs, ss, t, r, h1, _, h3, _⟩ := h.ex
  exact ne_of h1 h3 fun z => no_ref (HO.lst.inj z)
/-- all but the lists at p and g is as it was; these are lists still -/
structure Kp (p g : Addr) (H H' : Hp) : Prop where
  oth : ∀ b o, H b = some o → b ≠ p → b ≠ g → H' b = some o
  lp : ∀ xs, H p = some (.lst xs) → ∃ ys, H' p = some (.lst ys)
  lg : ∀ xs, H g = some (.lst xs) → ∃ ys, H' g = some (.lst ys)
theorem Kp.same {p g : Addr} {H H' : Hp} (s : Same H H') : Kp p g H H' := ⟨fun b o e _ _ => s b o e, fun xs e => ⟨xs, s _ _ e⟩, fun xs e => ⟨xs, s _ _ e⟩⟩
theorem Kp.refl {p g : Addr} (H : Hp) : Kp p g H H := Kp.same (Same.refl H)
theorem Kp.trans {p g : Addr} {H H1 H2 : Hp} (a : Kp p g H H1) (b : Kp p g H1 H2) : Kp p g H H2 :=
  ⟨fun c o e h1 h2 => b.oth c o (a.oth c o e h1 h2) h1 h2, fun xs e => let ⟨_, e1⟩ := a.lp xs e; b.lp _ e1, fun xs e => let ⟨_, e1⟩ := a.lg xs e; b.lg _ e1⟩
theorem Kp.new {p g : Addr} {H H' : Hp} {x : Addr} {o : HO} (k : Kp p g H H') (h : H' x = none) : Kp p g H (L2.upd H' x o) := k.trans (Kp.same (sm_upd (Same.refl H') h))
theorem Kp.tup {p g : Addr} {H H' : Hp} (k : Kp p g H H') {a : Addr} {xs : List V} (hp : ∃ ys, H p = some (.lst ys)) (hg : ∃ ys, H g = some (.lst ys)) (h : H a = some (.tup xs)) : H' a = some (.tup xs) := by
  refine k.oth a _ h ?_ ?_
  · intro z
    obtain ⟨ys, e⟩ := hp
    rw [z, e] at h
    cases h
  · intro z
    obtain ⟨ys, e⟩ := hg
    rw [z, e] at h
    cases h
theorem Kp.obk {A : Ads} {p g : Addr} {H H' : Hp} (k : Kp p g H H') {a : Addr} (hp : ∃ ys, H p = some (.lst ys)) (hg : ∃ ys, H g = some (.lst ys)) (h : Obk A H a) : Obk A H' a := by
  obtain ⟨yp, ep⟩ := hp
  obtain ⟨yg, eg⟩ := hg
  by_cases e1 : a = p
  · obtain ⟨ys, q⟩ := k.lp yp ep
    exact .lst (by rw [e1]; exact q)
  · by_cases e2 : a = g
    · obtain ⟨ys, q⟩ := k.lg yg eg
      exact .lst (by rw [e2]; exact q)
    · cases h with
      | lst q => exact .lst (k.oth _ _ q e1 e2)
      | tup q => exact .tup (k.oth _ _ q e1 e2)
      | dk q => exact .dk (k.oth _ _ q e1 e2)
      | kin q => exact .kin (k.oth _ _ q e1 e2)
      | pin q => exact .pin (k.oth _ _ q e1 e2)
theorem PotAt.lp {H : Hp} {p g s : Addr} (h : PotAt H p g s) : ∃ ys, H p = some (.lst ys) := let ⟨_, _, _, _, e, _⟩ := h.ex; ⟨_, e⟩
theorem PotAt.lg {H : Hp} {p g s : Addr} (h : PotAt H p g s) : ∃ ys, H g = some (.lst ys) := let ⟨_, _, _, _, _, e, _⟩ := h.ex; ⟨_, e⟩
theorem PotAt.itm {A : Ads} {p g s : Addr} {H H' : Hp} {v : V} (P : PotAt H p g s) (k : Kp p g H H') (h : Itm A H v) : Itm A H' v := by
  cases v with
  | ref a => exact k.obk P.lp P.lg h
  | _ => first | trivial | exact h
theorem PotAt.same {p g s : Addr} {H H' : Hp} (P : PotAt H p g s) (k : Same H H') : PotAt H' p g s := by
  obtain ⟨gs, ss, t, r, h1, h2, h3, h4⟩ := P.ex
  exact ⟨⟨gs, ss, t, r, k _ _ h1, k _ _ h2, k _ _ h3, h4⟩, P.ne⟩
/-- a list that is none of the pot's that change -/
theorem PotAt.off {p g s : Addr} {H : Hp} {x : Addr} (P : PotAt H p g s) (h : H x = none) : x ≠ p ∧ x ≠ g := by
  obtain ⟨_, ep⟩ := P.lp
  obtain ⟨_, eg⟩ := P.lg
  exact ⟨(ne_of_none ep h).symm, (ne_of_none eg h).symm⟩

/-! ### draws -/
def spDraw : Sp := fun vs H Q _ => ∃ (p g s : Addr) (m : Int), vs = [.ref p, .int m] ∧ PotAt H p g s ∧ 0 < m ∧ m.natAbs.log2 < 9000 ∧
  ∀ H' i, PotAt H' p g s → Kp p g H H' → 0 ≤ i → i < m → Q (.int i) H'
/-- an item of a list or a tuple, drawn -/
def spAny : Sp := fun vs H Q _ => ∃ (p g s l : Addr) (xs : List V), vs = [.ref p, .ref l] ∧ PotAt H p g s ∧ (H l = some (.lst xs) ∧ l ≠ p ∧ l ≠ g ∨ H l = some (.tup xs)) ∧ xs ≠ [] ∧ xs.length ≤ 100000 ∧
  ∀ H' v, PotAt H' p g s → Kp p g H H' → v ∈ xs → Q v H'
theorem log_small {n : Nat} (h : n ≤ 100000) : n.log2 < 9000 := by
  by_cases h0 : n = 0
  · subst h0; decide
  · exact Nat.lt_of_lt_of_le ((Nat.log2_lt h0).mpr (show n < 2 ^ 17 from Nat.lt_of_le_of_lt h (by decide))) (by decide : 17 ≤ 9000)
section
variable {w : World} {K : PySem.W.Frag} {mg : Str → Option Value} {base : Heap} {A : Ads}
theorem scDraw : FnScope ["_law_pot_here", "_law_many", "_law_turn", "_law_number", "_law_seed"] ["_law_pot_here", "_law_many"] (defScope (top 34)) := ⟨rfl, rfl, rfl, by decide +kernel, rfl, by decide +kernel, by decide +kernel⟩
theorem ok_draw (T : Txt K mg A) : FnOk pw w K mg base CX0 1 A.lDraw.a A.lDraw.d ["_law_pot_here", "_law_many"] spDraw := by
  refine T.lDraw.fn.ok scDraw (fun vs H Q E h => by obtain ⟨p, g, s, m, rfl, _⟩ := h; rfl) (fun cdv Ar outer s0 H vs Q E hr h => ?_)
  obtain ⟨p, g, s, m, rfl, P, hm, hlog, k⟩ := h
  obtain ⟨gs, ss, t, r, hp, hg, hs, hne⟩ := P.ex
  refine ⟨_, pss_cons (ps_set (i := 2) scDraw.nd rfl (Or.inl rfl) (pe_ix ix_list (pv 0) pe_int (fun _ _ => rfl)))
    (pss_cons (ps_asg (pe_op op_add (pv 2) pe_int) (pg_sub (pv 0) pe_int set_list))
    (pss_cons (ps_if (pt_cmpR op_gt (pe_callB call_len_seq (by rfl) T.len PySem.boot_len (pa_cons (pe_ix ix_list (pv 0) pe_int (fun _ _ => rfl)) pa_nil)) pe_int (nomark _))
        (pss_cons (ps_set (i := 3) scDraw.nd rfl (Or.inl rfl) (pe_ix ix_list (pe_ix ix_list (pv 0) pe_int (fun _ _ => rfl)) pe_int (fun _ _ => rfl)))
        (pss_cons (ps_asg (pe_op op_fdivW (pv 3) (pv 1)) (pg_sub (pe_ix ix_list (pv 0) pe_int (fun _ _ => rfl)) pe_int set_list))
        (pss_cons (ps_if (pt_cmpR op_lt (pv 3) (pv 1) (nomark _)) (pss_one (ps_expr (pe_bm PySem.F.plainAttrs_list PySem.F.slot_list_pop PySem.F.type_list_pop mt_popAt (pe_ix ix_list (pv 0) pe_int (fun _ _ => rfl)) (pa_cons pe_int pa_nil)))) pss_nil)
        (pss_one (ps_ret (pe_op op_mod (pe_callTy call_int1 (by rfl) T.int_ PyProof.Rows.boot_int (pa_cons (pv 3) pa_nil)) (pv 1))))))) pss_nil)
    (pss_cons (ps_set (i := 4) scDraw.nd rfl (Or.inl rfl) (pe_op op_add (pe_op op_add
        (pe_op op_mul (pe_ix ix_list (pe_ix ix_list (pv 0) pe_int (fun _ _ => rfl)) (pe_op op_mod (pe_callTy call_int1 (by rfl) T.int_ PyProof.Rows.boot_int (pa_cons (pv 2) pa_nil)) (pe_callB call_len_seq (by rfl) T.len PySem.boot_len (pa_cons (pe_ix ix_list (pv 0) pe_int (fun _ _ => rfl)) pa_nil))) (fun _ _ => rfl)) pe_int)
        (pe_op op_mul pe_int (pv 2))) (pe_op op_mul (pe_ix ix_list (pv 0) pe_int (fun _ _ => rfl)) pe_int)))
    (pss_cons (ps_set (i := 3) scDraw.nd rfl (Or.inl rfl) (pe_op op_mod (pe_callTy call_int1 (by rfl) T.int_ PyProof.Rows.boot_int (pa_cons (pe_op op_add (pe_op op_mul (pv 4) pe_int) pe_int) pa_nil)) pe_int))
    (pss_cons (ps_set (i := 3) scDraw.nd rfl (Or.inl rfl) (pe_op op_mod (pe_callTy call_int1 (by rfl) T.int_ PyProof.Rows.boot_int (pa_cons (pe_op op_mul (pv 3) (pe_op op_add (pe_op op_fdiv (pv 3) pe_int) pe_int)) pa_nil)) pe_int))
    (pss_cons (ps_set (i := 3) scDraw.nd rfl (Or.inl rfl) (pe_op op_mod (pe_callTy call_int1 (by rfl) T.int_ PyProof.Rows.boot_int (pa_cons (pe_op op_add (pe_op op_mul (pv 3) (pe_op op_add (pe_op op_fdiv (pv 3) pe_int) pe_int)) (pv 2)) pa_nil)) pe_int))
    (pss_one (ps_ret (pe_op op_mod (pe_callTy call_int1 (by rfl) T.int_ PyProof.Rows.boot_int (pa_cons (pe_op op_fdiv (pv 3) pe_int) pa_nil)) (pv 1)))))))))), ?_⟩
  have npg := P.pg
  have nps := P.ps
  -- turn = pot[2]; pot[2] = turn + 1
  refine ⟨_, rfl, p, _, _, _, rfl, rfl, SqL.of hp, atI_nat (j := 2) (v := .int t) rfl, ?_⟩
  refine ⟨_, rfl, _, _, rfl, rfl, _, rfl, p, _, _, 2, rfl, rfl, hp, (by rfl), ?_⟩
  obtain ⟨H1, eH1⟩ : ∃ H1 : Hp, H1 = L2.upd H p (.lst (([.ref g, .ref s, .int t, .int r] : List V).set 2 (.int (t + 1)))) := ⟨_, rfl⟩
  rw [← eH1]
  have hp1 : H1 p = some (.lst [.ref g, .ref s, .int (t + 1), .int r]) := by rw [eH1, upd_same]; rfl
  have hg1 : H1 g = some (.lst (gs.map V.int)) := by rw [eH1, upd_ne npg.symm]; exact hg
  have hs1 : H1 s = some (.lst (ss.map V.int)) := by rw [eH1, upd_ne nps.symm]; exact hs
  have K1 : Kp p g H H1 := ⟨fun b o e h1 h2 => by rw [eH1, upd_ne h1]; exact e, fun xs e => ⟨_, hp1⟩, fun xs e => ⟨_, hg1⟩⟩
  refine ⟨_, rfl, p, _, _, _, rfl, rfl, SqL.of hp1, atI_nat (j := 0) (v := .ref g) rfl, g, _, rfl, .inl (SqL.of hg1), _, _, rfl, rfl, _, rfl, ?_⟩
  cases gs with
  | cons n gs =>
    have c : decide ((0 : Int) < (((n :: gs).map V.int).length : Int)) = true := decide_eq_true (by rw [List.length_map, List.length_cons]; omega)
    rw [c]
    refine iteT ?_
    refine ⟨_, rfl, p, _, _, _, rfl, rfl, SqL.of hp1, atI_nat (j := 0) (v := .ref g) rfl, g, _, _, _, rfl, rfl, SqL.of hg1, atI_nat (j := 0) (v := .int n) rfl, ?_⟩
    refine ⟨_, rfl, _, rfl, _, _, rfl, rfl, ⟨hm, hlog⟩, _, rfl, p, _, _, _, rfl, rfl, SqL.of hp1, atI_nat (j := 0) (v := .ref g) rfl, g, _, _, 0, rfl, rfl, hg1, (by
      show ixN ((n :: gs).map V.int).length 0 = some 0
      unfold ixN
      rw [if_pos (by decide), if_pos (by rw [List.length_map, List.length_cons]; omega)]
      rfl), ?_⟩
    obtain ⟨H2, eH2⟩ : ∃ H2 : Hp, H2 = L2.upd H1 g (.lst (((n :: gs).map V.int).set 0 (.int (n / m)))) := ⟨_, rfl⟩
    rw [← eH2]
    have hp2 : H2 p = some (.lst [.ref g, .ref s, .int (t + 1), .int r]) := by rw [eH2, upd_ne npg]; exact hp1
    have hg2 : H2 g = some (.lst (((n / m) :: gs).map V.int)) := by rw [eH2, upd_same]; rfl
    have hs2 : H2 s = some (.lst (ss.map V.int)) := by rw [eH2, upd_ne P.ne.symm]; exact hs1
    have K2 : Kp p g H H2 := K1.trans ⟨fun b o e h1 h2 => by rw [eH2, upd_ne h2]; exact e, fun xs e => ⟨_, hp2⟩, fun xs e => ⟨_, hg2⟩⟩
    have P2 : PotAt H2 p g s := ⟨⟨_, _, _, _, hp2, hg2, hs2, hne⟩, P.ne⟩
    have m1 : 0 ≤ n % m := Int.emod_nonneg _ (by omega)
    have m2 : n % m < m := Int.emod_lt_of_pos _ hm
    refine ⟨_, rfl, _, rfl, _, _, rfl, rfl, _, rfl, ?_⟩
    by_cases c2 : n < m
    · rw [decide_eq_true c2]
      refine iteT ⟨_, rfl, p, _, _, _, rfl, rfl, SqL.of hp2, atI_nat (j := 0) (v := .ref g) rfl, (by exact Or.inl ⟨rfl, _, SqL.of hg2⟩), g, _, 0, 0, .int (n / m), rfl, rfl, hg2, by decide, by decide, (by
        rw [PySem.StrLaws.seqIndex_nonneg (by decide) (by rw [List.length_map, List.length_cons]; omega)]
        rfl), rfl, ?_⟩
      obtain ⟨H3, eH3⟩ : ∃ H3 : Hp, H3 = L2.upd H2 g (.lst ((((n / m) :: gs).map V.int).eraseIdx 0)) := ⟨_, rfl⟩
      rw [← eH3]
      have hp3 : H3 p = some (.lst [.ref g, .ref s, .int (t + 1), .int r]) := by rw [eH3, upd_ne npg]; exact hp2
      have hg3 : H3 g = some (.lst (gs.map V.int)) := by rw [eH3, upd_same]; rfl
      have hs3 : H3 s = some (.lst (ss.map V.int)) := by rw [eH3, upd_ne P.ne.symm]; exact hs2
      have K3 : Kp p g H H3 := K2.trans ⟨fun b o e h1 h2 => by rw [eH3, upd_ne h2]; exact e, fun xs e => ⟨_, hp3⟩, fun xs e => ⟨_, hg3⟩⟩
      refine ⟨_, rfl, .inl ⟨_, rfl, _, rfl, _, _, rfl, rfl, hm, ?_⟩⟩
      exact k H3 _ ⟨⟨_, _, _, _, hp3, hg3, hs3, hne⟩, P.ne⟩ K3 m1 m2
    · rw [decide_eq_false c2]
      refine iteF ⟨_, rfl, .inl ⟨_, rfl, _, rfl, _, _, rfl, rfl, hm, ?_⟩⟩
      exact k H2 _ P2 K2 m1 m2
  | nil =>
    refine iteF ?_
    have P1 : PotAt H1 p g s := ⟨⟨_, _, _, _, hp1, hg1, hs1, hne⟩, P.ne⟩
    have hl : (0 : Int) < ((ss.map V.int).length : Int) := by
      rw [List.length_map]
      cases ss with
      | nil => exact absurd rfl hne
      | cons a b => rw [List.length_cons]; omega
    have i1 : 0 ≤ t % ((ss.map V.int).length : Int) := Int.emod_nonneg _ (by omega)
    have i2 : t % ((ss.map V.int).length : Int) < ((ss.map V.int).length : Int) := Int.emod_lt_of_pos _ hl
    obtain ⟨j, ej⟩ : ∃ j : Nat, t % ((ss.map V.int).length : Int) = (j : Int) := ⟨(t % ((ss.map V.int).length : Int)).toNat, by omega⟩
    have hj : j < ss.length := by
      rw [List.length_map] at i2 ej
      omega
    obtain ⟨z, hz⟩ : ∃ z, ss[j]? = some z := ⟨ss[j], List.getElem?_eq_getElem hj⟩
    have hat : atI (ss.map V.int) (t % ((ss.map V.int).length : Int)) = some (.int z) := by
      rw [ej]
      exact atI_nat (by rw [List.getElem?_map, hz]; rfl)
    refine ⟨_, rfl, p, _, _, _, rfl, rfl, SqL.of hp1, atI_nat (j := 1) (v := .ref s) rfl, ?_⟩
    refine ⟨_, rfl, .inl ⟨_, rfl, _, rfl, p, _, _, _, rfl, rfl, SqL.of hp1, atI_nat (j := 1) (v := .ref s) rfl, s, _, rfl, .inl (SqL.of hs1), _, _, rfl, rfl, hl, ?_⟩⟩
    refine ⟨s, _, _, _, rfl, rfl, SqL.of hs1, hat, _, _, rfl, rfl, .inr ⟨by decide, by decide⟩, ?_⟩
    refine ⟨_, rfl, _, _, rfl, rfl, .inl ⟨by decide, by decide⟩, _, _, rfl, rfl, ?_⟩
    refine ⟨_, rfl, p, _, _, _, rfl, rfl, SqL.of hp1, atI_nat (j := 3) (v := .int r) rfl, _, _, rfl, rfl, .inr ⟨by decide, by decide⟩, _, _, rfl, rfl, ?_⟩
    -- number = int(seed * 48271 + 11) % 2147483647
    refine ⟨_, rfl, _, _, rfl, rfl, .inr ⟨by decide, by decide⟩, _, _, rfl, rfl, .inl ⟨_, rfl, _, _, rfl, rfl, (by show (0 : Int) < 2147483647; decide), ?_⟩⟩
    refine ⟨_, rfl, _, rfl, _, _, rfl, rfl, ⟨by decide, by decide⟩, _, _, rfl, rfl, _, _, rfl, rfl, .inl ⟨by omega, by omega⟩, .inl ⟨_, rfl, _, _, rfl, rfl, (by show (0 : Int) < 2147483629; decide), ?_⟩⟩
    refine ⟨_, rfl, _, rfl, _, _, rfl, rfl, ⟨by decide, by decide⟩, _, _, rfl, rfl, _, _, rfl, rfl, .inl ⟨by omega, by omega⟩, _, rfl, _, _, rfl, rfl, .inl ⟨_, rfl, _, _, rfl, rfl, (by show (0 : Int) < 2147483399; decide), ?_⟩⟩
    refine ⟨_, rfl, _, _, rfl, rfl, ⟨by decide, by decide⟩, .inl ⟨_, rfl, _, rfl, _, _, rfl, rfl, hm, ?_⟩⟩
    exact k H1 _ P1 K1 (Int.emod_nonneg _ (by omega)) (Int.emod_lt_of_pos _ hm)
theorem scAny : FnScope ["_law_pot_here", "_law_items"] ["_law_pot_here", "_law_items"] (defScope (top 35)) := ⟨rfl, rfl, rfl, by decide +kernel, rfl, by decide +kernel, by decide +kernel⟩
theorem ok_any (T : Txt K mg A) : FnOk pw w K mg base CX0 2 A.lAny.a A.lAny.d ["_law_pot_here", "_law_items"] spAny := by
  refine T.lAny.fn.ok scAny (fun vs H Q E h => by obtain ⟨p, g, s, l, xs, rfl, _⟩ := h; rfl) (fun cdv Ar outer s0 H vs Q E hr h => ?_)
  obtain ⟨p, g, s, l, xs, rfl, P, hl, hne, hlen, k⟩ := h
  refine ⟨_, pss_one (ps_ret (pe_ix ix_seq (pv 1) (pe_call (ok_draw T) hr rfl T.lDraw.gl T.lDraw.fn.kp T.lDraw.bd .nil pass0 (pa_cons (pv 0) (pa_cons (pe_callB call_len_seq (by rfl) T.len PySem.boot_len (pa_cons (pv 1) pa_nil)) pa_nil))) (fun _ _ => rfl))), ?_⟩
  have h1 : SqL K H l xs ∨ SqT K H l xs := hl.imp (fun z => SqL.of z.1) SqT.of
  have h0 : (0 : Int) < (xs.length : Int) := by
    cases xs with
    | nil => exact absurd rfl hne
    | cons a b => rw [List.length_cons]; omega
  refine ⟨_, rfl, _, rfl, _, rfl, l, xs, rfl, h1, p, g, s, _, rfl, P, h0, (by rw [Int.natAbs_natCast]; exact log_small hlen), fun H1 i P1 K1 i0 i1 => ?_⟩
  obtain ⟨j, rfl⟩ : ∃ j : Nat, i = (j : Int) := ⟨i.toNat, by omega⟩
  have hj : j < xs.length := by omega
  have hx : xs[j]? = some xs[j] := List.getElem?_eq_getElem hj
  have fin : Q xs[j] H1 := k H1 _ P1 K1 (List.getElem_mem hj)
  rcases hl with ⟨z, n1, n2⟩ | z
  · exact .inl ⟨l, xs, _, _, rfl, rfl, SqL.of (K1.oth _ _ z n1 n2), atI_nat hx, fin⟩
  · exact .inr (.inl ⟨l, xs, _, _, rfl, rfl, SqT.of (K1.tup P.lp P.lg z), atI_nat hx, fin⟩)
end
end Knd

set_option Elab.async false
set_option linter.all false
set_option maxRecDepth 100000
set_option maxHeartbeats 3000000
namespace Knd
open PySem PySem.Spec PyProof.Rows L2
/-- a stronger promise -/
theorem pe_weak {X : Cx} {e : Expr} {t t' : TE} (h : PE X e t) (i : ∀ σ H Q, t' σ H Q → t σ H Q) : PE X e t' := ⟨fun pins s σ H Q I q => h.run pins s σ H Q I (i σ H Q q)⟩
theorem Kp.put {p g : Addr} {H H' : Hp} {x : Addr} {o : HO} (k : Kp p g H H') (hx : H x = none) : Kp p g H (L2.upd H' x o) := by
  refine ⟨fun b u e h1 h2 => ?_, fun xs e => ?_, fun xs e => ?_⟩
  · rw [upd_ne (ne_of_none e hx)]; exact k.oth b u e h1 h2
  · rw [upd_ne (ne_of_none e hx)]; exact k.lp xs e
  · rw [upd_ne (ne_of_none e hx)]; exact k.lg xs e
theorem PotAt.put {p g s : Addr} {H H' : Hp} {x : Addr} {o : HO} (P0 : PotAt H p g s) (hx : H x = none) (P : PotAt H' p g s) : PotAt (L2.upd H' x o) p g s := by
  obtain ⟨_, _, _, _, a1, a2, a3, _⟩ := P0.ex
  obtain ⟨gs, ss, t, r, b1, b2, b3, b4⟩ := P.ex
  exact ⟨⟨gs, ss, t, r, by rw [upd_ne (ne_of_none a1 hx)]; exact b1, by rw [upd_ne (ne_of_none a2 hx)]; exact b2, by rw [upd_ne (ne_of_none a3 hx)]; exact b3, b4⟩, P.ne⟩
def work : List Int → Int
  | [] => 0
  | m :: r => (2 * m - 1) + work r
theorem work_app : ∀ {a b : List Int}, work (a ++ b) = work a + work b
  | [], b => by rw [List.nil_append]; show work b = 0 + work b; omega
  | m :: r, b => by
    have e := work_app (a := r) (b := b)
    show (2 * m - 1) + work (r ++ b) = (2 * m - 1) + work r + work b
    omega
theorem work_nn : ∀ {a : List Int}, (∀ m ∈ a, 1 ≤ m ∧ m ≤ 2001) → 0 ≤ work a
  | [], _ => Int.le_refl 0
  | m :: r, h => by
    have e := work_nn (a := r) fun x hx => h x (List.mem_cons_of_mem _ hx)
    have z := h m List.mem_cons_self
    show 0 ≤ (2 * m - 1) + work r
    omega
theorem last_of {α : Type} : ∀ {a : List α}, a ≠ [] → ∃ b x, a = b ++ [x]
  | [], h => absurd rfl h
  | a, h => ⟨a.dropLast, a.getLast h, (List.dropLast_concat_getLast h).symm⟩
def spShape : Sp := fun vs H Q _ => ∃ (p g s : Addr) (n way : Int), vs = [.ref p, .int n, .int way] ∧ PotAt H p g s ∧ 1 ≤ n ∧ n ≤ 2001 ∧
  ∀ H' l xs, PotAt H' p g s → Kp p g H H' → H l = none → H' l = some (.lst xs) → (∀ x ∈ xs, x = .non ∨ x = .str arr) → (xs.length : Int) = 2 * n - 1 → Q (.ref l) H'
def tCut : TE := fun σ H Q => ∃ (p g s : Addr) (way m : Int) (n a b c d : Option V), σ = [some (.ref p), n, some (.int way), a, b, c, some (.int m), d] ∧ PotAt H p g s ∧ 1 < m ∧ m ≤ 2001 ∧
  ∀ H' i, PotAt H' p g s → Kp p g H H' → 1 ≤ i → i < m → Q (.int i) H'
def spKind : Sp := fun vs H Q _ => ∃ (p g s l : Addr) (n : Int) (ls : List V), vs = [.ref p, .int n, .ref l] ∧ PotAt H p g s ∧ 1 ≤ n ∧ n ≤ 2001 ∧ H l = some (.lst ls) ∧ l ≠ p ∧ l ≠ g ∧ ls ≠ [] ∧ ls.length ≤ 100000 ∧
  (∀ x ∈ ls, okW x = true) ∧ ∀ H' a xs, PotAt H' p g s → Kp p g H H' → H a = none → H' a = some (.tup xs) → (∀ x ∈ xs, okW x = true) → 1 ≤ xs.length → xs.length ≤ 4001 → Q (.ref a) H'
def tPick : TE := fun σ H Q => ∃ (p g s l : Addr) (ls : List V) (x : V) (n f : Option V), σ = [some (.ref p), n, some (.ref l), f, some x] ∧ PotAt H p g s ∧ H l = some (.lst ls) ∧ l ≠ p ∧ l ≠ g ∧ ls ≠ [] ∧ ls.length ≤ 100000 ∧
  (∀ x ∈ ls, okW x = true) ∧ (x = .non ∨ x = .str arr) ∧ ∀ H' v, PotAt H' p g s → Kp p g H H' → okW v = true → Q v H'
theorem dec_t {α : Type} [DecidableEq α] {a b : α} (h : a = b) : decide (a = b) = true := decide_eq_true h
section
variable {w : World} {K : PySem.W.Frag} {mg : Str → Option Value} {base : Heap} {A : Ads}
theorem scShape : FnScope ["_law_pot_here", "_law_leaves", "_law_way", "_law_found", "_law_waiting", "_law_turn", "_law_many", "_law_cut"] ["_law_pot_here", "_law_leaves", "_law_way"] (defScope (top 36)) := ⟨rfl, rfl, rfl, by decide +kernel, rfl, by decide +kernel, by decide +kernel⟩
theorem ok_shape (T : Txt K mg A) : FnOk pw w K mg base CX0 2 A.lShape.a A.lShape.d ["_law_pot_here", "_law_leaves", "_law_way"] spShape := by
  refine T.lShape.fn.ok scShape (fun vs H Q E h => by obtain ⟨p, g, s, n, way, rfl, _⟩ := h; rfl) (fun cdv Ar outer s0 H vs Q E hr h => ?_)
  obtain ⟨p, g, s, n, way, rfl, P, n1, n2, k⟩ := h
  refine ⟨_, pss_cons (ps_set (i := 3) scShape.nd rfl (Or.inl rfl) (pe_lst pa_nil))
    (pss_cons (ps_set (i := 4) scShape.nd rfl (Or.inl rfl) (pe_lst (pa_cons (pv 1) pa_nil)))
    (pss_cons (ps_for PassesOwn.never rfl (pi_range1 rfl T.range (pa_cons (pe_op op_sub (pe_op op_mul pe_int (pv 1)) pe_int) pa_nil)) (pg_name (i := 5) scShape.nd rfl (.inl rfl))
      (pss_cons (ps_set (i := 6) scShape.nd rfl (Or.inl rfl) (pe_bm0 PySem.F.plainAttrs_list PySem.F.slot_list_pop PySem.F.type_list_pop mt_pop (pv 4)))
      (pss_one (ps_if (pt_cmpR op_eq (pv 6) pe_int (nomark _))
        (pss_one (ps_expr (pe_bm PySem.F.plainAttrs_list PySem.F.slot_list_append PySem.F.type_list_append mt_append (pv 3) (pa_cons pe_non pa_nil))))
        (pss_cons (ps_set (i := 7) scShape.nd rfl (Or.inl rfl) (pe_weak (t' := tCut) (pe_ifExp (pt_cmpR op_eq (pv 2) pe_int (nomark _))
            (pe_op op_add pe_int (pe_call (ok_draw T) hr rfl T.lDraw.gl T.lDraw.fn.kp T.lDraw.bd .nil pass0 (pa_cons (pv 0) (pa_cons (pe_op op_sub (pv 6) pe_int) pa_nil))))
            (pe_ifExp (pt_cmpR op_eq (pv 2) pe_int (nomark _)) pe_int (pe_op op_sub (pv 6) pe_int))) ?w))
        (pss_cons (ps_expr (pe_bm PySem.F.plainAttrs_list PySem.F.slot_list_append PySem.F.type_list_append mt_append (pv 3) (pa_cons pe_str pa_nil)))
        (pss_cons (ps_expr (pe_bm PySem.F.plainAttrs_list PySem.F.slot_list_append PySem.F.type_list_append mt_append (pv 4) (pa_cons (pe_op op_sub (pv 6) (pv 7)) pa_nil)))
        (pss_one (ps_expr (pe_bm PySem.F.plainAttrs_list PySem.F.slot_list_append PySem.F.type_list_append mt_append (pv 4) (pa_cons (pv 7) pa_nil)))))))))))
    (pss_one (ps_ret (pv 3))))), ?_⟩
  case w =>
    rintro σ H Q ⟨p, g, s, way, m, n, a, b, c, d, rfl, P, m1, m2, k⟩
    refine ⟨_, rfl, rfl, _, rfl, ?_⟩
    by_cases c0 : way = 0
    · rw [dec_t (congrArg V.int c0)]
      refine iteT ⟨_, rfl, _, rfl, _, _, rfl, rfl, p, g, s, m - 1, rfl, P, by omega, log_small (by omega), fun H' i P' K' i0 i1 => ?_⟩
      exact ⟨_, _, rfl, rfl, k H' _ P' K' (by omega) (by omega)⟩
    · rw [decide_eq_false (fun z => c0 (V.int.inj z))]
      refine iteF ⟨_, rfl, rfl, _, rfl, ?_⟩
      by_cases c1 : way = 1
      · rw [dec_t (congrArg V.int c1)]
        exact iteT (k H _ P (Kp.refl H) (by omega) (by omega))
      · rw [decide_eq_false (fun z => c1 (V.int.inj z))]
        exact iteF ⟨_, rfl, _, _, rfl, rfl, k H _ P (Kp.refl H) (by omega) (by omega)⟩
  refine ⟨(by show 0 ≤ sizeLine; decide), fun l1 h1 => ?_⟩
  refine ⟨_, rfl, (by show 1 ≤ sizeLine; decide), fun l2 h2 => ?_⟩
  obtain ⟨H2, eH2⟩ : ∃ H2 : Hp, H2 = upd (upd H l1 (.lst [])) l2 (.lst [.int n]) := ⟨_, rfl⟩
  rw [← eH2]
  have n12 : l1 ≠ l2 := ne_of_none upd_same h2
  have f2 : H l2 = none := (sm_upd (o := .lst []) (Same.refl H) h1).free h2
  have K2 : Kp p g H H2 := by rw [eH2]; exact ((Kp.refl H).put h1).put f2
  have P2 : PotAt H2 p g s := by rw [eH2]; exact P.put f2 (P.put h1 P)
  have e1 : H2 l1 = some (.lst []) := by rw [eH2, upd_ne n12, upd_same]
  have e2 : H2 l2 = some (.lst [.int n]) := by rw [eH2, upd_same]
  refine ⟨_, rfl, _, _, rfl, rfl, .inl ⟨by decide, by decide⟩, _, _, rfl, rfl, _, rfl, by omega, by omega, ?_⟩
  refine for_range (lo := 0) (n := (2 * n - 1).toNat) (fun i σ H' => ∃ (t m c : Option V) (xs : List V) (ms : List Int), σ = [some (.ref p), some (.int n), some (.int way), some (.ref l1), some (.ref l2), t, m, c] ∧ PotAt H' p g s ∧ Kp p g H H' ∧
    H' l1 = some (.lst xs) ∧ H' l2 = some (.lst (ms.map V.int)) ∧ (∀ x ∈ xs, x = .non ∨ x = .str arr) ∧ xs.length = i ∧ (∀ m ∈ ms, 1 ≤ m ∧ m ≤ 2001) ∧ work ms + i = 2 * n - 1)
    ⟨none, none, none, [], [n], rfl, P2, K2, e1, e2, (fun x hx => by cases hx), rfl, (fun m hm => by cases List.mem_singleton.mp hm; exact ⟨n1, n2⟩), (by show (2 * n - 1) + 0 + 0 = 2 * n - 1; omega)⟩ ?_ ?_
  · rintro i σ H3 hi ⟨t, m, c, xs, ms, rfl, P3, K3, a1, a2, hxs, hlen, hms, hw⟩
    have hne : ms ≠ [] := fun z => by
      subst z
      have : (0 : Int) + (i : Int) = 2 * n - 1 := hw
      omega
    obtain ⟨ms', mm, rfl⟩ := last_of hne
    have hmm := hms mm (List.mem_append_right _ List.mem_cons_self)
    have hms' : ∀ m ∈ ms', 1 ≤ m ∧ m ≤ 2001 := fun x hx => hms x (List.mem_append_left _ hx)
    have hw' : work ms' + (2 * mm - 1) + i = 2 * n - 1 := by
      rw [work_app] at hw
      have : work [mm] = (2 * mm - 1) + 0 := rfl
      omega
    have a2' : H3 l2 = some (.lst (ms'.map V.int ++ [V.int mm])) := by rw [a2, List.map_append]; rfl
    refine ⟨_, rfl, .inl ⟨rfl, _, SqL.of a2'⟩, l2, _, .int mm, rfl, rfl, a2', (by simp), ?_⟩
    rw [List.dropLast_concat]
    obtain ⟨H4, eH4⟩ : ∃ H4 : Hp, H4 = upd H3 l2 (.lst (ms'.map V.int)) := ⟨_, rfl⟩
    rw [← eH4]
    have P4 : PotAt H4 p g s := by rw [eH4]; exact P.put f2 P3
    have K4 : Kp p g H H4 := by rw [eH4]; exact K3.put f2
    have b1 : H4 l1 = some (.lst xs) := by rw [eH4, upd_ne n12]; exact a1
    have b2 : H4 l2 = some (.lst (ms'.map V.int)) := by rw [eH4, upd_same]
    have hsz : xs.length < sizeLine := by
      have : (4002 : Nat) < sizeLine := by decide
      omega
    have hsm : ms'.length < 4002 := by
      have z : ∀ {a : List Int}, (∀ m ∈ a, 1 ≤ m ∧ m ≤ 2001) → (a.length : Int) ≤ work a := by
        intro a
        induction a with
        | nil => intro _; exact Int.le_refl 0
        | cons x r ih =>
          intro h
          have e := ih fun y hy => h y (List.mem_cons_of_mem _ hy)
          have e2 := h x List.mem_cons_self
          show ((r.length + 1 : Nat) : Int) ≤ (2 * x - 1) + work r
          omega
      have := z hms'
      omega
    have hsl : (4004 : Nat) < sizeLine := by decide
    refine ⟨_, rfl, rfl, _, rfl, ?_⟩
    by_cases c0 : mm = 1
    · rw [dec_t (congrArg V.int c0)]
      refine iteT ⟨_, rfl, .inl ⟨rfl, _, SqL.of b1⟩, l1, xs, .non, rfl, rfl, b1, hsz, ?_⟩
      refine ⟨_, _, _, xs ++ [.non], ms', rfl, P.put h1 P4, K4.put h1, upd_same, by rw [upd_ne n12.symm]; exact b2, ?_, by simp [hlen], hms', by omega⟩
      intro x hx
      rcases List.mem_append.mp hx with q | q
      · exact hxs x q
      · exact .inl (List.mem_singleton.mp q)
    · rw [decide_eq_false (fun z => c0 (V.int.inj z))]
      refine iteF ⟨p, g, s, way, mm, _, _, _, _, _, rfl, P4, by omega, hmm.2, fun H5 cut P5 K45 q1 q2 => ?_⟩
      have o1 := P.off h1
      have o2 := P.off f2
      have K5 := K4.trans K45
      have d1 : H5 l1 = some (.lst xs) := K45.oth _ _ b1 o1.1 o1.2
      have d2 : H5 l2 = some (.lst (ms'.map V.int)) := K45.oth _ _ b2 o2.1 o2.2
      refine ⟨_, rfl, .inl ⟨rfl, _, SqL.of d1⟩, l1, xs, .str arr, rfl, rfl, d1, hsz, ?_⟩
      obtain ⟨H6, eH6⟩ : ∃ H6 : Hp, H6 = upd H5 l1 (.lst (xs ++ [.str arr])) := ⟨_, rfl⟩
      rw [← eH6]
      have g1 : H6 l1 = some (.lst (xs ++ [.str arr])) := by rw [eH6, upd_same]
      have g2 : H6 l2 = some (.lst (ms'.map V.int)) := by rw [eH6, upd_ne n12.symm]; exact d2
      have P6 : PotAt H6 p g s := by rw [eH6]; exact P.put h1 P5
      have K6 : Kp p g H H6 := by rw [eH6]; exact K5.put h1
      refine ⟨_, rfl, .inl ⟨rfl, _, SqL.of g2⟩, _, rfl, _, rfl, _, _, rfl, rfl, l2, _, _, rfl, rfl, g2, (by rw [List.length_map]; omega), ?_⟩
      refine ⟨_, rfl, .inl ⟨rfl, _, SqL.of upd_same⟩, _, rfl, l2, _, _, rfl, rfl, upd_same, (by rw [List.length_append, List.length_map]; show ms'.length + 1 < _; omega), ?_⟩
      refine ⟨_, _, _, xs ++ [.str arr], ms' ++ [mm - cut, cut], rfl, P.put f2 (P.put f2 P6), (K6.put f2).put f2, by rw [upd_ne n12, upd_ne n12]; exact g1, by rw [upd_same]; simp, ?_, by simp [hlen], ?_, ?_⟩
      · intro x hx
        rcases List.mem_append.mp hx with q | q
        · exact hxs x q
        · exact .inr (List.mem_singleton.mp q)
      · intro x hx
        rcases List.mem_append.mp hx with q | q
        · exact hms' x q
        · rcases List.mem_cons.mp q with rfl | q
          · omega
          · cases List.mem_singleton.mp q
            omega
      · rw [work_app]
        have : work [mm - cut, cut] = (2 * (mm - cut) - 1) + ((2 * cut - 1) + 0) := rfl
        omega
  · rintro σ H3 ⟨t, m, c, xs, ms, rfl, P3, K3, a1, a2, hxs, hlen, hms, hw⟩
    exact ⟨_, rfl, k H3 l1 xs P3 K3 h1 a1 hxs (by omega)⟩
end
end Knd

set_option Elab.async false
set_option linter.all false
set_option maxRecDepth 100000
set_option maxHeartbeats 3000000
namespace Knd
open PySem PySem.Spec PyProof.Rows L2
section
variable {w : World} {K : PySem.W.Frag} {mg : Str → Option Value} {base : Heap} {A : Ads}
theorem scKind : FnScope ["_law_pot_here", "_law_leaves", "_law_letters", "_law_found", "_law_word"] ["_law_pot_here", "_law_leaves", "_law_letters"] (defScope (top 37)) := ⟨rfl, rfl, rfl, by decide +kernel, rfl, by decide +kernel, by decide +kernel⟩
theorem ok_kind (T : Txt K mg A) : FnOk pw w K mg base CX0 3 A.lKind.a A.lKind.d ["_law_pot_here", "_law_leaves", "_law_letters"] spKind := by
  refine T.lKind.fn.ok scKind (fun vs H Q E h => by obtain ⟨p, g, s, l, n, ls, rfl, _⟩ := h; rfl) (fun cdv Ar outer s0 H vs Q E hr h => ?_)
  obtain ⟨p, g, s, l, n, ls, rfl, P, n1, n2, hl, lp, lg, hne, hll, hok, k⟩ := h
  have hr1 : Room 1 _ := hr.mono (by decide)
  refine ⟨_, pss_cons (ps_set (i := 3) scKind.nd rfl (Or.inl rfl) (pe_lst pa_nil))
    (pss_cons (ps_for PassesOwn.never rfl (pi_list (pe_call (ok_shape T) hr rfl T.lShape.gl T.lShape.fn.kp T.lShape.bd .nil pass0 (pa_cons (pv 0) (pa_cons (pv 1) (pa_cons
          (pe_callB (call_max2 (by rfl)) (by rfl) T.max_ (by decide +kernel) (pa_cons pe_int (pa_cons (pe_op op_sub (pe_call (ok_draw T) hr1 rfl T.lDraw.gl T.lDraw.fn.kp T.lDraw.bd .nil pass0 (pa_cons (pv 0) (pa_cons pe_int pa_nil))) pe_int) pa_nil))) pa_nil)))))
        (pg_name (i := 4) scKind.nd rfl (.inl rfl))
      (pss_one (ps_expr (pe_bm PySem.F.plainAttrs_list PySem.F.slot_list_append PySem.F.type_list_append mt_append (pv 3) (pa_cons
        (pe_weak (t' := tPick) (pe_ifExp (pt_cmpR op_isN (pv 4) pe_non (nomark _)) (pe_call (ok_any T) hr rfl T.lAny.gl T.lAny.fn.kp T.lAny.bd .nil pass0 (pa_cons (pv 0) (pa_cons (pv 2) pa_nil))) (pv 4)) ?w) pa_nil)))))
    (pss_one (ps_ret (pe_callTy call_tuple_of (by rfl) T.tuple_ (by decide +kernel) (pa_cons (pv 3) pa_nil))))), ?_⟩
  case w =>
    rintro σ H Q ⟨p, g, s, l, ls, x, n, f, rfl, P, hl, lp, lg, hne, hll, hok, hx, k⟩
    refine ⟨_, rfl, rfl, _, rfl, ?_⟩
    rcases hx with rfl | rfl
    · refine iteT ⟨_, rfl, _, rfl, p, g, s, l, ls, rfl, P, .inl ⟨hl, lp, lg⟩, hne, hll, fun H' v P' K' hv => k H' v P' K' (hok v hv)⟩
    · exact iteF ⟨_, rfl, k H _ P (Kp.refl H) (by decide +kernel)⟩
  refine ⟨(by show 0 ≤ sizeLine; decide), fun l1 h1 => ?_⟩
  obtain ⟨H1, eH1⟩ : ∃ H1 : Hp, H1 = upd H l1 (.lst []) := ⟨_, rfl⟩
  rw [← eH1]
  have P1 : PotAt H1 p g s := by rw [eH1]; exact P.put h1 P
  have K1 : Kp p g H H1 := by rw [eH1]; exact (Kp.refl H).put h1
  have f1 : H1 l1 = some (.lst []) := by rw [eH1, upd_same]
  refine ⟨_, rfl, _, rfl, _, rfl, p, g, s, 6, rfl, P1, by decide, by decide, fun H2 i P2 K12 i0 i1 => ?_⟩
  refine ⟨_, _, rfl, rfl, _, _, rfl, p, g, s, n, _, rfl, P2, n1, n2, fun H3 l2 xs P3 K23 h2 a2 hxs hlen => ?_⟩
  have K3 := (K1.trans K12).trans K23
  have o1 := P.off h1
  have o2 := P2.off h2
  have f3 : H3 l1 = some (.lst []) := (K12.trans K23).oth _ _ f1 o1.1 o1.2
  have n12 : l1 ≠ l2 := ne_of_none (K12.oth _ _ f1 o1.1 o1.2) h2
  have nl1 : l ≠ l1 := ne_of_none hl h1
  refine ⟨l2, rfl, ⟨_, SqL.of a2⟩, ?_⟩
  refine for_list (K := K) (a := l2) (xs := xs) (fun i σ H' => ∃ (t : Option V) (ys : List V), σ = [some (.ref p), some (.int n), some (.ref l), some (.ref l1), t] ∧ PotAt H' p g s ∧ Kp p g H H' ∧
    H' l1 = some (.lst ys) ∧ H' l2 = some (.lst xs) ∧ (∀ y ∈ ys, okW y = true) ∧ ys.length = i)
    ⟨none, [], rfl, P3, K3, f3, a2, (fun x hx => by cases hx), rfl⟩ (fun i σ H' _ ⟨_, _, _, _, _, _, e, _⟩ => SqL.of e) ?_ ?_
  · rintro i x σ H4 hx ⟨t, ys, rfl, P4, K4, b1, b2, hys, hyl⟩
    have hxm : x = .non ∨ x = .str arr := hxs x (List.mem_of_getElem? hx)
    have hi : i < xs.length := (List.getElem?_eq_some_iff.mp hx).1
    refine ⟨_, rfl, .inl ⟨rfl, _, SqL.of b1⟩, p, g, s, l, ls, x, _, _, rfl, P4, K4.oth _ _ hl lp lg, lp, lg, hne, hll, hok, hxm, fun H5 v P5 K45 hv => ?_⟩
    have d1 : H5 l1 = some (.lst ys) := K45.oth _ _ b1 o1.1 o1.2
    have d2 : H5 l2 = some (.lst xs) := K45.oth _ _ b2 o2.1 o2.2
    have hsl : (4004 : Nat) < sizeLine := by decide
    refine ⟨l1, ys, v, rfl, rfl, d1, by omega, ?_⟩
    refine ⟨_, ys ++ [v], rfl, P.put h1 P5, (K4.trans K45).put h1, upd_same, by rw [upd_ne n12.symm]; exact d2, ?_, by simp [hyl]⟩
    intro y hy
    rcases List.mem_append.mp hy with q | q
    · exact hys y q
    · cases List.mem_singleton.mp q
      exact hv
  · rintro σ H4 ⟨t, ys, rfl, P4, K4, b1, b2, hys, hyl⟩
    refine ⟨_, rfl, l1, ys, rfl, .inl ⟨SqL.of b1, fun a ha => ?_⟩⟩
    exact k _ a ys (P4.same (sm_upd (Same.refl _) ha)) (K4.new ha) (by
      cases e : H a with
      | none => rfl
      | some o =>
        by_cases c1 : a = p
        · obtain ⟨_, q⟩ := P4.lp
          rw [c1, q] at ha
          cases ha
        · by_cases c2 : a = g
          · obtain ⟨_, q⟩ := P4.lg
            rw [c2, q] at ha
            cases ha
          · rw [K4.oth _ _ e c1 c2] at ha
            cases ha) upd_same hys (by omega) (by omega)

/-! ### nested tuples -/
def spDeep : Sp := fun vs H Q _ => vs = [] ∧ ∀ H' t xs, Same H H' → H' t = some (.tup xs) → (∀ x ∈ xs, ∃ b ys, x = .ref b ∧ H' b = some (.tup ys)) → Q (.ref t) H'
theorem scDeep : FnScope ["_law_thing_here", "_law_turn"] [] (defScope (top 38)) := ⟨rfl, rfl, rfl, by decide +kernel, rfl, by decide +kernel, by decide +kernel⟩
theorem ok_deep (T : Txt K mg A) : FnOk pw w K mg base CX0 1 A.lDeep.a A.lDeep.d [] spDeep := by
  refine T.lDeep.fn.ok scDeep (fun vs H Q E h => by obtain ⟨rfl, _⟩ := h; rfl) (fun cdv Ar outer s0 H vs Q E hr h => ?_)
  obtain ⟨rfl, k⟩ := h
  refine ⟨_, pss_cons (ps_set (i := 0) scDeep.nd rfl (Or.inl rfl) (pe_tup pa_nil))
    (pss_cons (ps_for PassesOwn.never rfl (pi_range1 rfl T.range (pa_cons pe_int pa_nil)) (pg_name (i := 1) scDeep.nd rfl (.inl rfl))
      (pss_one (ps_set (i := 0) scDeep.nd rfl (Or.inl rfl) (pe_tup (pa_cons (pv 0) pa_nil)))))
    (pss_one (ps_ret (pv 0)))), ?_⟩
  refine ⟨(by show 0 ≤ sizeLine; decide), fun t ht => ?_⟩
  refine ⟨_, rfl, by decide, by decide, ?_⟩
  refine for_range (lo := 0) (n := 36) (fun i σ H' => ∃ (t : Addr) (xs : List V) (u : Option V), σ = [some (.ref t), u] ∧ Same H H' ∧ H' t = some (.tup xs) ∧ ∀ x ∈ xs, ∃ b ys, x = V.ref b ∧ H' b = some (.tup ys))
    ⟨t, [], none, rfl, sm_upd (Same.refl H) ht, upd_same, fun x hx => by cases hx⟩ ?_ ?_
  · rintro i σ H1 hi ⟨t, xs, u, rfl, s1, e1, _⟩
    refine ⟨_, rfl, (by show 1 ≤ sizeLine; decide), fun t2 ht2 => ?_⟩
    exact ⟨t2, _, _, rfl, sm_upd s1 ht2, upd_same, fun x hx => ⟨t, xs, List.mem_singleton.mp hx, by rw [upd_ne (ne_of_none e1 ht2)]; exact e1⟩⟩
  · rintro σ H1 ⟨t, xs, u, rfl, s1, e1, z1⟩
    exact ⟨_, rfl, k H1 t xs s1 e1 z1⟩
end
end Knd

set_option Elab.async false
set_option linter.all false
set_option maxRecDepth 100000
set_option maxHeartbeats 3000000
namespace Knd
open PySem PySem.Spec PyProof.Rows L2
def spFault (K : PySem.W.Frag) (A : Ads) : Sp := fun vs H Q _ => ∃ (v : V) (o : Option (List V)), vs = [v] ∧ ThgAt K A H v o ∧ Q (oI (dueO o)) H
def tGood (A : Ads) : TE := fun σ H Q => ∃ (x : V) (a b c d : Option V), σ = [a, b, some x, c, d] ∧ Itm A H x ∧ Q (.bl (isNum x)) H
theorem dueT_in {xs : List V} (h : 1 ≤ xs.length ∧ xs.length ≤ 4000) {o : Option Nat} (e : faultOf xs = o) : oI (dueO (some xs)) = oN o := by
  show oI (dueT xs) = oN o
  unfold dueT
  rw [if_pos h, e]
  cases o <;> rfl
theorem dueT_out {xs : List V} (h : ¬ (1 ≤ xs.length ∧ xs.length ≤ 4000)) : oI (dueO (some xs)) = .int (-1) := by
  show oI (dueT xs) = .int (-1)
  unfold dueT
  rw [if_neg h]
  rfl
section
variable {w : World} {K : PySem.W.Frag} {mg : Str → Option Value} {base : Heap} {A : Ads}
theorem scFault : FnScope ["_law_words", "_law_place", "_law_word", "_law_good", "_law_asked"] ["_law_words"] (defScope (top 39)) := ⟨rfl, rfl, rfl, by decide +kernel, rfl, by decide +kernel, by decide +kernel⟩
theorem ok_fault (T : Txt K mg A) : FnOk pw w K mg base CX0 1 A.lFault.a A.lFault.d ["_law_words"] (spFault K A) := by
  refine T.lFault.fn.ok scFault (fun vs H Q E h => by obtain ⟨v, o, rfl, _⟩ := h; rfl) (fun cdv Ar outer s0 H vs Q E hr h => ?_)
  obtain ⟨v, o, rfl, ht, k⟩ := h
  refine ⟨_, pss_cons (ps_if (PW.pt (pw_or (pt_not (pt_val (pe_callB call_isi (by rfl) T.isi PyProof.Rows.boot_isinstance (pa_cons (pv 0) (pa_cons (pe_bltn (v := .ty "tuple") (by rfl) T.tuple_ (by decide +kernel) rfl) pa_nil)))))
        (pw_or1 (pt_not (pt_chain op_le op_le pe_int (pe_callB call_len_seq (by rfl) T.len PySem.boot_len (pa_cons (pv 0) pa_nil)) pe_int)))))
      (pss_one (ps_ret (pe_un un_neg pe_int))) pss_nil)
    (pss_cons (ps_for PassesOwn.never rfl (pi_range1 rfl T.range (pa_cons (pe_callB call_len_seq (by rfl) T.len PySem.boot_len (pa_cons (pv 0) pa_nil)) pa_nil)) (pg_name (i := 1) scFault.nd rfl (.inl rfl))
      (pss_cons (ps_set (i := 2) scFault.nd rfl (Or.inl rfl) (pe_ix ix_tup (pv 0) (pv 1) (fun _ _ => rfl)))
      (pss_cons (ps_set (i := 3) scFault.nd rfl (Or.inl rfl) (pe_weak (t' := tGood A) (pe_and (pe_callB call_isi (by rfl) T.isi PyProof.Rows.boot_isinstance (pa_cons (pv 2) (pa_cons (pe_bltn (v := .ty "int") (by rfl) T.int_ PyProof.Rows.boot_int rfl) pa_nil)))
          (pe_and (pe_not (pe_callB call_isi (by rfl) T.isi PyProof.Rows.boot_isinstance (pa_cons (pv 2) (pa_cons (pe_bltn (v := .ty "bool") (by rfl) T.bool_ (by decide +kernel) rfl) pa_nil))))
            (pe_one (pe_cmpR op_ge (pv 2) pe_int (nomark _))))) ?w))
      (pss_one (ps_if (PW.pt (pw_and (pt_not (pt_val (pv 3))) (pw_and1 (pt_not (PW.pt (pw_and (pt_val (pe_callB call_isi (by rfl) T.isi PyProof.Rows.boot_isinstance (pa_cons (pv 2) (pa_cons (pe_bltn (v := .ty "str") (by rfl) T.str_ (by decide +kernel) rfl) pa_nil))))
              (pw_and1 (pt_cmpR op_eq (pv 2) pe_str (nomark _)))))))))
        (pss_one (ps_ret (pv 1))) pss_nil)))))
    (pss_cons (ps_set (i := 4) scFault.nd rfl (Or.inl rfl) pe_int)
    (pss_cons (ps_for PassesOwn.never rfl (pi_range1 rfl T.range (pa_cons (pe_callB call_len_seq (by rfl) T.len PySem.boot_len (pa_cons (pv 0) pa_nil)) pa_nil)) (pg_name (i := 1) scFault.nd rfl (.inl rfl))
      (pss_cons (ps_if (pt_cmpR op_eq (pv 4) pe_int (nomark _)) (pss_one (ps_ret (pv 1))) pss_nil)
      (pss_one (ps_set (i := 4) scFault.nd rfl (Or.inl rfl) (pe_ifExp (pt_cmpR op_eq (pe_ix ix_tup (pv 0) (pv 1) (fun _ _ => rfl)) pe_str (nomark _)) (pe_op op_add (pv 4) pe_int) (pe_op op_sub (pv 4) pe_int))))))
    (pss_one (ps_ret (pe_ifExp (pt_cmpR op_eq (pv 4) pe_int (nomark _)) pe_non (pe_callB call_len_seq (by rfl) T.len PySem.boot_len (pa_cons (pv 0) pa_nil)))))))), ?_⟩
  case w =>
    rintro σ H Q ⟨x, a, b, c, d, rfl, hi, k⟩
    obtain ⟨t, J⟩ := hi.isi T
    refine ⟨_, rfl, _, _, t, _, _, rfl, .ty "int", J.ty, J.ki, _, rfl, ?_⟩
    cases x with
    | int i => exact iteT ⟨_, rfl, _, _, t, _, _, rfl, .ty "bool", J.ty, J.kb, _, rfl, _, rfl, iteT ⟨_, rfl, _, _, rfl, rfl, k⟩⟩
    | bl i => exact iteT ⟨_, rfl, _, _, t, _, _, rfl, .ty "bool", J.ty, J.kb, _, rfl, _, rfl, iteF k⟩
    | _ => exact iteF k
  cases o with
  | none =>
    obtain ⟨t, ty, kt⟩ := ht
    refine ⟨_, rfl, v, _, t, _, _, rfl, .ty "tuple", ty, kt, _, rfl, ?_⟩
    exact iteT (iteT ⟨_, rfl, k⟩)
  | some xs =>
    obtain ⟨a, rfl, ha, hit⟩ := ht
    refine ⟨_, rfl, _, _, _, _, _, rfl, .ty "tuple", .base (.tup ha), kit_ty (r := true) (by decide +kernel), _, rfl, ?_⟩
    refine iteF ⟨_, rfl, a, xs, rfl, .inr (SqT.of ha), _, _, rfl, rfl, _, rfl, ?_⟩
    by_cases c1 : (1 : Int) ≤ (xs.length : Int)
    · rw [decide_eq_true c1]
      refine iteT ⟨_, _, rfl, rfl, _, rfl, ?_⟩
      by_cases c2 : (xs.length : Int) ≤ 4000
      · rw [decide_eq_true c2]
        have hin : 1 ≤ xs.length ∧ xs.length ≤ 4000 := ⟨by omega, by omega⟩
        refine iteF ⟨_, rfl, a, xs, rfl, .inr (SqT.of ha), _, rfl, by omega, by omega, ?_⟩
        refine for_range (lo := 0) (n := xs.length) (fun i σ H' => ∃ (p u q : Option V), σ = [some (.ref a), p, u, q, none] ∧ H' = H ∧ firstBad i (xs.drop i) = firstBad 0 xs)
          ⟨none, none, none, rfl, rfl, rfl⟩ ?_ ?_
        · rintro i σ H1 hi ⟨p, u, q, rfl, rfl, e⟩
          rw [show (0 : Int) + (i : Int) = i from Int.zero_add _]
          have hx : xs[i]? = some xs[i] := List.getElem?_eq_getElem hi
          generalize xs[i] = x at hx
          have hxi := hit x (List.mem_of_getElem? hx)
          rw [drop_cons hx] at e
          refine ⟨_, rfl, _, rfl, a, xs, _, x, rfl, rfl, SqT.of ha, atI_nat hx, ?_⟩
          refine ⟨x, _, _, _, _, rfl, hxi, ?_⟩
          have bad : okW x = false → faultOf xs = some i := fun c => by
            unfold faultOf
            rw [show firstBad 0 xs = some i from by rw [← e]; unfold firstBad; rw [if_neg (by rw [c]; exact Bool.false_ne_true)]]
          have good : okW x = true → firstBad (i + 1) (xs.drop (i + 1)) = firstBad 0 xs := fun c => by
            rw [← e]; conv => rhs; unfold firstBad
            rw [if_pos c]
          have leave : okW x = false → Q (.int (i : Nat)) H1 := fun c => by
            have k2 := k
            rw [dueT_in hin (bad c)] at k2
            exact k2
          obtain ⟨t, J⟩ := hxi.isi T
          refine ⟨_, rfl, _, rfl, ?_⟩
          cases hn : isNum x with
          | true =>
            have c : okW x = true := by
              cases x with
              | int z => exact hn
              | _ => cases hn
            exact iteF (iteF ⟨_, _, _, rfl, rfl, good c⟩)
          | false =>
            refine iteT ⟨_, rfl, x, _, t, _, _, rfl, .ty "str", J.ty, J.ks, _, rfl, ?_⟩
            cases x with
            | str z =>
              refine iteT ⟨_, rfl, rfl, _, rfl, ?_⟩
              by_cases c : z = arr
              · subst c
                have cd : decide (V.str arr = V.str (Str.ofString ">")) = true := decide_eq_true rfl
                rw [cd]
                exact iteF ⟨_, _, _, rfl, rfl, good (show decide (arr = arr) = true from decide_eq_true rfl)⟩
              · have cd : decide (V.str z = V.str (Str.ofString ">")) = false := decide_eq_false fun q => c (V.str.inj q)
                rw [cd]
                exact iteT ⟨_, rfl, leave (show decide (z = arr) = false from decide_eq_false c)⟩
            | int z => exact iteF (iteT ⟨_, rfl, leave hn⟩)
            | _ => exact iteF (iteT ⟨_, rfl, leave rfl⟩)
        · rintro σ H1 ⟨p, u, q, rfl, rfl, e⟩
          rw [List.drop_length] at e
          have e0 : firstBad 0 xs = none := e.symm
          have hok := firstBad_none e0
          have hf : faultOf xs = endAt 0 1 xs := by unfold faultOf; rw [e0]
          have k2 := k
          rw [dueT_in hin hf] at k2
          refine ⟨_, rfl, a, xs, rfl, .inr (SqT.of ha), _, rfl, by omega, by omega, ?_⟩
          refine for_range (lo := 0) (n := xs.length) (fun i σ H' => ∃ (q : Int) (p : Option V), σ = [some (.ref a), p, u, _, some (.int q)] ∧ H' = H1 ∧ endAt i q (xs.drop i) = endAt 0 1 xs)
            ⟨1, _, rfl, rfl, rfl⟩ ?_ ?_
          · rintro i σ H2 hi ⟨q, p, rfl, rfl, e⟩
            rw [show (0 : Int) + (i : Int) = i from Int.zero_add _]
            have hx : xs[i]? = some xs[i] := List.getElem?_eq_getElem hi
            generalize xs[i] = x at hx
            have hxo := hok x (List.mem_of_getElem? hx)
            rw [drop_cons hx] at e
            refine ⟨_, rfl, rfl, _, rfl, ?_⟩
            by_cases c : q = 0
            · subst c
              refine iteT ⟨_, rfl, ?_⟩
              have e2 : endAt 0 1 xs = some i := by rw [← e]; unfold endAt; rw [if_pos rfl]
              rw [e2] at k2
              exact k2
            · have e2 : endAt (i + 1) (if isS x = true then q + 1 else q - 1) (xs.drop (i + 1)) = endAt 0 1 xs := by
                rw [← e]
                conv => rhs; unfold endAt
                rw [if_neg c]
              have cd : decide (V.int q = V.int 0) = false := decide_eq_false fun z => c (V.int.inj z)
              rw [cd]
              refine iteF ⟨_, rfl, _, rfl, a, xs, _, x, rfl, rfl, SqT.of ha, atI_nat hx, ?_⟩
              cases x with
              | str z =>
                have ez : z = arr := of_decide_eq_true hxo
                subst ez
                have cd : decide (V.str arr = V.str (Str.ofString ">")) = true := decide_eq_true rfl
                refine ⟨rfl, _, rfl, ?_⟩
                rw [cd]
                exact iteT ⟨_, rfl, _, _, rfl, rfl, _, _, rfl, rfl, e2⟩
              | int z =>
                have cd : decide (V.int z = V.str (Str.ofString ">")) = false := decide_eq_false fun q => by cases q
                refine ⟨rfl, _, rfl, ?_⟩
                rw [cd]
                exact iteF ⟨_, rfl, _, _, rfl, rfl, _, _, rfl, rfl, e2⟩
              | _ => cases hxo
          · rintro σ H2 ⟨q, p, rfl, rfl, e⟩
            rw [List.drop_length] at e
            rw [← e] at k2
            unfold endAt at k2
            refine ⟨_, rfl, rfl, _, rfl, ?_⟩
            by_cases c : q = 0
            · rw [dec_t (congrArg V.int c)]
              rw [if_pos c] at k2
              exact iteT k2
            · rw [decide_eq_false fun z => c (V.int.inj z)]
              rw [if_neg c] at k2
              exact iteF ⟨_, rfl, a, xs, rfl, .inr (SqT.of ha), k2⟩
      · rw [decide_eq_false c2]
        rw [dueT_out (fun z => c2 (by omega))] at k
        exact iteT ⟨_, rfl, k⟩
    · rw [decide_eq_false c1]
      rw [dueT_out (fun z => c1 (by omega))] at k
      exact iteF ⟨_, rfl, iteT ⟨_, rfl, k⟩⟩
end
end Knd

set_option Elab.async false
set_option linter.all false
set_option maxRecDepth 100000
set_option maxHeartbeats 3000000
namespace Knd
open PySem PySem.Spec PyProof.Rows L2
/-! ### what may be handed in -/
inductive Thg (A : Ads) (H : Hp) : V → Prop
  | non : Thg A H .non
  | bl (b) : Thg A H (.bl b)
  | int (i) : Thg A H (.int i)
  | str (x) : Thg A H (.str x)
  | tup {a xs} (e : H a = some (.tup xs)) (h : ∀ x ∈ xs, Itm A H x) : Thg A H (.ref a)
  | lst {a xs} (e : H a = some (.lst xs)) : Thg A H (.ref a)
  | dk {a kvs} (e : H a = some (.dK kvs)) : Thg A H (.ref a)
  | kin {a dx fs} (e : H a = some (.ins A.kC dx fs)) : Thg A H (.ref a)
  | pin {a dx fs} (e : H a = some (.ins A.pC dx fs)) : Thg A H (.ref a)
theorem sm_put {H H' : Hp} {p : Addr} {o : HO} (e : Same H H') (h : H p = none) : Same H (L2.upd H' p o) := fun b u q => by
  rw [upd_ne (ne_of_none q h)]
  exact e b u q
theorem Thg.kp {A : Ads} {p g s : Addr} {H H' : Hp} {v : V} (h : Thg A H v) (P : PotAt H p g s) (k : Kp p g H H') : Thg A H' v := by
  have nl : ∀ {a o}, H a = some o → (∀ xs, o ≠ .lst xs) → H' a = some o := fun {a o} e n => by
    obtain ⟨_, ep⟩ := P.lp
    obtain ⟨_, eg⟩ := P.lg
    refine k.oth a o e (fun z => ?_) (fun z => ?_)
    · rw [z, ep] at e; cases e; exact n _ rfl
    · rw [z, eg] at e; cases e; exact n _ rfl
  cases h with
  | non => exact .non
  | bl b => exact .bl b
  | int i => exact .int i
  | str x => exact .str x
  | tup e h => exact .tup (nl e fun _ z => by cases z) fun x hx => P.itm k (h x hx)
  | lst e =>
    rename_i a xs
    by_cases e1 : a = p
    · subst e1; obtain ⟨_, q⟩ := k.lp _ e; exact .lst q
    · by_cases e2 : a = g
      · subst e2; obtain ⟨_, q⟩ := k.lg _ e; exact .lst q
      · exact .lst (k.oth _ _ e e1 e2)
  | dk e => exact .dk (nl e fun _ z => by cases z)
  | kin e => exact .kin (nl e fun _ z => by cases z)
  | pin e => exact .pin (nl e fun _ z => by cases z)
theorem Thg.at {K : PySem.W.Frag} {mg : Str → Option Value} {A : Ads} {H : Hp} {v : V} (T : Txt K mg A) (h : Thg A H v) : ∃ o, ThgAt K A H v o := by
  cases h with
  | non => exact ⟨none, _, .base .non, kt⟩
  | bl b => exact ⟨none, _, .base (.bl b), kt⟩
  | int i => exact ⟨none, _, .base (.int i), kt⟩
  | str x => exact ⟨none, _, .base (.str x), kt⟩
  | tup e h => exact ⟨some _, _, rfl, e, h⟩
  | lst e => exact ⟨none, _, .base (.lst e), kt⟩
  | dk e => exact ⟨none, _, .base (.dK e), kt⟩
  | kin e => exact ⟨none, _, .base (.ins e T.kK.cl T.kK.ca T.kK.cn T.kK.ct T.kK.cm), T.kK.i4⟩
  | pin e => exact ⟨none, _, .base (.ins e T.kP.cl T.kP.ca T.kP.cn T.kP.ct T.kP.cm), T.kP.i4⟩

/-! ### lists of such -/
def tIt (I : Hp → V → Prop) : TE := fun _ H Q => ∀ H' v, Same H H' → I H' v → Q v H'
def tMe (I : Hp → V → Prop) (n : Nat) : TA := fun _ H Q => ∀ H' xs, Same H H' → (∀ x ∈ xs, I H' x) → xs.length = n → Q xs H'
def Mono (I : Hp → V → Prop) : Prop := ∀ H H' v, Same H H' → I H v → I H' v
theorem mono_itm {A : Ads} : Mono (Itm A) := fun _ _ _ s h => sm_itm s h
theorem mono_thg {A : Ads} : Mono (Thg A) := fun H H' v s h => by
  cases h with
  | non => exact .non
  | bl b => exact .bl b
  | int i => exact .int i
  | str x => exact .str x
  | tup e h => exact .tup (s _ _ e) fun x hx => sm_itm s (h x hx)
  | lst e => exact .lst (s _ _ e)
  | dk e => exact .dk (s _ _ e)
  | kin e => exact .kin (s _ _ e)
  | pin e => exact .pin (s _ _ e)
theorem pa_weak {X : Cx} {es : List Expr} {t t' : TA} (h : PA X es t) (i : ∀ σ H Q, t' σ H Q → t σ H Q) : PA X es t' := ⟨fun pos pins s σ H Q I q => h.run pos pins s σ H Q I (i σ H Q q)⟩
theorem me_nil {X : Cx} {I : Hp → V → Prop} : PA X [] (tMe I 0) := pa_weak pa_nil fun σ H Q k => k H [] (Same.refl H) (fun x hx => by cases hx) rfl
theorem me_cons {X : Cx} {I : Hp → V → Prop} {e : Expr} {es : List Expr} {n : Nat} (M : Mono I) (h : PE X e (tIt I)) (hs : PA X es (tMe I n)) (he : starEach (e :: es) X.env = (false, eval e X.env) :: starEach es X.env := by rfl) : PA X (e :: es) (tMe I (n + 1)) :=
  pa_weak (pa_cons h hs he) fun σ H Q k H1 v s1 i1 H2 xs s2 i2 l2 => k H2 (v :: xs) (s1.trans s2) (fun x hx => by
    rcases List.mem_cons.mp hx with rfl | hx
    · exact M _ _ _ s2 i1
    · exact i2 x hx) (by rw [List.length_cons, l2])
theorem it_c {X : Cx} {I : Hp → V → Prop} {e : Expr} {v : V} (h : PE X e (tC v)) (i : ∀ H, I H v) : PE X e (tIt I) := pe_weak h fun σ H Q k => k H v (Same.refl H) (i H)
def tNewP (A : Ads) : TE := fun _ H Q => ∀ H' x dx fs, Same H H' → H' x = some (.ins A.pC dx fs) → Q (.ref x) H'
def tNewK (A : Ads) (xs : List V) : TE := fun _ H Q => ∀ H' x wa, Same H H' → KndAt A H' x wa xs → Q (.ref x) H'
section
variable {K : PySem.W.Frag} {mg : Str → Option Value} {A : Ads}
theorem w_prog {E : XK} {σ : L2.St} {H : Hp} {Q : VK} (h : tNewP A σ H Q) : tMake A.pC (spPI K A) [] E (tCons (tTup (tCons (tC (.str sx)) tNil)) tNil) σ H Q := by
  refine ⟨(by show 1 ≤ sizeLine; decide), fun q hq => fun x dx hx hd hne => ?_⟩
  have sq : Same H (upd H q (.tup [.str sx])) := sm_upd (Same.refl H) hq
  have nq : q ≠ x := ne_of_none upd_same hx
  have nqd : q ≠ dx := ne_of_none upd_same hd
  refine ⟨x, dx, q, rfl, upd_same, by rw [upd_ne nq, upd_ne nqd, upd_same], fun H' s' => ⟨rfl, ?_⟩⟩
  refine h _ x dx _ ?_ upd_same
  refine sm_put (fun b o e => ?_) (sq.free hx)
  have e1 := sq b o e
  refine s' b o ?_
  rw [upd_ne (ne_of_none e1 hx), upd_ne (ne_of_none e1 hd)]
  exact e1
/-- Kind of right words: it is made -/
theorem w_kindT (T : Txt K mg A) {a : Addr} {xs : List V} {σ : L2.St} {H : Hp} {Q : VK} {E : XK} (ha : H a = some (.tup xs)) (hd : dueT xs = none) (hi : ∀ x ∈ xs, okW x = true) (h : ∀ H' x, Same H H' → KndAt A H' x a xs → Q (.ref x) H') :
    ∀ x dx, H x = none → H dx = none → dx ≠ x → spKI K A [.ref x, .ref a] (upd (upd H dx (.own x)) x (.ins A.kC dx [])) (fun v H2 => v = .non ∧ Q (.ref x) H2) E := by
  intro x dx hx hdx hne
  have s1 : Same H (upd (upd H dx (.own x)) x (.ins A.kC dx [])) := sm_put (sm_put (Same.refl H) hdx) hx
  refine ⟨x, dx, .ref a, some xs, rfl, upd_same, ⟨a, rfl, s1 _ _ ha, fun y hy => okW_itm (hi y hy)⟩, fun i e => ?_, fun _ H' s' => ⟨rfl, ?_⟩⟩
  · have e' : dueT xs = some i := e
    rw [hd] at e'
    cases e'
  · have s2 : Same H (upd H' x (.ins A.kC dx [(("words" : Str), .ref a)])) := sm_put (s1.trans s') hx
    exact h _ x s2 ⟨⟨dx, upd_same⟩, s2 _ _ ha, hi⟩
theorem due0 : dueT [V.int 0] = none := by decide +kernel
theorem due3 : dueT [V.str arr, V.int 0, V.int 0] = none := by decide +kernel
theorem w_kind0 (T : Txt K mg A) {E : XK} {σ : L2.St} {H : Hp} {Q : VK} (h : tNewK A [.int 0] σ H Q) : tMake A.kC (spKI K A) [] E (tCons (tTup (tCons (tC (.int 0)) tNil)) tNil) σ H Q := by
  refine ⟨(by show 1 ≤ sizeLine; decide), fun q hq => ?_⟩
  have sq : Same H (upd H q (.tup [.int 0])) := sm_upd (Same.refl H) hq
  exact w_kindT (σ := σ) T upd_same due0 (fun x hx => by cases List.mem_singleton.mp hx; decide +kernel) fun H' x s' kn => h H' x q (sq.trans s') kn
end
end Knd

set_option Elab.async false
set_option linter.all false
set_option maxRecDepth 100000
set_option maxHeartbeats 3000000
namespace Knd
open PySem PySem.Spec PyProof.Rows L2
def spItem (A : Ads) : Sp := fun vs H Q _ => ∃ (p g s l : Addr) (xs : List V), vs = [.ref p, .ref l] ∧ PotAt H p g s ∧ H l = some (.tup xs) ∧ xs ≠ [] ∧ xs.length ≤ 5000 ∧ (∀ x ∈ xs, Itm A H x) ∧
  ∀ H' v, PotAt H' p g s → Kp p g H H' → Itm A H' v → Q v H'
def tPow39 : TE := fun _ H Q => Q (.int (10 ^ 39)) H
section
variable {w : World} {K : PySem.W.Frag} {mg : Str → Option Value} {base : Heap} {A : Ads}
theorem scItem : FnScope ["_law_pot_here", "_law_words", "_law_odd"] ["_law_pot_here", "_law_words"] (defScope (top 40)) := ⟨rfl, rfl, rfl, by decide +kernel, rfl, by decide +kernel, by decide +kernel⟩
theorem ok_item (T : Txt K mg A) : FnOk pw w K mg base CX0 8 A.lItem.a A.lItem.d ["_law_pot_here", "_law_words"] (spItem A) := by
  refine T.lItem.fn.ok scItem (fun vs H Q E h => by obtain ⟨p, g, s, l, xs, rfl, _⟩ := h; rfl) (fun cdv Ar outer s0 H vs Q E hr h => ?_)
  obtain ⟨p, g, s, l, xs, rfl, P, hl, hne, hlen, hit, k⟩ := h
  have hr1 : Room 1 _ := hr.mono (by decide)
  have hr2 : Room 2 _ := hr.mono (by decide)
  have hr5 : Room 5 _ := hr.mono (by decide)
  have M := mono_itm (A := A)
  refine ⟨_, pss_cons (ps_if (pt_cmpR op_eq (pe_call (ok_draw T) hr1 rfl T.lDraw.gl T.lDraw.fn.kp T.lDraw.bd .nil pass0 (pa_cons (pv 0) (pa_cons pe_int pa_nil))) pe_int (nomark _))
      (pss_cons (ps_set (i := 2) scItem.nd rfl (Or.inl rfl) (pe_lst
        (me_cons M (it_c pe_str fun _ => trivial) (me_cons M (it_c pe_str fun _ => trivial) (me_cons M (it_c pe_str fun _ => trivial) (me_cons M (it_c pe_str fun _ => trivial) (me_cons M (it_c pe_str fun _ => trivial) (me_cons M (it_c pe_str fun _ => trivial)
        (me_cons M (pe_weak (pe_un un_neg pe_int) fun σ H Q k => ⟨_, rfl, k H _ (Same.refl H) trivial⟩)
        (me_cons M (pe_weak (pe_un un_neg (pe_op op_pow pe_int pe_int)) fun σ H Q k => ⟨_, _, rfl, rfl, ⟨by decide, by decide, by decide⟩, _, rfl, k H _ (Same.refl H) trivial⟩)
        (me_cons M (it_c pe_bl fun _ => trivial) (me_cons M (it_c pe_bl fun _ => trivial) (me_cons M (it_c pe_non fun _ => trivial)
        (me_cons M (pe_weak (pe_tup (pa_cons pe_int pa_nil)) fun σ H Q k => ⟨(by show 1 ≤ sizeLine; decide), fun q hq => k _ (.ref q) (sm_upd (Same.refl H) hq) (Obk.tup upd_same)⟩)
        (me_cons M (pe_weak (pe_lst (pa_cons pe_int pa_nil)) fun σ H Q k => ⟨(by show 1 ≤ sizeLine; decide), fun q hq => k _ (.ref q) (sm_upd (Same.refl H) hq) (Obk.lst upd_same)⟩)
        (me_cons M (pe_weak pe_dnewK fun σ H Q k => fun q hq => k _ (.ref q) (sm_upd (Same.refl H) hq) (Obk.dk upd_same))
        (me_cons M (pe_weak (pe_call0 (ok_deep T) hr1 rfl T.lDeep.gl T.lDeep.fn.kp T.lDeep.bd .nil pass0) fun σ H Q k => ⟨rfl, fun H' t xs s e _ => k H' (.ref t) s (Obk.tup e)⟩)
        me_nil)))))))))))))))))
      (pss_one (ps_ret (pe_call (ok_any T) hr2 rfl T.lAny.gl T.lAny.fn.kp T.lAny.bd .nil pass0 (pa_cons (pv 0) (pa_cons (pe_op op_cat (pv 2) (pe_lst
        (me_cons M (pe_weak (pe_make T.mP (ok_pi T) hr rfl T.gP T.pI.bd .nil pass0 (pa_cons (pe_tup (pa_cons pe_str pa_nil)) pa_nil)) fun σ H Q k => w_prog fun H' x dx fs s' e => k H' (.ref x) s' (Obk.pin e))
        (me_cons M (pe_weak (pe_make T.mK (ok_ki T) hr5 rfl T.gK T.kI.bd .nil passL (pa_cons (pe_tup (pa_cons pe_int pa_nil)) pa_nil)) fun σ H Q k => w_kind0 T fun H' x wa s' kn => k H' (.ref x) s' (by obtain ⟨⟨dx, e⟩, _⟩ := kn; exact Obk.kin e))
        (me_cons M (it_c pe_str fun _ => trivial) me_nil))))) pa_nil)))))) pss_nil)
    (pss_one (ps_ret (pe_call (ok_any T) hr2 rfl T.lAny.gl T.lAny.fn.kp T.lAny.bd .nil pass0 (pa_cons (pv 0) (pa_cons (pe_lst (pa_cons pe_str (pa_cons pe_int (pa_cons (pe_op op_pow pe_int pe_int)
      (pa_cons (pe_call (ok_any T) hr2 rfl T.lAny.gl T.lAny.fn.kp T.lAny.bd .nil pass0 (pa_cons (pv 0) (pa_cons (pv 1) pa_nil))) pa_nil))))) pa_nil))))), ?_⟩
  refine ⟨_, rfl, p, g, s, 3, rfl, P, by decide, by decide, fun H1 i P1 K1 i0 i1 => ?_⟩
  refine ⟨rfl, _, rfl, ?_⟩
  by_cases c : i = 0
  · rw [dec_t (congrArg V.int c)]
    refine iteT (fun H2 ys s2 hys hyl => ⟨by rw [hyl]; decide, fun l1 h1 => ?_⟩)
    have s3 : Same H1 (upd H2 l1 (.lst ys)) := sm_upd s2 h1
    refine ⟨_, rfl, _, rfl, fun H4 zs s4 hzs hzl => ⟨by rw [hzl]; decide, fun l2 h2 => ?_⟩⟩
    have s5 := sm_upd (o := .lst zs) s4 h2
    refine ⟨l1, l2, ys, zs, rfl, rfl, s5 _ _ upd_same, upd_same, by rw [hyl, hzl]; decide, fun l3 h3 => ?_⟩
    have s6 := sm_upd (o := .lst (ys ++ zs)) s5 h3
    have P6 := (P1.same (s3.trans s6))
    have fr : H1 l3 = none := (s3.trans s5).free h3
    have o3 := P1.off fr
    refine ⟨p, g, s, l3, ys ++ zs, rfl, P6, .inl ⟨upd_same, o3.1, o3.2⟩, ?_, by rw [List.length_append, hyl, hzl]; decide, fun H7 v P7 K7 hv => ?_⟩
    · intro z
      have := congrArg List.length z
      rw [List.length_append, hyl, hzl] at this
      cases this
    · refine k H7 v P7 ((K1.trans (Kp.same (s3.trans s6))).trans K7) (P6.itm K7 ?_)
      rcases List.mem_append.mp hv with q | q
      · exact sm_itm ((sm_upd (o := .lst ys) (Same.refl H2) h1).trans s6) (hys v q)
      · exact sm_itm (sm_upd (sm_upd (Same.refl H4) h2) h3) (hzs v q)
  · rw [decide_eq_false (fun z => c (V.int.inj z))]
    refine iteF ⟨_, rfl, _, _, rfl, rfl, ⟨by decide, by decide, by decide⟩, _, rfl, _, rfl, p, g, s, l, xs, rfl, P1, .inr (K1.tup P.lp P.lg hl), hne, by omega, fun H2 v P2 K2 hv => ?_⟩
    refine ⟨(by show 4 ≤ sizeLine; decide), fun l1 h1 => ?_⟩
    have s3 := sm_upd (o := .lst [V.str ">", .int 0, .int (10 ^ (39 : Int).toNat), v]) (Same.refl H2) h1
    have P3 := P2.same s3
    have o3 := P2.off h1
    refine ⟨p, g, s, l1, _, rfl, P3, .inl ⟨upd_same, o3.1, o3.2⟩, (fun z => by cases z), (by show 4 ≤ 100000; decide), fun H4 y P4 K4 hy => ?_⟩
    have K14 := (K1.trans K2).trans ((Kp.same s3).trans K4)
    refine k H4 y P4 K14 ?_
    rcases List.mem_cons.mp hy with rfl | hy
    · trivial
    rcases List.mem_cons.mp hy with rfl | hy
    · trivial
    rcases List.mem_cons.mp hy with rfl | hy
    · trivial
    · cases List.mem_singleton.mp hy
      exact P.itm K14 (hit v hv)
end
end Knd

set_option Elab.async false
set_option linter.all false
set_option maxRecDepth 100000
set_option maxHeartbeats 3000000
namespace Knd
open PySem PySem.Spec PyProof.Rows L2
theorem cut_lo {xs : List V} {j : Nat} (h : j ≤ xs.length) : cutV xs none (some (j : Int)) = xs.take j := by
  unfold cutV
  rw [HT.sIx_none, HT.sIx_nat, Nat.min_eq_left h]
  rfl
theorem cut_hi {xs : List V} {j : Nat} (h : j ≤ xs.length) : cutV xs (some (j : Int)) none = xs.drop j := by
  unfold cutV
  rw [HT.sIx_none, HT.sIx_nat, Nat.min_eq_left h, List.take_of_length_le (by rw [List.length_drop]; omega)]
theorem sl_w {K : PySem.W.Frag} {H : Hp} {Q : VK} {a : Addr} {xs : List V} {lo hi : Option Int} (ha : H a = some (.tup xs)) (k : ∀ H' q, Same H H' → H' q = some (.tup (cutV xs lo hi)) → Q (.ref q) H') : rSlA K (.ref a) lo hi H Q :=
  ⟨a, xs, rfl, SqT.of ha, fun e => k H a (Same.refl H) (by
    have z : cutV xs lo hi = xs := by
      unfold cutV
      rw [e.1, e.2, Nat.sub_zero, List.drop_zero, List.take_of_length_le (Nat.le_refl _)]
    rw [z]; exact ha), fun _ p hp => k _ p (sm_upd (Same.refl H) hp) upd_same⟩
theorem sl_lo {K : PySem.W.Frag} {H : Hp} {Q : VK} {a : Addr} {xs : List V} {j : Nat} (ha : H a = some (.tup xs)) (h : j ≤ xs.length) (k : ∀ H' q, Same H H' → H' q = some (.tup (xs.take j)) → Q (.ref q) H') : rSlA K (.ref a) none (some (j : Int)) H Q :=
  sl_w ha fun H' q s e => k H' q s (by rw [← cut_lo h]; exact e)
theorem sl_hi {K : PySem.W.Frag} {H : Hp} {Q : VK} {a : Addr} {xs : List V} {j : Nat} (ha : H a = some (.tup xs)) (h : j ≤ xs.length) (k : ∀ H' q, Same H H' → H' q = some (.tup (xs.drop j)) → Q (.ref q) H') : rSlA K (.ref a) (some (j : Int)) none H Q :=
  sl_w ha fun H' q s e => k H' q s (by rw [← cut_hi h]; exact e)
theorem cat_w {K : PySem.W.Frag} {H : Hp} {Q : VK} {a b : Addr} {xs ys : List V} (ha : H a = some (.tup xs)) (hb : H b = some (.tup ys)) (hz : xs.length + ys.length ≤ 20000) (k : ∀ H' q, Same H H' → H' q = some (.tup (xs ++ ys)) → Q (.ref q) H') : rCatA K (.ref a) (.ref b) H Q :=
  ⟨a, b, xs, ys, rfl, rfl, SqT.of ha, SqT.of hb, Nat.le_trans hz (by decide), fun e => k H b (Same.refl H) (by rw [e]; exact hb), fun _ e => k H a (Same.refl H) (by rw [e, List.append_nil]; exact ha), fun _ _ p hp => k _ p (sm_upd (Same.refl H) hp) upd_same⟩
def spSpoil (A : Ads) : Sp := fun vs H Q _ => ∃ (p g s l : Addr) (xs : List V), vs = [.ref p, .ref l] ∧ PotAt H p g s ∧ H l = some (.tup xs) ∧ xs ≠ [] ∧ xs.length ≤ 4999 ∧ (∀ x ∈ xs, Itm A H x) ∧
  ∀ H' q ys, PotAt H' p g s → Kp p g H H' → H' q = some (.tup ys) → ys ≠ [] → ys.length ≤ xs.length + 1 → (∀ y ∈ ys, Itm A H' y) → Q (.ref q) H'
theorem ne_len {α : Type} {a : List α} (h : 0 < a.length) : a ≠ [] := fun z => by rw [z] at h; cases h
section
variable {w : World} {K : PySem.W.Frag} {mg : Str → Option Value} {base : Heap} {A : Ads}
theorem po_no {X : Cx} : PO X none (fun _ H Q => Q none H) := po_none
theorem scSpoil : FnScope ["_law_pot_here", "_law_words", "_law_turn", "_law_at", "_law_rest", "_law_other"] ["_law_pot_here", "_law_words"] (defScope (top 41)) := ⟨rfl, rfl, rfl, by decide +kernel, rfl, by decide +kernel, by decide +kernel⟩
theorem ok_spoil (T : Txt K mg A) : FnOk pw w K mg base CX0 9 A.lSpoil.a A.lSpoil.d ["_law_pot_here", "_law_words"] (spSpoil A) := by
  refine T.lSpoil.fn.ok scSpoil (fun vs H Q E h => by obtain ⟨p, g, s, l, xs, rfl, _⟩ := h; rfl) (fun cdv Ar outer s0 H vs Q E hr h => ?_)
  obtain ⟨p, g, s, l, xs, rfl, P, hl, hne, hlen, hit, k⟩ := h
  have hr1 : Room 1 _ := hr.mono (by decide)
  refine ⟨_, pss_cons (ps_set (i := 2) scSpoil.nd rfl (Or.inl rfl) (pe_call (ok_draw T) hr1 rfl T.lDraw.gl T.lDraw.fn.kp T.lDraw.bd .nil pass0 (pa_cons (pv 0) (pa_cons pe_int pa_nil))))
    (pss_cons (ps_set (i := 3) scSpoil.nd rfl (Or.inl rfl) (pe_call (ok_draw T) hr1 rfl T.lDraw.gl T.lDraw.fn.kp T.lDraw.bd .nil pass0 (pa_cons (pv 0) (pa_cons (pe_callB call_len_seq (by rfl) T.len PySem.boot_len (pa_cons (pv 1) pa_nil)) pa_nil))))
    (pss_cons (ps_if (pt_cmpR op_eq (pv 2) pe_int (nomark _)) (pss_one (ps_ret (pe_op op_catA (pe_op op_catA (pe_slice sl_tupA (pv 1) po_no (po_some (pv 3)))
        (pe_tup (pa_cons (pe_call (ok_item T) hr rfl T.lItem.gl T.lItem.fn.kp T.lItem.bd .nil pass0 (pa_cons (pv 0) (pa_cons (pv 1) pa_nil))) pa_nil))) (pe_slice sl_tupA (pv 1) (po_some (pe_op op_add (pv 3) pe_int)) po_no)))) pss_nil)
    (pss_cons (ps_if (pt_cmpR op_eq (pv 2) pe_int (nomark _)) (pss_one (ps_ret (pe_ifExp (pt_cmpR op_gt (pe_callB call_len_seq (by rfl) T.len PySem.boot_len (pa_cons (pv 1) pa_nil)) pe_int (nomark _))
        (pe_op op_catA (pe_slice sl_tupA (pv 1) po_no (po_some (pv 3))) (pe_slice sl_tupA (pv 1) (po_some (pe_op op_add (pv 3) pe_int)) po_no)) (pv 1)))) pss_nil)
    (pss_cons (ps_if (pt_cmpR op_eq (pv 2) pe_int (nomark _)) (pss_one (ps_ret (pe_op op_catA (pe_op op_catA (pe_slice sl_tupA (pv 1) po_no (po_some (pv 3)))
        (pe_tup (pa_cons (pe_call (ok_item T) hr rfl T.lItem.gl T.lItem.fn.kp T.lItem.bd .nil pass0 (pa_cons (pv 0) (pa_cons (pv 1) pa_nil))) pa_nil))) (pe_slice sl_tupA (pv 1) (po_some (pv 3)) po_no)))) pss_nil)
    (pss_cons (ps_set (i := 4) scSpoil.nd rfl (Or.inl rfl) (pe_op op_catA (pe_slice sl_tupA (pv 1) po_no (po_some (pv 3))) (pe_slice sl_tupA (pv 1) (po_some (pe_op op_add (pv 3) pe_int)) po_no)))
    (pss_cons (ps_set (i := 5) scSpoil.nd rfl (Or.inl rfl) (pe_call (ok_draw T) hr1 rfl T.lDraw.gl T.lDraw.fn.kp T.lDraw.bd .nil pass0 (pa_cons (pv 0) (pa_cons (pe_callB call_len_seq (by rfl) T.len PySem.boot_len (pa_cons (pv 1) pa_nil)) pa_nil))))
    (pss_one (ps_ret (pe_op op_catA (pe_op op_catA (pe_slice sl_tupA (pv 4) po_no (po_some (pv 5))) (pe_tup (pa_cons (pe_ix ix_tup (pv 1) (pv 3) (fun _ _ => rfl)) pa_nil))) (pe_slice sl_tupA (pv 4) (po_some (pv 5)) po_no)))))))))), ?_⟩
  have hpos : 0 < xs.length := by
    cases xs with
    | nil => exact absurd rfl hne
    | cons a b => rw [List.length_cons]; omega
  refine ⟨_, rfl, p, g, s, 4, rfl, P, by decide, by decide, fun H1 t P1 K1 t0 t1 => ?_⟩
  have l1 : H1 l = some (.tup xs) := K1.tup P.lp P.lg hl
  refine ⟨_, rfl, _, rfl, l, xs, rfl, .inr (SqT.of l1), p, g, s, _, rfl, P1, by omega, (by rw [Int.natAbs_natCast]; exact log_small (by omega)), fun H2 i P2 K2 i0 i1 => ?_⟩
  obtain ⟨j, rfl⟩ : ∃ j : Nat, i = (j : Int) := ⟨i.toNat, by omega⟩
  have hj : j < xs.length := by omega
  have l2 : H2 l = some (.tup xs) := K2.tup P1.lp P1.lg l1
  have K02 := K1.trans K2
  have it2 : ∀ x ∈ xs, Itm A H2 x := fun x hx => P.itm K02 (hit x hx)
  refine ⟨_, rfl, rfl, _, rfl, ?_⟩
  by_cases c0 : t = 0
  · rw [dec_t (congrArg V.int c0)]
    refine iteT ⟨_, rfl, _, rfl, _, rfl, sl_lo l2 (by omega) fun H3 q s3 e3 => ?_⟩
    have P3 := P2.same s3
    refine ⟨_, rfl, _, rfl, p, g, s, l, xs, rfl, P3, s3 _ _ l2, hne, by omega, (fun x hx => sm_itm s3 (it2 x hx)), fun H4 v P4 K4 hv => ⟨(by show 1 ≤ sizeLine; decide), fun q2 hq2 => ?_⟩⟩
    have s5 := sm_upd (o := .tup [v]) (Same.refl H4) hq2
    refine cat_w (s5 _ _ (K4.tup P3.lp P3.lg e3)) upd_same (by rw [List.length_take]; show _ + 1 ≤ 20000; omega) fun H6 q3 s6 e6 => ?_
    have l6 : H6 l = some (.tup xs) := s6 _ _ (s5 _ _ (K4.tup P3.lp P3.lg (s3 _ _ l2)))
    refine ⟨_, rfl, _, rfl, _, _, rfl, rfl, _, rfl, ?_⟩
    show rSlA K (.ref l) (some ((j + 1 : Nat) : Int)) none H6 _
    refine sl_hi l6 (by omega) fun H7 q4 s7 e7 => ?_
    refine cat_w (s7 _ _ e6) e7 (by rw [List.length_append, List.length_take, List.length_drop]; show _ + 1 + _ ≤ 20000; omega) fun H8 q5 s8 e8 => ?_
    have K28 : Kp p g H2 H8 := (Kp.same s3).trans (K4.trans (Kp.same (s5.trans (s6.trans (s7.trans s8)))))
    refine k H8 q5 _ (P4.same (s5.trans (s6.trans (s7.trans s8)))) (K02.trans K28) e8 (ne_len (by rw [List.length_append, List.length_append]; show 0 < _ + 1 + _; omega))
      (by rw [List.length_append, List.length_append, List.length_take, List.length_drop]; show _ + 1 + _ ≤ _; omega) (fun y hy => ?_)
    rcases List.mem_append.mp hy with hy | hy
    · rcases List.mem_append.mp hy with hy | hy
      · exact P2.itm K28 (it2 y (List.mem_of_mem_take hy))
      · cases List.mem_singleton.mp hy
        exact sm_itm (s5.trans (s6.trans (s7.trans s8))) hv
    · exact P2.itm K28 (it2 y (List.mem_of_mem_drop hy))
  rw [decide_eq_false (fun z => c0 (V.int.inj z))]
  refine iteF ⟨_, rfl, rfl, _, rfl, ?_⟩
  by_cases c1 : t = 1
  · rw [dec_t (congrArg V.int c1)]
    refine iteT ⟨_, rfl, l, xs, rfl, .inr (SqT.of l2), _, _, rfl, rfl, _, rfl, ?_⟩
    by_cases c : (1 : Int) < (xs.length : Int)
    · rw [decide_eq_true c]
      refine iteT ⟨_, rfl, _, rfl, _, rfl, sl_lo l2 (by omega) fun H3 q s3 e3 => ?_⟩
      refine ⟨_, rfl, _, rfl, _, _, rfl, rfl, _, rfl, ?_⟩
      show rSlA K (.ref l) (some ((j + 1 : Nat) : Int)) none H3 _
      refine sl_hi (s3 _ _ l2) (by omega) fun H4 q4 s4 e4 => ?_
      refine cat_w (s4 _ _ e3) e4 (by rw [List.length_take, List.length_drop]; omega) fun H5 q5 s5 e5 => ?_
      have s25 := s3.trans (s4.trans s5)
      refine k H5 q5 _ (P2.same s25) (K02.trans (Kp.same s25)) e5 (ne_len (by rw [List.length_append, List.length_take, List.length_drop]; omega)) (by rw [List.length_append, List.length_take, List.length_drop]; omega) (fun y hy => ?_)
      rcases List.mem_append.mp hy with hy | hy
      · exact sm_itm s25 (it2 y (List.mem_of_mem_take hy))
      · exact sm_itm s25 (it2 y (List.mem_of_mem_drop hy))
    · rw [decide_eq_false c]
      exact iteF ⟨_, rfl, k H2 l xs P2 K02 l2 hne (by omega) it2⟩
  rw [decide_eq_false (fun z => c1 (V.int.inj z))]
  refine iteF ⟨_, rfl, rfl, _, rfl, ?_⟩
  by_cases c2 : t = 2
  · rw [dec_t (congrArg V.int c2)]
    refine iteT ⟨_, rfl, _, rfl, _, rfl, sl_lo l2 (by omega) fun H3 q s3 e3 => ?_⟩
    have P3 := P2.same s3
    refine ⟨_, rfl, _, rfl, p, g, s, l, xs, rfl, P3, s3 _ _ l2, hne, by omega, (fun x hx => sm_itm s3 (it2 x hx)), fun H4 v P4 K4 hv => ⟨(by show 1 ≤ sizeLine; decide), fun q2 hq2 => ?_⟩⟩
    have s5 := sm_upd (o := .tup [v]) (Same.refl H4) hq2
    refine cat_w (s5 _ _ (K4.tup P3.lp P3.lg e3)) upd_same (by rw [List.length_take]; show _ + 1 ≤ 20000; omega) fun H6 q3 s6 e6 => ?_
    have l6 : H6 l = some (.tup xs) := s6 _ _ (s5 _ _ (K4.tup P3.lp P3.lg (s3 _ _ l2)))
    refine ⟨_, rfl, _, rfl, _, rfl, sl_hi l6 (by omega) fun H7 q4 s7 e7 => ?_⟩
    refine cat_w (s7 _ _ e6) e7 (by rw [List.length_append, List.length_take, List.length_drop]; show _ + 1 + _ ≤ 20000; omega) fun H8 q5 s8 e8 => ?_
    have K28 : Kp p g H2 H8 := (Kp.same s3).trans (K4.trans (Kp.same (s5.trans (s6.trans (s7.trans s8)))))
    refine k H8 q5 _ (P4.same (s5.trans (s6.trans (s7.trans s8)))) (K02.trans K28) e8 (ne_len (by rw [List.length_append, List.length_append]; show 0 < _ + 1 + _; omega))
      (by rw [List.length_append, List.length_append, List.length_take, List.length_drop]; show _ + 1 + _ ≤ _; omega) (fun y hy => ?_)
    rcases List.mem_append.mp hy with hy | hy
    · rcases List.mem_append.mp hy with hy | hy
      · exact P2.itm K28 (it2 y (List.mem_of_mem_take hy))
      · cases List.mem_singleton.mp hy
        exact sm_itm (s5.trans (s6.trans (s7.trans s8))) hv
    · exact P2.itm K28 (it2 y (List.mem_of_mem_drop hy))
  rw [decide_eq_false (fun z => c2 (V.int.inj z))]
  refine iteF ⟨_, rfl, _, rfl, _, rfl, sl_lo l2 (by omega) fun H3 q s3 e3 => ?_⟩
  refine ⟨_, rfl, _, rfl, _, _, rfl, rfl, _, rfl, ?_⟩
  show rSlA K (.ref l) (some ((j + 1 : Nat) : Int)) none H3 _
  refine sl_hi (s3 _ _ l2) (by omega) fun H4 q4 s4 e4 => ?_
  refine cat_w (s4 _ _ e3) e4 (by rw [List.length_take, List.length_drop]; omega) fun H5 r s5 e5 => ?_
  have s25 := s3.trans (s4.trans s5)
  have P5 := P2.same s25
  obtain ⟨rs, ers⟩ : ∃ rs, rs = xs.take j ++ xs.drop (j + 1) := ⟨_, rfl⟩
  rw [← ers] at e5
  have rl : rs.length + 1 = xs.length := by rw [ers, List.length_append, List.length_take, List.length_drop]; omega
  have rm : ∀ y ∈ rs, Itm A H5 y := fun y hy => by
    rw [ers] at hy
    rcases List.mem_append.mp hy with hy | hy
    · exact sm_itm s25 (it2 y (List.mem_of_mem_take hy))
    · exact sm_itm s25 (it2 y (List.mem_of_mem_drop hy))
  have l5 := s25 _ _ l2
  refine ⟨_, rfl, _, rfl, l, xs, rfl, .inr (SqT.of l5), p, g, s, _, rfl, P5, by omega, (by rw [Int.natAbs_natCast]; exact log_small (by omega)), fun H6 o P6 K6 o0 o1 => ?_⟩
  obtain ⟨m, rfl⟩ : ∃ m : Nat, o = (m : Int) := ⟨o.toNat, by omega⟩
  have r6 : H6 r = some (.tup rs) := K6.tup P5.lp P5.lg e5
  have l6 : H6 l = some (.tup xs) := K6.tup P5.lp P5.lg l5
  refine ⟨_, rfl, _, rfl, _, rfl, sl_lo r6 (by omega) fun H7 q7 s7 e7 => ?_⟩
  have hx : xs[j]? = some xs[j] := List.getElem?_eq_getElem hj
  generalize xs[j] = x at hx
  refine ⟨_, rfl, _, rfl, l, xs, _, x, rfl, rfl, SqT.of (s7 _ _ l6), atI_nat hx, (by show 1 ≤ sizeLine; decide), fun q8 hq8 => ?_⟩
  have s8 := sm_upd (o := .tup [x]) (Same.refl H7) hq8
  refine cat_w (s8 _ _ e7) upd_same (by rw [List.length_take]; show _ + 1 ≤ 20000; omega) fun H9 q9 s9 e9 => ?_
  refine ⟨_, rfl, _, rfl, _, rfl, sl_hi (s9 _ _ (s8 _ _ (s7 _ _ r6))) (by omega) fun H10 q10 s10 e10 => ?_⟩
  refine cat_w (s10 _ _ e9) e10 (by rw [List.length_append, List.length_take, List.length_drop]; show _ + 1 + _ ≤ 20000; omega) fun H11 q11 s11 e11 => ?_
  have s611 := s7.trans (s8.trans (s9.trans (s10.trans s11)))
  have K511 : Kp p g H5 H11 := K6.trans (Kp.same s611)
  refine k H11 q11 _ (P6.same s611) ((K02.trans (Kp.same s25)).trans K511) e11 (ne_len (by rw [List.length_append, List.length_append]; show 0 < _ + 1 + _; omega))
      (by rw [List.length_append, List.length_append, List.length_take, List.length_drop]; show _ + 1 + _ ≤ _; omega) (fun y hy => ?_)
  rcases List.mem_append.mp hy with hy | hy
  · rcases List.mem_append.mp hy with hy | hy
    · exact P5.itm K511 (rm y (List.mem_of_mem_take hy))
    · cases List.mem_singleton.mp hy
      exact P5.itm K511 (sm_itm s25 (it2 x (List.mem_of_getElem? hx)))
  · exact P5.itm K511 (rm y (List.mem_of_mem_drop hy))
end
end Knd

set_option Elab.async false
set_option linter.all false
set_option maxRecDepth 100000
set_option maxHeartbeats 3000000
namespace Knd
open PySem PySem.Spec PyProof.Rows L2
theorem ps_weak {X : Cx} {e : Stmt} {t t' : TS} (h : PS X e t) (i : ∀ D σ H, t' D σ H → t D σ H) : PS X e t' := ⟨fun pins s σ H D I q => h.run pins s σ H D I (i D σ H q)⟩
def spThing (A : Ads) : Sp := fun vs H Q _ => ∃ (p g s : Addr), vs = [.ref p] ∧ PotAt H p g s ∧ ∀ H' v, PotAt H' p g s → Kp p g H H' → Thg A H' v → Q v H'
def tLeaves : TS := fun D σ H => ∃ (p g s : Addr) (t n : Int) (a b c : Option V), σ = [some (.ref p), some (.int t), some (.int n), a, b, c] ∧ PotAt H p g s ∧ 1 ≤ n ∧ n ≤ 2001 ∧
  ∀ H' n', PotAt H' p g s → Kp p g H H' → 1 ≤ n' → n' ≤ 2001 → D.nx [some (.ref p), some (.int t), some (.int n'), a, b, c] H'
theorem fresh_kp {p g s : Addr} {H H' : Hp} {a : Addr} (P : PotAt H' p g s) (k : Kp p g H H') (ha : H' a = none) : H a = none := by
  cases e : H a with
  | none => rfl
  | some o =>
    by_cases c1 : a = p
    · obtain ⟨_, q⟩ := P.lp
      rw [c1, q] at ha
      cases ha
    · by_cases c2 : a = g
      · obtain ⟨_, q⟩ := P.lg
        rw [c2, q] at ha
        cases ha
      · rw [k.oth _ _ e c1 c2] at ha
        cases ha
section
variable {w : World} {K : PySem.W.Frag} {mg : Str → Option Value} {base : Heap} {A : Ads}
theorem scThing : FnScope ["_law_pot_here", "_law_turn", "_law_leaves", "_law_spoils", "_law_words", "_law_one"] ["_law_pot_here"] (defScope (top 42)) := ⟨rfl, rfl, rfl, by decide +kernel, rfl, by decide +kernel, by decide +kernel⟩
theorem ok_thing (T : Txt K mg A) : FnOk pw w K mg base CX0 10 A.lThing.a A.lThing.d ["_law_pot_here"] (spThing A) := by
  refine T.lThing.fn.ok scThing (fun vs H Q E h => by obtain ⟨p, g, s, rfl, _⟩ := h; rfl) (fun cdv Ar outer s0 H vs Q E hr h => ?_)
  obtain ⟨p, g, s, rfl, P, k⟩ := h
  have hr1 : Room 1 _ := hr.mono (by decide)
  have hr2 : Room 2 _ := hr.mono (by decide)
  have hr3 : Room 3 _ := hr.mono (by decide)
  have hr5 : Room 5 _ := hr.mono (by decide)
  have hr7 : Room 7 _ := hr.mono (by decide)
  have M := mono_thg (A := A)
  refine ⟨_, pss_cons (ps_set (i := 1) scThing.nd rfl (Or.inl rfl) (pe_call (ok_draw T) hr1 rfl T.lDraw.gl T.lDraw.fn.kp T.lDraw.bd .nil pass0 (pa_cons (pv 0) (pa_cons pe_int pa_nil))))
    (pss_cons (ps_if (pt_cmpR op_eq (pv 1) pe_int (nomark _)) (pss_one (ps_ret (pe_call (ok_any T) hr2 rfl T.lAny.gl T.lAny.fn.kp T.lAny.bd .nil pass0 (pa_cons (pv 0) (pa_cons (pe_lst
        (me_cons M (pe_weak (pe_tup pa_nil) fun σ H Q k => ⟨(by show 0 ≤ sizeLine; decide), fun q hq => k _ (.ref q) (sm_upd (Same.refl H) hq) (.tup upd_same fun x hx => by cases hx)⟩)
        (me_cons M (pe_weak (pe_lst pa_nil) fun σ H Q k => ⟨(by show 0 ≤ sizeLine; decide), fun q hq => k _ (.ref q) (sm_upd (Same.refl H) hq) (.lst upd_same)⟩)
        (me_cons M (pe_weak (pe_lst (pa_cons pe_int pa_nil)) fun σ H Q k => ⟨(by show 1 ≤ sizeLine; decide), fun q hq => k _ (.ref q) (sm_upd (Same.refl H) hq) (.lst upd_same)⟩)
        (me_cons M (it_c pe_str fun _ => .str _) (me_cons M (it_c pe_non fun _ => .non) (me_cons M (it_c pe_int fun _ => .int _) (me_cons M (it_c pe_bl fun _ => .bl _)
        (me_cons M (pe_weak (pe_disp (pps_cons pe_int pe_int pps_nil) rfl rfl (by decide) (by decide)) fun σ H Q k => fun q hq => ⟨upd_same, [(Sum.inl 0, .int 1)], rfl, by decide, k _ (.ref q) (sm_put (sm_upd (Same.refl H) hq) hq) (.dk upd_same)⟩)
        (me_cons M (pe_weak (pe_make T.mP (ok_pi T) hr7 rfl T.gP T.pI.bd .nil pass0 (pa_cons (pe_tup (pa_cons pe_str pa_nil)) pa_nil)) fun σ H Q k => w_prog fun H' x dx fs s' e => k H' (.ref x) s' (.pin e))
        (me_cons M (pe_weak (pe_make T.mK (ok_ki T) hr5 rfl T.gK T.kI.bd .nil passL (pa_cons (pe_tup (pa_cons pe_int pa_nil)) pa_nil)) fun σ H Q k => w_kind0 T fun H' x wa s' kn => k H' (.ref x) s' (by obtain ⟨⟨dx, e⟩, _⟩ := kn; exact .kin e))
        (me_cons M (pe_weak (pe_call0 (ok_deep T) hr1 rfl T.lDeep.gl T.lDeep.fn.kp T.lDeep.bd .nil pass0) fun σ H Q k => ⟨rfl, fun H' t xs s e z => k H' (.ref t) s (.tup e fun x hx => by obtain ⟨b, ys, rfl, eb⟩ := z x hx; exact Obk.tup eb)⟩)
        me_nil)))))))))))) pa_nil))))) pss_nil)
    (pss_cons (ps_set (i := 2) scThing.nd rfl (Or.inl rfl) (pe_op op_add pe_int (pe_call (ok_draw T) hr1 rfl T.lDraw.gl T.lDraw.fn.kp T.lDraw.bd .nil pass0 (pa_cons (pv 0) (pa_cons pe_int pa_nil)))))
    (pss_cons (ps_weak (t' := tLeaves) (ps_if (pt_cmpR op_eq (pv 1) pe_int (nomark _)) (pss_one (ps_set (i := 2) scThing.nd rfl (Or.inl rfl) (pe_op op_sub pe_int (pe_call (ok_draw T) hr1 rfl T.lDraw.gl T.lDraw.fn.kp T.lDraw.bd .nil pass0 (pa_cons (pv 0) (pa_cons pe_int pa_nil)))))) pss_nil) ?w)
    (pss_cons (ps_set (i := 3) scThing.nd rfl (Or.inl rfl) (pe_callB (call_max2 (by rfl)) (by rfl) T.max_ (by decide +kernel) (pa_cons pe_int (pa_cons (pe_op op_sub (pe_call (ok_draw T) hr1 rfl T.lDraw.gl T.lDraw.fn.kp T.lDraw.bd .nil pass0 (pa_cons (pv 0) (pa_cons pe_int pa_nil))) pe_int) pa_nil))))
    (pss_cons (ps_set (i := 4) scThing.nd rfl (Or.inl rfl) (pe_call (ok_kind T) hr3 rfl T.lKind.gl T.lKind.fn.kp T.lKind.bd .nil pass0 (pa_cons (pv 0) (pa_cons (pv 2) (pa_cons (pe_lst (pa_cons pe_int (pa_cons pe_int (pa_cons pe_int (pa_cons pe_int
        (pa_cons (pe_op op_add (pe_op op_pow pe_int pe_int) (pe_call (ok_draw T) hr1 rfl T.lDraw.gl T.lDraw.fn.kp T.lDraw.bd .nil pass0 (pa_cons (pv 0) (pa_cons (pe_op op_pow pe_int pe_int) pa_nil)))) pa_nil)))))) pa_nil)))))
    (pss_cons (ps_for PassesOwn.never rfl (pi_range1 rfl T.range (pa_cons (pv 3) pa_nil)) (pg_name (i := 5) scThing.nd rfl (.inl rfl))
      (pss_one (ps_set (i := 4) scThing.nd rfl (Or.inl rfl) (pe_call (ok_spoil T) hr rfl T.lSpoil.gl T.lSpoil.fn.kp T.lSpoil.bd .nil pass0 (pa_cons (pv 0) (pa_cons (pv 4) pa_nil))))))
    (pss_one (ps_ret (pv 4))))))))), ?_⟩
  case w =>
    rintro D σ H ⟨p, g, s, t, n, a, b, c, rfl, P, n1, n2, k⟩
    refine ⟨_, rfl, rfl, _, rfl, ?_⟩
    by_cases c0 : t = 1
    · rw [dec_t (congrArg V.int c0)]
      exact iteT ⟨_, rfl, p, g, s, 3, rfl, P, by decide, by decide, fun H' i P' K' i0 i1 => ⟨_, _, rfl, rfl, k H' _ P' K' (by omega) (by omega)⟩⟩
    · rw [decide_eq_false (fun z => c0 (V.int.inj z))]
      exact iteF (k H n P (Kp.refl H) n1 n2)
  refine ⟨_, rfl, p, g, s, 24, rfl, P, by decide, by decide, fun H1 t P1 K1 t0 t1 => ?_⟩
  refine ⟨_, rfl, rfl, _, rfl, ?_⟩
  by_cases c0 : t = 0
  · rw [dec_t (congrArg V.int c0)]
    refine iteT ⟨_, rfl, fun H2 ys s2 hys hyl => ⟨by rw [hyl]; decide, fun l1 h1 => ?_⟩⟩
    have s3 : Same H1 (upd H2 l1 (.lst ys)) := sm_upd s2 h1
    have P3 := P1.same s3
    have o3 := P1.off (s2.free h1)
    refine ⟨p, g, s, l1, ys, rfl, P3, .inl ⟨upd_same, o3.1, o3.2⟩, ne_len (by rw [hyl]; decide), by rw [hyl]; decide, fun H4 v P4 K4 hv => ?_⟩
    exact k H4 v P4 ((K1.trans (Kp.same s3)).trans K4) ((M _ _ _ (sm_upd (Same.refl H2) h1) (hys v hv)).kp P3 K4)
  rw [decide_eq_false (fun z => c0 (V.int.inj z))]
  refine iteF ⟨_, rfl, p, g, s, 20, rfl, P1, by decide, by decide, fun H2 i P2 K2 i0 i1 => ⟨_, _, rfl, rfl, ?_⟩⟩
  refine ⟨p, g, s, t, _, _, _, _, rfl, P2, by omega, by omega, fun H3 n P3 K3 n1 n2 => ?_⟩
  refine ⟨_, rfl, p, g, s, 5, rfl, P3, by decide, by decide, fun H4 i P4 K4 i0 i1 => ⟨_, _, rfl, rfl, _, _, rfl, ?_⟩⟩
  have hsp : (if i - 1 > 0 then i - 1 else 0) ≤ (3 : Int) ∧ 0 ≤ (if i - 1 > 0 then i - 1 else 0) := by
    split <;> omega
  generalize (if i - 1 > 0 then i - 1 else 0) = m at hsp
  refine ⟨_, rfl, _, rfl, _, _, rfl, rfl, ⟨by decide, by decide, by decide⟩, _, rfl, _, _, rfl, rfl, ⟨by decide, by decide, by decide⟩, p, g, s, _, rfl, P4, by decide, by decide +kernel, fun H5 z P5 K5 z0 z1 => ⟨_, _, rfl, rfl, ?_⟩⟩
  refine ⟨(by show 5 ≤ sizeLine; decide), fun l hl => ?_⟩
  have s6 := sm_upd (o := .lst [.int 0, .int 1, .int 2, .int 7, .int (10 ^ (39 : Int).toNat + z)]) (Same.refl H5) hl
  have o6 := P5.off hl
  refine ⟨p, g, s, l, n, _, rfl, P5.same s6, n1, n2, upd_same, o6.1, o6.2, (fun z => by cases z), (by show 5 ≤ 100000; decide), ?_, fun H7 a xs P7 K7 ha ea hok x1 x2 => ?_⟩
  · intro x hx
    rcases List.mem_cons.mp hx with rfl | hx
    · rfl
    rcases List.mem_cons.mp hx with rfl | hx
    · rfl
    rcases List.mem_cons.mp hx with rfl | hx
    · rfl
    rcases List.mem_cons.mp hx with rfl | hx
    · rfl
    · cases List.mem_singleton.mp hx
      have : (0 : Int) ≤ 10 ^ (39 : Int).toNat := by decide
      exact decide_eq_true (show (0 : Int) ≤ 10 ^ (39 : Int).toNat + z by omega)
  have K17 : Kp p g H H7 := ((((K1.trans K2).trans K3).trans K4).trans K5).trans ((Kp.same s6).trans K7)
  refine ⟨_, rfl, _, rfl, by omega, by omega, ?_⟩
  refine for_range (lo := 0) (n := m.toNat) (fun i σ H' => ∃ (q : Addr) (ys : List V) (u : Option V), σ = [some (.ref p), some (.int t), some (.int n), some (.int m), some (.ref q), u] ∧ PotAt H' p g s ∧ Kp p g H H' ∧ H' q = some (.tup ys) ∧
    ys ≠ [] ∧ ys.length ≤ 4001 + i ∧ ∀ y ∈ ys, Itm A H' y)
    ⟨a, xs, none, rfl, P7, K17, ea, ne_len (by omega), by omega, fun y hy => okW_itm (hok y hy)⟩ ?_ ?_
  · rintro i σ H8 hi ⟨q, ys, u, rfl, P8, K8, eq8, yne, yl, yi⟩
    refine ⟨_, rfl, _, rfl, p, g, s, q, ys, rfl, P8, eq8, yne, by omega, yi, fun H9 q9 zs P9 K9 e9 zne zl zi => ?_⟩
    exact ⟨q9, zs, _, rfl, P9, K8.trans K9, e9, zne, by omega, zi⟩
  · rintro σ H8 ⟨q, ys, u, rfl, P8, K8, eq8, yne, yl, yi⟩
    exact ⟨_, rfl, k H8 _ P8 K8 (.tup eq8 yi)⟩
end
end Knd

set_option Elab.async false
set_option linter.all false
set_option maxRecDepth 100000
set_option maxHeartbeats 3000000
namespace Knd
open PySem PySem.Spec PyProof.Rows L2
theorem pss_weak {X : Cx} {e : List Stmt} {t t' : TS} (h : PSs X e t) (i : ∀ D σ H, t' D σ H → t D σ H) : PSs X e t' := ⟨fun pins s σ H D I q => h.run pins s σ H D I (i D σ H q)⟩
/-- C(a) in a try's body: what __init__ lets out is told with the locals as they are -/
def tMkS (C : Addr) (sp : Sp) (E : L2.St → XK) (t : TE) : TE := fun σ H Q => t σ H fun v H1 => ∀ x dx, H1 x = none → H1 dx = none → dx ≠ x →
  sp [.ref x, v] (upd (upd H1 dx (.own x)) x (.ins C dx [])) (fun z H2 => z = .non ∧ Q (.ref x) H2) (E σ)
theorem pe_mkS {X : Cx} {CX : CXT} {k : Nat} {f C : Addr} {fd : FuncData} {ps : List Str} {sp : Sp} {E : L2.St → XK} {y : Str} {p pos : Pos} {a : Expr} {t : TE} (M : Mk X.K C f) (F : FnOk X.prog X.w X.K X.mg X.base CX k f fd ps sp) (hr : Room (k + 1) X.A)
    (hg : Gl X y) (hm : X.mg y = some (.ref C)) (hb : Binds X.K fd ps []) (hx : ∀ σ, PassesAt CX X σ (E σ)) (ha : PE X a t) (hdb : (y == ("__debug__" : Str)) = false := by decide)
    (he : starEach (a :: []) X.env = (false, eval a X.env) :: starEach [] X.env := by rfl) (hpl : (backTo pos (starEach [] X.env)).any (·.1) = false := by rfl) : PE X (.Call (.Name y p) [a] [] pos) (tMkS C sp E t) := by
  refine ⟨fun pins s σ H Q I h => wpAny_Call_Name_kw (ld_glob I hg hm (PySem.W.callWith_K (h₀ := X.base) I.ok.mod.kin M.kp (thn ((pa_cons ha pa_nil he).run pos pins s σ H (fun vs H1 => ∀ x dx, H1 x = none → H1 dx = none → dx ≠ x →
    sp (.ref x :: vs) (upd (upd H1 dx (.own x)) x (.ins C dx [])) (fun z H2 => z = .non ∧ Q (.ref x) H2) (E σ)) I h) fun us s1 ⟨vs, H1, I1, r, q⟩ => ⟨I1.kIn, ?_⟩) he hpl) hdb)⟩
  have n0 := I1.hok.fresh (Nat.le_refl s1.heap.objs.size)
  have n1 := I1.hok.fresh (Nat.le_succ s1.heap.objs.size)
  have q' := q _ _ n1 n0 (Nat.ne_of_lt (Nat.lt_succ_self _))
  have J := Inv.made (C := C) I1
  have rr : Vals (V.ref (s1.heap.objs.size + 1) :: vs) (Value.ref (s1.heap.objs.size + 1) :: us) := .cons rfl r
  have len : (Value.ref (s1.heap.objs.size + 1) :: us).length = ps.length := by rw [← rr.length]; exact F.len _ _ _ _ q'
  have b := hb _ (Value.ref (s1.heap.objs.size + 1) :: us) J.kIn (by rw [List.append_nil]; exact len)
  rw [List.append_nil] at b
  refine wpAny_call (make_map (f := f) I1.kIn M.makes M.init (beq_iff_eq.mp M.fn) (codeAny_mono (F.run _ X.stack _ _ ⟨_, []⟩ _ _ _ _ (hr.make C us []) (J.env0.make C us []) b rr q') ?_))
  rintro (e | fl) s' hq
  · exact hx σ pins _ _ e s' J hq
  · cases fl with
    | ret w' =>
      obtain ⟨z, H', J', rv, rfl, fin⟩ := J.after hq
      exact ⟨rv, .ref (s1.heap.objs.size + 1), H', J', rfl, fin⟩
    | _ => exact False.elim hq
end Knd

set_option Elab.async false
set_option linter.all false
set_option maxRecDepth 100000
set_option maxHeartbeats 3000000
namespace Knd
open PySem PySem.Spec PyProof.Rows L2
theorem Thg.keep {K : PySem.W.Frag} {mg : Str → Option Value} {A : Ads} {H : Hp} {v : V} (T : Txt K mg A) (h : Thg A H v) : ∃ o, ∀ H', Same H H' → ThgAt K A H' v o := by
  cases h with
  | non => exact ⟨none, fun H' s => ⟨_, .base .non, kt⟩⟩
  | bl b => exact ⟨none, fun H' s => ⟨_, .base (.bl b), kt⟩⟩
  | int i => exact ⟨none, fun H' s => ⟨_, .base (.int i), kt⟩⟩
  | str x => exact ⟨none, fun H' s => ⟨_, .base (.str x), kt⟩⟩
  | tup e h => exact ⟨some _, fun H' s => ⟨_, rfl, s _ _ e, fun x hx => sm_itm s (h x hx)⟩⟩
  | lst e => exact ⟨none, fun H' s => ⟨_, .base (.lst (s _ _ e)), kt⟩⟩
  | dk e => exact ⟨none, fun H' s => ⟨_, .base (.dK (s _ _ e)), kt⟩⟩
  | kin e => exact ⟨none, fun H' s => ⟨_, .base (.ins (s _ _ e) T.kK.cl T.kK.ca T.kK.cn T.kK.ct T.kK.cm), T.kK.i4⟩⟩
  | pin e => exact ⟨none, fun H' s => ⟨_, .base (.ins (s _ _ e) T.kP.cl T.kP.ca T.kP.cn T.kP.ct T.kP.cm), T.kP.i4⟩⟩
theorem sm_knd {A : Ads} {H H' : Hp} {x a : Addr} {xs : List V} (s : Same H H') (h : KndAt A H x a xs) : KndAt A H' x a xs := by
  obtain ⟨⟨dx, e⟩, e2, h⟩ := h
  exact ⟨⟨dx, s _ _ e⟩, s _ _ e2, h⟩
theorem due_none {o : Option (List V)} (h : dueO o = none) : ∃ xs, o = some xs ∧ dueT xs = none ∧ 1 ≤ xs.length ∧ ∀ x ∈ xs, okW x = true := by
  cases o with
  | none => cases h
  | some xs =>
    have h' : dueT xs = none := h
    refine ⟨xs, rfl, h', ?_⟩
    unfold dueT at h'
    by_cases c : 1 ≤ xs.length ∧ xs.length ≤ 4000
    · rw [if_pos c] at h'
      refine ⟨c.1, ?_⟩
      cases e : firstBad 0 xs with
      | none => exact firstBad_none e
      | some k =>
        have z : faultOf xs = some k := by unfold faultOf; rw [e]
        rw [z] at h'
        cases h'
    · rw [if_neg c] at h'
      cases h'
def spRight (A : Ads) : Sp := fun vs H Q _ => ∃ v, vs = [v] ∧ Thg A H v ∧ ∀ H', Same H H' → Q (.bl true) H'
def tTry (K : PySem.W.Frag) (A : Ads) : TS := fun D σ H => ∃ (v : V) (o : Option (List V)) (u1 u2 u5 : Option V), σ = [some v, u1, u2, some .non, none, u5] ∧ (∀ H', Same H H' → ThgAt K A H' v o) ∧
  (∀ i, dueO o = some i → ∀ H', Same H H' → D.nx [some v, u1, some (.int i), some .non, none, u5] H') ∧
  (dueO o = none → ∀ H' x dx, Same H H' → H' x = some (.ins A.kC dx [(("words" : Str), v)]) → D.nx [some v, u1, u2, some (.ref x), none, u5] H')
def tSuite (A : Ads) (a : Addr) (cls : Value) (d : Option Addr) : TS := fun D σ H => ∃ (i : Int) (dd : Addr) (u0 u1 u2 u3 u5 : Option V), σ = [u0, u1, u2, u3, some (.ref a), u5] ∧ cls = .ref A.bC ∧ d = some dd ∧
  H dd = some (.xd [(("index" : Str), .int i)]) ∧ D.nx [u0, u1, some (.int i), u3, some (.ref a), u5] H
def tOther (A : Ads) : TE := fun σ H Q => ∃ (a : Addr) (xs : List V) (u1 u2 u3 u4 u5 : Option V), σ = [some (.ref a), u1, u2, u3, u4, u5] ∧ H a = some (.tup xs) ∧ ∀ H' y wb ys, Same H H' → KndAt A H' y wb ys → xs.length ≠ ys.length → Q (.ref y) H'
def tAgain (A : Ads) : TE := fun σ H Q => ∃ (a : Addr) (xs : List V) (u1 u2 u3 u4 u5 : Option V), σ = [some (.ref a), u1, u2, u3, u4, u5] ∧ H a = some (.tup xs) ∧ dueT xs = none ∧ (∀ x ∈ xs, okW x = true) ∧ ∀ H' y wb, Same H H' → KndAt A H' y wb xs → Q (.ref y) H'
section
variable {w : World} {K : PySem.W.Frag} {mg : Str → Option Value} {base : Heap} {A : Ads}
theorem scRight : FnScope ["_law_thing_here", "_law_due", "_law_told", "_law_kind_here", "e", "_law_other"] ["_law_thing_here"] (defScope (top 43)) := ⟨rfl, rfl, rfl, by decide +kernel, rfl, by decide +kernel, by decide +kernel⟩
theorem ok_right (T : Txt K mg A) : FnOk pw w K mg base CX0 8 A.lRight.a A.lRight.d ["_law_thing_here"] (spRight A) := by
  refine T.lRight.fn.ok scRight (fun vs H Q E h => by obtain ⟨v, rfl, _⟩ := h; rfl) (fun cdv Ar outer s0 H vs Q E hr h => ?_)
  obtain ⟨v, rfl, ht, k⟩ := h
  have hr1 : Room 1 _ := hr.mono (by decide)
  have hr2 : Room 2 _ := hr.mono (by decide)
  have hr5 : Room 5 _ := hr.mono (by decide)
  refine ⟨_, pss_cons (ps_set (i := 1) scRight.nd rfl (Or.inl rfl) (pe_call (ok_fault T) hr1 rfl T.lFault.gl T.lFault.fn.kp T.lFault.bd .nil pass0 (pa_cons (pv 0) pa_nil)))
    (pss_cons (ps_set (i := 2) scRight.nd rfl (Or.inl rfl) pe_non)
    (pss_cons (ps_set (i := 3) scRight.nd rfl (Or.inl rfl) pe_non)
    (pss_cons (ps_weak (t' := tTry K A) (ps_try_as (i := 4) (tb := fun W => tAsg (tMkS A.kC (spKI K A) (WE W) (tVar 0)) (gName 3)) (ts := tSuite A) (Wout := fun _ _ _ _ => False) rfl rfl scRight.nd rfl rfl ⟨rfl, by decide, Or.inl T.bk.gC⟩ takes0
        (fun W pn xe tk _ => pss_one (ps_set (i := 3) scRight.nd rfl (Or.inl rfl) (by exact (pe_mkS T.mK (ok_ki T) hr5 rfl T.gK T.kI.bd (fun σ => passAt tk σ) (pv 0)))))
        (fun a oe cls d pn hz hf => pss_weak (by exact (pss_cons (ps_set (i := 2) scRight.nd rfl (Or.inl rfl) (pe_byBk T.bk hz hf (pv 4)))
          (pss_one (ps_if (PW.pt (pw_or (pt_val (pe_callB call_isi (by rfl) T.isi PyProof.Rows.boot_isinstance (pa_cons (pv 2) (pa_cons (pe_bltn (v := .ty "bool") (by rfl) T.bool_ (by decide +kernel) rfl) pa_nil))))
              (pw_or1 (pt_not (pt_val (pe_callB call_isi (by rfl) T.isi PyProof.Rows.boot_isinstance (pa_cons (pv 2) (pa_cons (pe_bltn (v := .ty "int") (by rfl) T.int_ PyProof.Rows.boot_int rfl) pa_nil))))))))
            (pss_one (ps_ret pe_bl)) pss_nil)))) (fun D σ H h => by
              obtain ⟨i, dd, u0, u1, u2, u3, u5, rfl, rfl, rfl, hd, q⟩ := h
              refine ⟨_, rfl, rfl, rfl, dd, _, rfl, hd, ?_⟩
              refine ⟨_, rfl, _, _, _, _, _, rfl, .ty "bool", .base (.int i), kt (r := false), _, rfl, ?_⟩
              refine iteF ⟨_, rfl, _, _, _, _, _, rfl, .ty "int", .base (.int i), kt (r := true), _, rfl, ?_⟩
              exact iteF q))) ?w)
    (pss_cons (ps_if (PW.pt (pw_or (pt_cmpR op_notN (pv 1) pe_non (nomark _)) (pw_or1 (pt_cmpR op_isN (pv 3) pe_non (nomark _)))))
        (pss_one (ps_ret (pe_and (pe_cmpR op_isN (pv 3) pe_non (nomark _)) (pe_one (pe_cmpR op_eq (pv 2) (pv 1) (nomark _)))))) pss_nil)
    (pss_cons (ps_if (PW.pt (pw_or (pt_not (pt_val (pe_callB call_isi (by rfl) T.isi PyProof.Rows.boot_isinstance (pa_cons (pe_fld (pv 3) rfl) (pa_cons (pe_bltn (v := .ty "tuple") (by rfl) T.tuple_ (by decide +kernel) rfl) pa_nil)))))
        (pw_or (pt_cmpR (op_neD hr.units) (pe_fld (pv 3) rfl) (pv 0) (nomark _))
        (pw_or1 (pt_cmpR (op_ownN (E := E0) T.eK T.eF T.nK T.kK.cm (ok_ke T) T.kE.bd hr2 pass0) (pv 3)
          (pe_weak (t' := tAgain A) (pe_make T.mK (ok_ki T) hr5 rfl T.gK T.kI.bd .nil passL (pa_cons (pe_callTy call_tuple_of (by rfl) T.tuple_ (by decide +kernel) (pa_cons (pe_callTy call_list_of (by rfl) T.list_ (by decide +kernel) (pa_cons (pv 0) pa_nil)) pa_nil)) pa_nil)) ?w3) (nomark _))))))
        (pss_one (ps_ret pe_bl)) pss_nil)
    (pss_cons (ps_set (i := 5) scRight.nd rfl (Or.inl rfl) (pe_weak (t' := tOther A) (pe_make T.mK (ok_ki T) hr5 rfl T.gK T.kI.bd .nil passL (pa_cons (pe_ifExp (pt_cmpR op_gt (pe_callB call_len_seq (by rfl) T.len PySem.boot_len (pa_cons (pv 0) pa_nil)) pe_int (nomark _))
        (pe_tup (pa_cons pe_int pa_nil)) (pe_tup (pa_cons pe_str (pa_cons pe_int (pa_cons pe_int pa_nil))))) pa_nil)) ?w2))
    (pss_one (ps_ret (pe_and (pe_not (pe_cmpR (op_ownE (E := E0) T.eK T.eF (ok_ke T) T.kE.bd hr1 pass0) (pv 3) (pv 0) (nomark _)))
      (pe_and (pe_not (pe_cmpR (op_ownE (E := E0) T.eK T.eF (ok_ke T) T.kE.bd hr1 pass0) (pv 3) (pe_weak (t' := tNewP A) (pe_make T.mP (ok_pi T) hr rfl T.gP T.pI.bd .nil pass0 (pa_cons (pe_tup (pa_cons pe_str pa_nil)) pa_nil)) fun σ H Q k => w_prog k) (nomark _)))
      (pe_and (pe_not (pe_cmpR (op_ownE (E := E0) T.eK T.eF (ok_ke T) T.kE.bd hr1 pass0) (pv 3) (pv 5) (nomark _)))
      (pe_one (pe_not (pe_cmpR (op_ownE (E := E0) T.eK T.eF (ok_ke T) T.kE.bd hr1 pass0) (pv 3) (pe_ix ix_tup (pv 0) pe_int (fun _ _ => rfl)) (nomark _))))))))))))))), ?_⟩
  case w =>
    rintro D σ H ⟨v, o, u1, u2, u5, rfl, ht, kE, kQ⟩
    refine ⟨_, rfl, fun x dx hx hd hne => ?_⟩
    have s1 : Same H (upd (upd H dx (.own x)) x (.ins A.kC dx [])) := sm_put (sm_put (Same.refl H) hd) hx
    refine ⟨x, dx, v, o, rfl, upd_same, ht _ s1, fun i e d H' s' hn => ?_, fun e H' s' => ⟨rfl, ?_⟩⟩
    · refine ⟨true, T.bk.te, fun _ a ha => ?_, fun z => Bool.noConfusion z⟩
      exact ⟨i, d, _, _, _, _, _, rfl, rfl, rfl, upd_same, kE i e _ (sm_upd (s1.trans s') hn)⟩
    · exact kQ e _ x dx (sm_put (s1.trans s') hx) upd_same
  case w2 =>
    rintro σ H Q ⟨a, xs, u1, u2, u3, u4, u5, rfl, ha, k⟩
    refine ⟨_, rfl, a, xs, rfl, .inr (SqT.of ha), _, _, rfl, rfl, _, rfl, ?_⟩
    by_cases c : (1 : Int) < (xs.length : Int)
    · rw [decide_eq_true c]
      refine iteT ⟨(by show 1 ≤ sizeLine; decide), fun q hq => ?_⟩
      exact w_kindT (σ := []) T upd_same due0 (fun x hx => by cases List.mem_singleton.mp hx; decide +kernel) fun H' x s' kn => k H' x q _ ((sm_upd (Same.refl H) hq).trans s') kn (by show xs.length ≠ 1; omega)
    · rw [decide_eq_false c]
      refine iteF ⟨(by show 3 ≤ sizeLine; decide), fun q hq => ?_⟩
      refine w_kindT (σ := []) T upd_same due3 (fun x hx => ?_) fun H' x s' kn => k H' x q _ ((sm_upd (Same.refl H) hq).trans s') kn (by show xs.length ≠ 3; omega)
      rcases List.mem_cons.mp hx with rfl | hx
      · decide +kernel
      rcases List.mem_cons.mp hx with rfl | hx
      · decide +kernel
      · cases List.mem_singleton.mp hx
        decide +kernel
  case w3 =>
    rintro σ H Q ⟨a, xs, u1, u2, u3, u4, u5, rfl, ha, hdue, hok, k⟩
    refine ⟨_, rfl, a, xs, rfl, .inr (SqT.of ha), fun l hl => ⟨l, xs, rfl, .inl ⟨SqL.of upd_same, fun q hq => ?_⟩⟩⟩
    exact w_kindT (σ := []) T upd_same hdue hok fun H' x s' kn => k H' x q ((sm_upd (sm_upd (Same.refl H) hl) hq).trans s') kn
  obtain ⟨o, ho⟩ := ht.keep T
  refine ⟨_, rfl, v, o, rfl, ho _ (Same.refl H), ?_⟩
  refine ⟨v, o, _, _, _, rfl, ho, fun i e H1 s1 => ?_, fun e H1 x dx s1 hx => ?_⟩
  · rw [e]
    refine ⟨_, rfl, rfl, _, rfl, iteT ?_⟩
    refine ⟨_, rfl, rfl, _, rfl, iteT ⟨_, rfl, _, rfl, rfl, ?_⟩⟩
    rw [show decide (V.int i = oI (some i)) = true from decide_eq_true rfl]
    exact k H1 s1
  · obtain ⟨xs, rfl, hdue, hlen, hok⟩ := due_none e
    obtain ⟨a, rfl, ha, _⟩ := ho H1 s1
    rw [e]
    have kn1 : KndAt A H1 x a xs := ⟨⟨dx, hx⟩, ha, hok⟩
    refine ⟨_, rfl, rfl, _, rfl, iteF ⟨_, rfl, rfl, _, rfl, iteF ?_⟩⟩
    refine ⟨_, rfl, x, A.kC, dx, _, _, rfl, hx, T.kK.cl, T.kK.nW, rfl, _, _, _, _, _, rfl, .ty "tuple", .base (.tup ha), kit_ty (r := true) (by decide +kernel), _, rfl, ?_⟩
    refine iteF ⟨_, rfl, x, A.kC, dx, _, _, rfl, hx, T.kK.cl, T.kK.nW, rfl, _, rfl, _, _, dp_tup (SqT.of ha) hok, dp_tup (SqT.of ha) hok, dT_ok hok, dT_ok hok, _, rfl, ?_⟩
    rw [dT_self hok]
    refine iteF ⟨_, rfl, a, xs, _, _, _, _, _, rfl, ha, hdue, hok, fun H3 x3 q s13 kn3 => ?_⟩
    obtain ⟨⟨dx3, hx3⟩, hq3, _⟩ := kn3
    refine ⟨x, dx, _, _, rfl, s13 _ _ hx, .base (.ins hx3 T.kK.cl T.kK.ca T.kK.cn T.kK.ct T.kK.cm), T.nf5, x, a, _, xs, rfl, sm_knd s13 kn1, .inl ⟨x3, q, xs, rfl, ⟨⟨dx3, hx3⟩, hq3, hok⟩, _, rfl, _, rfl, ?_⟩⟩
    rw [dT_self hok]
    refine iteF ⟨a, xs, _, _, _, _, _, rfl, s13 _ _ ha, fun H4 y wb ys s4 kn4 hne => ?_⟩
    have s14 := s13.trans s4
    have kk4 := sm_knd s14 kn1
    have hx4 := s14 _ _ hx
    have ha4 := s14 _ _ ha
    refine ⟨_, rfl, _, rfl, x, dx, _, _, rfl, hx4, .base (.tup ha4), T.nf1, x, a, _, xs, rfl, kk4, .inr ⟨_, .base (.tup ha4), T.ki1, _, rfl, _, rfl, iteT ?_⟩⟩
    refine ⟨_, rfl, fun H5 z dz fs s5 e5 => ?_⟩
    have s15 := s14.trans s5
    have kk5 := sm_knd s15 kn1
    have hx5 := s15 _ _ hx
    have ha5 := s15 _ _ ha
    refine ⟨x, dx, _, _, rfl, hx5, .base (.ins e5 T.kP.cl T.kP.ca T.kP.cn T.kP.ct T.kP.cm), T.nf4, x, a, _, xs, rfl, kk5, .inr ⟨_, .base (.ins e5 T.kP.cl T.kP.ca T.kP.cn T.kP.ct T.kP.cm), T.kP.i5, _, rfl, _, rfl, iteT ?_⟩⟩
    obtain ⟨⟨dy, hy5⟩, hwb5, hys⟩ := sm_knd s5 kn4
    refine ⟨_, rfl, _, rfl, x, dx, _, _, rfl, hx5, .base (.ins hy5 T.kK.cl T.kK.ca T.kK.cn T.kK.ct T.kK.cm), T.nf5, x, a, _, xs, rfl, kk5, .inl ⟨y, wb, ys, rfl, ⟨⟨dy, hy5⟩, hwb5, hys⟩, _, rfl, _, rfl, ?_⟩⟩
    rw [dT_len hne]
    refine iteT ?_
    obtain ⟨x0, hx0⟩ : ∃ x0, xs[0]? = some x0 := ⟨xs[0], List.getElem?_eq_getElem (by omega)⟩
    have h0 := hok x0 (List.mem_of_getElem? hx0)
    refine ⟨_, rfl, _, rfl, a, xs, _, x0, rfl, rfl, SqT.of ha5, atI_nat (j := 0) hx0, ?_⟩
    cases x0 with
    | int i => exact ⟨x, dx, _, _, rfl, hx5, .base (.int i), T.nf2, x, a, _, xs, rfl, kk5, .inr ⟨_, .base (.int i), T.ki2, _, rfl, k H5 (s1.trans s15)⟩⟩
    | str z => exact ⟨x, dx, _, _, rfl, hx5, .base (.str z), T.nf3, x, a, _, xs, rfl, kk5, .inr ⟨_, .base (.str z), T.ki3, _, rfl, k H5 (s1.trans s15)⟩⟩
    | _ => cases h0
end
end Knd

set_option Elab.async false
set_option linter.all false
set_option maxRecDepth 100000
set_option maxHeartbeats 3000000
namespace Knd
open PySem PySem.Spec PyProof.Rows L2
def spPot (K : PySem.W.Frag) : Sp := fun vs H Q _ => ∃ (a : Addr) (ns : List Int), vs = [.ref a] ∧ SqL K H a (ns.map V.int) ∧ ∀ H' p g s, PotAt H' p g s → Same H H' → H p = none → H g = none → Q (.ref p) H'
def spLaw (K : PySem.W.Frag) : Sp := fun vs H Q _ => ∃ (a : Addr) (ns : List Int), vs = [.ref a] ∧ SqL K H a (ns.map V.int) ∧ ns.length ≤ 63 ∧ ∀ H', Q (.bl true) H'
theorem cut63 {ns : List Int} : cutV (ns.map V.int) none (some 63) = (ns.take 63).map V.int := by
  show cutV (ns.map V.int) none (some ((63 : Nat) : Int)) = _
  unfold cutV
  rw [HT.sIx_none, HT.sIx_nat, List.drop_zero, Nat.sub_zero, List.length_map, List.map_take]
  by_cases c : 63 ≤ ns.length
  · rw [Nat.min_eq_left c]
  · rw [Nat.min_eq_right (by omega), List.take_of_length_le (by rw [List.length_map]; exact Nat.le_refl _), List.take_of_length_le (by rw [List.length_map]; omega)]
theorem sm_seqL {K : PySem.W.Frag} {H H' : Hp} {a : Addr} {xs : List V} (e : Same H H') (h : SqL K H a xs) : SqL K H' a xs := by
  rcases h with (h | ⟨o, h⟩) | h
  · exact .inl (.inl (e _ _ h))
  · exact .inl (.inr ⟨o, e _ _ h⟩)
  · exact .inr h
theorem int_at {ns : List Int} {i : Nat} {x : V} (h : (ns.map V.int)[i]? = some x) : ∃ n, x = .int n ∧ i < ns.length := by
  rw [List.getElem?_map] at h
  cases e : ns[i]? with
  | none => rw [e] at h; cases h
  | some n =>
    rw [e] at h
    exact ⟨n, (Option.some.inj h).symm, (List.getElem?_eq_some_iff.mp e).1⟩
theorem iteB {b : Bool} {P R : Prop} (h1 : P) (h2 : R) : if b = true then P else R := by
  cases b with
  | true => exact h1
  | false => exact h2
/-- a list of ints that grows at D -/
def Acc (H : Hp) (D : Addr) (i : Nat) : Prop := ∃ ms : List Int, H D = some (.lst (ms.map V.int)) ∧ ms.length ≤ i
theorem Acc.push {H : Hp} {D : Addr} {i : Nat} (h : Acc H D i) (hi : i < 63) (m : Int) : ∃ acc, H D = some (.lst acc) ∧ acc.length < sizeLine ∧ Acc (upd H D (.lst (acc ++ [.int m]))) D (i + 1) := by
  obtain ⟨ms, e, l⟩ := h
  have : (64 : Nat) < sizeLine := by decide
  refine ⟨_, e, by rw [List.length_map]; omega, ms ++ [m], by rw [upd_same, List.map_append]; rfl, by rw [List.length_append]; show ms.length + 1 ≤ i + 1; omega⟩
theorem Acc.more {H : Hp} {D : Addr} {i : Nat} (h : Acc H D i) : Acc H D (i + 1) := by
  obtain ⟨ms, e, l⟩ := h
  exact ⟨ms, e, by omega⟩
section
variable {w : World} {K : PySem.W.Frag} {mg : Str → Option Value} {base : Heap} {A : Ads}
theorem scPot : FnScope ["_law_script", "_law_cells", "_law_greats", "_law_smalls", "_law_item_here"] ["_law_script"] (defScope (top 33)) := ⟨rfl, rfl, rfl, by decide +kernel, rfl, by decide +kernel, by decide +kernel⟩
theorem ok_pot (T : Txt K mg A) : FnOk pw w K mg base CX0 1 A.lPot.a A.lPot.d ["_law_script"] (spPot K) := by
  refine T.lPot.fn.ok scPot (fun vs H Q E h => by obtain ⟨a, ns, rfl, _⟩ := h; rfl) (fun cdv Ar outer s0 H vs Q E hr h => ?_)
  obtain ⟨a, ns, rfl, hS, k⟩ := h
  refine ⟨_, pss_cons (ps_setLc (i := 1) (own := [("_law_item_here", 4)]) (g := gName 4) (tt := tYes) rfl scPot.nd rfl rfl (sw_true rfl rfl rfl rfl) (pi_list (pe_slice sl_list (pv 0) po_no (po_some pe_int)))
      (blkOk_by (N := ["_law_script", "_law_cells", "_law_greats", "_law_smalls", "_law_item_here"]) (sc := defScope (top 33)) (by decide +kernel)) (fun _ _ _ _ _ => pg_name (i := 4) scPot.nd rfl (Or.inl rfl) (Or.inr rfl)) (fun _ _ _ _ _ => pts_nil)
      (fun _ _ _ _ _ => pe_callTy call_int1 (by rfl) T.int_ PyProof.Rows.boot_int (pa_cons (pv 4) pa_nil)))
    (pss_cons (ps_setLc (i := 2) (own := [("_law_item_here", 4)]) (g := gName 4) rfl scPot.nd rfl rfl (sw_true rfl rfl rfl rfl) (pi_list (pv 1))
      (blkOk_by (N := ["_law_script", "_law_cells", "_law_greats", "_law_smalls", "_law_item_here"]) (sc := defScope (top 33)) (by decide +kernel)) (fun _ _ _ _ _ => pg_name (i := 4) scPot.nd rfl (Or.inl rfl) (Or.inr rfl))
      (fun _ _ _ _ _ => pts_one (pt_cmpR op_ge (pe_callB call_abs (by rfl) T.abs_ (by decide +kernel) (pa_cons (pv 4) pa_nil)) (pe_op op_pow pe_int pe_int) (nomark _)))
      (fun _ _ _ _ _ => pe_callB call_abs (by rfl) T.abs_ (by decide +kernel) (pa_cons (pv 4) pa_nil)))
    (pss_cons (ps_set (i := 3) scPot.nd rfl (Or.inl rfl) (pe_op op_cat (pe_lc (own := [("_law_item_here", 4)]) (g := gName 4) rfl scPot.nd (pi_list (pv 1))
        (blkOk_by (N := ["_law_script", "_law_cells", "_law_greats", "_law_smalls", "_law_item_here"]) (sc := defScope (top 33)) (by decide +kernel)) (fun _ _ _ _ _ => pg_name (i := 4) scPot.nd rfl (Or.inl rfl) (Or.inr rfl))
        (fun _ _ _ _ _ => pts_one (pt_cmpR op_lt (pe_callB call_abs (by rfl) T.abs_ (by decide +kernel) (pa_cons (pv 4) pa_nil)) (pe_op op_pow pe_int pe_int) (nomark _)))
        (fun _ _ _ _ _ => pe_op op_mod (pe_callTy call_int1 (by rfl) T.int_ PyProof.Rows.boot_int (pa_cons (pv 4) pa_nil)) pe_int))
      (pe_lst (pa_cons (pe_op op_add (pe_callB call_len_seq (by rfl) T.len PySem.boot_len (pa_cons (pv 1) pa_nil)) pe_int) pa_nil))))
    (pss_one (ps_ret (pe_lst (pa_cons (pv 2) (pa_cons (pv 3) (pa_cons pe_int (pa_cons (pe_op op_mod (pe_callTy call_int1 (by rfl) T.int_ PyProof.Rows.boot_int (pa_cons (pe_callB (cr_sum (by rfl)) (by rfl) T.sum_ (by decide +kernel) (pa_cons (pv 3) pa_nil)) pa_nil)) pe_int) pa_nil))))))))), ?_⟩
  have hsl : (200 : Nat) < sizeLine := by decide
  -- cells
  refine ⟨_, rfl, _, rfl, a, _, rfl, hS, fun l hl => ?_⟩
  rw [cut63]
  obtain ⟨cs, ecs⟩ : ∃ cs, cs = ns.take 63 := ⟨_, rfl⟩
  have cl : cs.length ≤ 63 := by rw [ecs, List.length_take]; omega
  rw [← ecs]
  obtain ⟨H1, eH1⟩ : ∃ H1 : Hp, H1 = upd H l (.lst (cs.map V.int)) := ⟨_, rfl⟩
  rw [← eH1]
  have s1 : Same H H1 := by rw [eH1]; exact sm_upd (Same.refl H) hl
  have l1 : H1 l = some (.lst (cs.map V.int)) := by rw [eH1, upd_same]
  refine ⟨l, rfl, ⟨_, SqL.of l1⟩, fun D hD => ?_⟩
  have nlD : l ≠ D := ne_of_none l1 hD
  have fD : H D = none := s1.free hD
  refine lc_list (K := K) (a := l) (xs := cs.map V.int) (fun i H' => Same H H' ∧ H' l = some (.lst (cs.map V.int)) ∧ Acc H' D i) ⟨sm_upd s1 hD, by rw [upd_ne nlD]; exact l1, [], upd_same, Nat.le_refl _⟩ (fun i H' _ q => SqL.of q.2.1) ?_ ?_
  · rintro i x H2 hx ⟨s2, l2, ac⟩
    obtain ⟨n, rfl, hi⟩ := int_at hx
    refine ⟨rfl, _, rfl, .inl ⟨_, rfl, ?_⟩⟩
    obtain ⟨acc, e, al, ac'⟩ := ac.push (by omega) n
    exact ⟨acc, e, al, sm_put s2 fD, by rw [upd_ne nlD]; exact l2, ac'⟩
  · rintro H2 ⟨s2, l2, cells, c2, cl2⟩
    rw [List.length_map] at cl2
    -- greats
    refine ⟨_, rfl, D, rfl, ⟨_, SqL.of c2⟩, fun G hG => ?_⟩
    have nDG : D ≠ G := ne_of_none c2 hG
    have fG : H G = none := s2.free hG
    refine lc_list (K := K) (a := D) (xs := cells.map V.int) (fun i H' => Same H H' ∧ H' D = some (.lst (cells.map V.int)) ∧ Acc H' G i) ⟨sm_upd s2 hG, by rw [upd_ne nDG]; exact c2, [], upd_same, Nat.le_refl _⟩ (fun i H' _ q => SqL.of q.2.1) ?_ ?_
    · rintro i x H3 hx ⟨s3, c3, ac⟩
      obtain ⟨n, rfl, hi⟩ := int_at hx
      refine ⟨rfl, _, rfl, _, rfl, _, _, rfl, rfl, ⟨by decide, by decide, by decide⟩, _, _, rfl, rfl, _, rfl, iteB ?_ ?_⟩
      · refine ⟨_, rfl, _, rfl, ?_⟩
        obtain ⟨acc, e, al, ac'⟩ := ac.push (by omega) (if n < 0 then -n else n)
        exact ⟨acc, e, al, sm_put s3 fG, by rw [upd_ne nDG]; exact c3, ac'⟩
      · exact ⟨s3, c3, ac.more⟩
    · rintro H3 ⟨s3, c3, gs, g3, gl3⟩
      -- smalls
      refine ⟨_, rfl, D, rfl, ⟨_, SqL.of c3⟩, fun S hS' => ?_⟩
      have nDS : D ≠ S := ne_of_none c3 hS'
      have nGS : G ≠ S := ne_of_none g3 hS'
      have fS : H S = none := s3.free hS'
      refine lc_list (K := K) (a := D) (xs := cells.map V.int) (fun i H' => Same H H' ∧ H' D = some (.lst (cells.map V.int)) ∧ H' G = some (.lst (gs.map V.int)) ∧ Acc H' S i)
        ⟨sm_upd s3 hS', by rw [upd_ne nDS]; exact c3, by rw [upd_ne nGS]; exact g3, [], upd_same, Nat.le_refl _⟩ (fun i H' _ q => SqL.of q.2.1) ?_ ?_
      · rintro i x H4 hx ⟨s4, c4, g4, ac⟩
        obtain ⟨n, rfl, hi⟩ := int_at hx
        refine ⟨rfl, _, rfl, _, rfl, _, _, rfl, rfl, ⟨by decide, by decide, by decide⟩, _, _, rfl, rfl, _, rfl, iteB ?_ ?_⟩
        · refine ⟨_, rfl, .inl ⟨_, rfl, _, _, rfl, rfl, (by show (0 : Int) < 1000000007; decide), ?_⟩⟩
          obtain ⟨acc, e, al, ac'⟩ := ac.push (by omega) (n % 1000000007)
          exact ⟨acc, e, al, sm_put s4 fS, by rw [upd_ne nDS]; exact c4, by rw [upd_ne nGS]; exact g4, ac'⟩
        · exact ⟨s4, c4, g4, ac.more⟩
      · rintro H4 ⟨s4, c4, g4, ss, e4, sl4⟩
        rw [List.length_map] at sl4
        refine ⟨_, rfl, D, _, rfl, .inl (SqL.of c4), _, _, rfl, rfl, (by show 1 ≤ sizeLine; decide), fun L hL => ?_⟩
        have s5 := sm_upd (o := .lst [V.int (((cells.map V.int).length : Int) + 1)]) (Same.refl H4) hL
        refine ⟨S, L, _, _, rfl, rfl, s5 _ _ e4, upd_same, by rw [List.length_map]; show ss.length + 1 ≤ _; omega, fun M hM => ?_⟩
        obtain ⟨H5, eH5⟩ : ∃ H5 : Hp, H5 = upd H4 L (.lst [V.int (((cells.map V.int).length : Int) + 1)]) := ⟨_, rfl⟩
        rw [← eH5] at s5 hM ⊢
        have s6 := sm_upd (o := .lst (ss.map V.int ++ [V.int (((cells.map V.int).length : Int) + 1)])) s5 hM
        have em : ∀ z : Int, ss.map V.int ++ [V.int z] = (ss ++ [z]).map V.int := fun z => by rw [List.map_append]; rfl
        refine ⟨_, rfl, _, rfl, _, rfl, M, ss ++ [_], rfl, SqL.of (by rw [upd_same, ← em]), .inl ⟨_, rfl, _, _, rfl, rfl, (by show (0 : Int) < 999983; decide), (by show 4 ≤ sizeLine; decide), fun p hp => ?_⟩⟩
        have s7 := sm_upd (o := .lst [V.ref G, V.ref M, .int 0, .int ((ss ++ [((cells.map V.int).length : Int) + 1]).sum % 999983)]) s6 hp
        have hM7 : upd (upd H5 M (.lst (ss.map V.int ++ [V.int (((cells.map V.int).length : Int) + 1)]))) p (.lst [V.ref G, V.ref M, .int 0, .int ((ss ++ [((cells.map V.int).length : Int) + 1]).sum % 999983)]) M = some (.lst ((ss ++ [((cells.map V.int).length : Int) + 1]).map V.int)) := by
          rw [upd_ne (ne_of_none upd_same hp), upd_same, em]
        refine k _ p G M ⟨⟨gs, _, _, _, upd_same, s7 _ _ g4, hM7, fun z => ?_⟩, ne_of_none (s5 _ _ g4) hM⟩ (s4.trans s7) (s4.free (s6.free hp)) fG
        have := congrArg List.length z
        rw [List.length_append] at this
        cases this
theorem scLaw : FnScope ["_law_script", "_law_pot_here", "_law_turn"] ["_law_script"] (defScope (top 44)) := ⟨rfl, rfl, rfl, by decide +kernel, rfl, by decide +kernel, by decide +kernel⟩
theorem ok_law (T : Txt K mg A) {fa : Addr} {fd : FuncData} (F : Fun K "law" "law" (top 44) fa fd) : FnOk pw w K mg base CX0 11 fa fd ["_law_script"] (spLaw K) := by
  refine F.ok scLaw (fun vs H Q E h => by obtain ⟨a, ns, rfl, _⟩ := h; rfl) (fun cdv Ar outer s0 H vs Q E hr h => ?_)
  obtain ⟨a, ns, rfl, hS, hlen, k⟩ := h
  have hr1 : Room 1 _ := hr.mono (by decide)
  have hr8 : Room 8 _ := hr.mono (by decide)
  refine ⟨_, pss_cons (ps_set (i := 1) scLaw.nd rfl (Or.inl rfl) (pe_call (ok_pot T) hr1 rfl T.lPot.gl T.lPot.fn.kp T.lPot.bd .nil pass0 (pa_cons (pv 0) pa_nil)))
    (pss_cons (ps_for PassesOwn.never rfl (pi_range1 rfl T.range (pa_cons (pe_op op_add pe_int (pe_op op_fdiv (pe_callB call_len_seq (by rfl) T.len PySem.boot_len (pa_cons (pe_slice sl_list (pv 0) po_no (po_some pe_int)) pa_nil)) pe_int)) pa_nil)) (pg_name (i := 2) scLaw.nd rfl (.inl rfl))
      (pss_one (ps_if (pt_not (pt_val (pe_call (ok_right T) hr8 rfl T.lRight.gl T.lRight.fn.kp T.lRight.bd .nil pass0 (pa_cons (pe_call (ok_thing T) hr rfl T.lThing.gl T.lThing.fn.kp T.lThing.bd .nil pass0 (pa_cons (pv 1) pa_nil)) pa_nil)))) (pss_one (ps_ret pe_bl)) pss_nil)))
    (pss_one (ps_ret pe_bl))), ?_⟩
  refine ⟨_, rfl, a, ns, rfl, hS, fun H1 p g s P1 s1 fp fg => ?_⟩
  refine ⟨_, rfl, _, rfl, a, _, rfl, sm_seqL s1 hS, fun l hl => ?_⟩
  rw [cut63]
  have cl : (ns.take 63).length ≤ 63 := by rw [List.length_take]; omega
  have s2 := sm_upd (o := .lst ((ns.take 63).map V.int)) s1 hl
  refine ⟨l, _, rfl, .inl (SqL.of upd_same), _, _, rfl, rfl, ⟨by decide, by decide⟩, _, _, rfl, rfl, _, rfl, ?_, ?_, ?_⟩
  · rw [List.length_map]; omega
  · rw [List.length_map]; omega
  refine for_range (lo := 0) (fun i σ H' => ∃ (u : Option V), σ = [some (.ref a), some (.ref p), u] ∧ PotAt H' p g s) ⟨none, rfl, P1.same (sm_upd (Same.refl H1) hl)⟩ ?_ ?_
  · rintro i σ H3 hi ⟨u, rfl, P3⟩
    refine ⟨_, rfl, p, g, s, rfl, P3, fun H4 v P4 K4 hv => ?_⟩
    refine ⟨v, rfl, hv, fun H5 s5 => ⟨_, rfl, iteF ?_⟩⟩
    exact ⟨_, rfl, P4.same s5⟩
  · rintro σ H3 ⟨u, rfl, P3⟩
    exact k H3
end
end Knd

set_option Elab.async false
set_option linter.all false
set_option maxRecDepth 100000
set_option maxHeartbeats 4000000
namespace Knd
open PySem PySem.Spec PyProof.Rows L2 PySem.W PySem.HandSPX
/-- an error of the class at S is what «except S» names -/
theorem exm_self {K : PySem.W.Frag} {S : Addr} (h1 : PySem.W.subIn K (.ref S) (.type "BaseException") = some true) (h2 : PySem.W.isClsIn K S = true) (h3 : PySem.W.typeIn K (.ref S) = some (.type "type")) (h4 : PySem.W.subIn K (.ref S) (.ref S) = some true) :
    PySem.W.exmOne K (.ref S) (.ref S) = some true := by
  have a1 : (PySem.W.subIn K (.ref S) (.type "BaseException") == some true) = true := by rw [h1] <;> rfl
  have a2 : ((PySem.W.clsIn K S).isSome && PySem.W.typeIn K (.ref S) == some (.type "type")) = true := by
    have h2' : (PySem.W.clsIn K S).isSome = true := h2
    rw [h2', h3] <;> rfl
  show (if (PySem.W.subIn K (.ref S) (.type "BaseException") == some true) = true then (if ((PySem.W.clsIn K S).isSome && PySem.W.typeIn K (.ref S) == some (.type "type")) = true then PySem.W.subIn K (.ref S) (.ref S) else none) else none) = some true
  rw [if_pos a1, if_pos a2]
  exact h4

theorem all_mk {w : World} {K : PySem.W.Frag} {h : Heap} {mg : Str → Option Value}
    {fa bC kC pC eC f_b cda cc : Addr}
    {f_cInt f_cNum f_cName f_kArr f_kEnd f_kFlt f_pGive f_pTake f_pWord f_pAsk f_pEnd f_pSec f_pEnds f_pUses f_pWt f_pFlt f_lPot f_lDraw f_lAny f_lShape f_lKind f_lDeep f_lFault f_lItem f_lSpoil f_lThing f_lRight f_law f_kI f_kE f_pI : Addr}
    {od_cInt an_cInt od_cNum an_cNum od_cName an_cName od_kArr an_kArr od_kEnd an_kEnd od_kFlt an_kFlt od_pGive an_pGive od_pTake an_pTake od_pWord an_pWord od_pAsk an_pAsk od_pEnd an_pEnd od_pSec an_pSec od_pEnds an_pEnds od_pUses an_pUses od_pWt an_pWt od_pFlt an_pFlt od_lPot an_lPot od_lDraw an_lDraw od_lAny an_lAny od_lShape an_lShape od_lKind an_lKind od_lDeep an_lDeep od_lFault an_lFault od_lItem an_lItem od_lSpoil an_lSpoil od_lThing an_lThing od_lRight an_lRight od_law an_law od_kI an_kI od_kE an_kE od_pI an_pI od_b an_b : Option Addr}
    {sl_cInt sl_cNum sl_cName sl_kArr sl_kEnd sl_kFlt sl_pGive sl_pTake sl_pWord sl_pAsk sl_pEnd sl_pSec sl_pEnds sl_pUses sl_pWt sl_pFlt sl_lPot sl_lDraw sl_lAny sl_lShape sl_lKind sl_lDeep sl_lFault sl_lItem sl_lSpoil sl_lThing sl_lRight sl_law sl_kI sl_kE sl_pI sl_b : Array (Option Value)}
    {oc_cInt kV_cInt dc_cInt pm_cInt cd_cInt ct_cInt oc_cNum kV_cNum dc_cNum pm_cNum cd_cNum ct_cNum oc_cName kV_cName dc_cName pm_cName cd_cName ct_cName oc_kArr kV_kArr dc_kArr pm_kArr cd_kArr ct_kArr oc_kEnd kV_kEnd dc_kEnd pm_kEnd cd_kEnd ct_kEnd oc_kFlt kV_kFlt dc_kFlt pm_kFlt cd_kFlt ct_kFlt oc_pGive kV_pGive dc_pGive pm_pGive cd_pGive ct_pGive oc_pTake kV_pTake dc_pTake pm_pTake cd_pTake ct_pTake oc_pWord kV_pWord dc_pWord pm_pWord cd_pWord ct_pWord oc_pAsk kV_pAsk dc_pAsk pm_pAsk cd_pAsk ct_pAsk oc_pEnd kV_pEnd dc_pEnd pm_pEnd cd_pEnd ct_pEnd oc_pSec kV_pSec dc_pSec pm_pSec cd_pSec ct_pSec oc_pEnds kV_pEnds dc_pEnds pm_pEnds cd_pEnds ct_pEnds oc_pUses kV_pUses dc_pUses pm_pUses cd_pUses ct_pUses oc_pWt kV_pWt dc_pWt pm_pWt cd_pWt ct_pWt oc_pFlt kV_pFlt dc_pFlt pm_pFlt cd_pFlt ct_pFlt oc_lPot kV_lPot dc_lPot pm_lPot cd_lPot ct_lPot oc_lDraw kV_lDraw dc_lDraw pm_lDraw cd_lDraw ct_lDraw oc_lAny kV_lAny dc_lAny pm_lAny cd_lAny ct_lAny oc_lShape kV_lShape dc_lShape pm_lShape cd_lShape ct_lShape oc_lKind kV_lKind dc_lKind pm_lKind cd_lKind ct_lKind oc_lDeep kV_lDeep dc_lDeep pm_lDeep cd_lDeep ct_lDeep oc_lFault kV_lFault dc_lFault pm_lFault cd_lFault ct_lFault oc_lItem kV_lItem dc_lItem pm_lItem cd_lItem ct_lItem oc_lSpoil kV_lSpoil dc_lSpoil pm_lSpoil cd_lSpoil ct_lSpoil oc_lThing kV_lThing dc_lThing pm_lThing cd_lThing ct_lThing oc_lRight kV_lRight dc_lRight pm_lRight cd_lRight ct_lRight oc_law kV_law dc_law pm_law cd_law ct_law oc_kI kV_kI dc_kI pm_kI cd_kI ct_kI oc_kE kV_kE dc_kE pm_kE cd_kE ct_kE oc_pI kV_pI dc_pI pm_pI cd_pI ct_pI : Value}
    {oc_b dc_b pm_b ct_b ccl cl : Value} {tk1 tk2 tf : Tok} {cdd cld : Option Addr} {ccs csl : Array (Option Value)} {cvs : Array Value} {file : Str}
    {nm q : Str} {N : Addr} {bs : List Value} {sn : List Str} {sub : List Value} {ab : Bool} {col : Option Bool} {dd : Option Addr} {m0 m1' m2' m3 m5 : Option Value}
    (X : K.In h) (G : h.Ns mainGlobals mg) (hfa : mg "law" = some (.ref fa))
    (aB : PySem.W.nsIn K mainGlobals "BadKind" = some (some (.ref bC)))
    (aK : PySem.W.nsIn K mainGlobals "Kind" = some (some (.ref kC)))
    (aP : PySem.W.nsIn K mainGlobals "Program" = some (some (.ref pC)))
    (n_isinstance : PySem.W.nsIn K mainGlobals "isinstance" = some none)
    (n_int : PySem.W.nsIn K mainGlobals "int" = some none)
    (n_bool : PySem.W.nsIn K mainGlobals "bool" = some none)
    (n_str : PySem.W.nsIn K mainGlobals "str" = some none)
    (n_tuple : PySem.W.nsIn K mainGlobals "tuple" = some none)
    (n_list : PySem.W.nsIn K mainGlobals "list" = some none)
    (n_len : PySem.W.nsIn K mainGlobals "len" = some none)
    (n_enumerate : PySem.W.nsIn K mainGlobals "enumerate" = some none)
    (n_range : PySem.W.nsIn K mainGlobals "range" = some none)
    (n_all : PySem.W.nsIn K mainGlobals "all" = some none)
    (n_abs : PySem.W.nsIn K mainGlobals "abs" = some none)
    (n_sum : PySem.W.nsIn K mainGlobals "sum" = some none)
    (n_max : PySem.W.nsIn K mainGlobals "max" = some none)
    (n_super : PySem.W.nsIn K mainGlobals "super" = some none)
    (m1 : PySem.W.nsIn K mainGlobals "MOST_WORDS_kinds" = some (some (.int 4000 tk1)))
    (m2 : PySem.W.nsIn K mainGlobals "MOST_WORDS_programs" = some (some (.int 1000 tk2)))
    (a_cInt : PySem.W.nsIn K mainGlobals "is_integer" = some (some (.ref f_cInt)))
    (l_cInt : K.lookup f_cInt = some ⟨oc_cInt, od_cInt, .func (PySem.W.fnOf "is_integer" "is_integer" (defArgs (top 5)) (defBody (top 5)) (defScope (top 5)) .none kV_cInt dc_cInt pm_cInt an_cInt cd_cInt ct_cInt), sl_cInt⟩)
    (c_cInt : PySem.W.codeIn K cd_cInt "is_integer" = true)
    (k_cInt : PySem.W.keepIn K (.ref f_cInt) = true)
    (a_cNum : PySem.W.nsIn K mainGlobals "is_number" = some (some (.ref f_cNum)))
    (l_cNum : K.lookup f_cNum = some ⟨oc_cNum, od_cNum, .func (PySem.W.fnOf "is_number" "is_number" (defArgs (top 6)) (defBody (top 6)) (defScope (top 6)) .none kV_cNum dc_cNum pm_cNum an_cNum cd_cNum ct_cNum), sl_cNum⟩)
    (c_cNum : PySem.W.codeIn K cd_cNum "is_number" = true)
    (k_cNum : PySem.W.keepIn K (.ref f_cNum) = true)
    (a_cName : PySem.W.nsIn K mainGlobals "is_name" = some (some (.ref f_cName)))
    (l_cName : K.lookup f_cName = some ⟨oc_cName, od_cName, .func (PySem.W.fnOf "is_name" "is_name" (defArgs (top 7)) (defBody (top 7)) (defScope (top 7)) .none kV_cName dc_cName pm_cName an_cName cd_cName ct_cName), sl_cName⟩)
    (c_cName : PySem.W.codeIn K cd_cName "is_name" = true)
    (k_cName : PySem.W.keepIn K (.ref f_cName) = true)
    (a_kArr : PySem.W.nsIn K mainGlobals "is_arrow" = some (some (.ref f_kArr)))
    (l_kArr : K.lookup f_kArr = some ⟨oc_kArr, od_kArr, .func (PySem.W.fnOf "is_arrow" "is_arrow" (defArgs (top 10)) (defBody (top 10)) (defScope (top 10)) .none kV_kArr dc_kArr pm_kArr an_kArr cd_kArr ct_kArr), sl_kArr⟩)
    (c_kArr : PySem.W.codeIn K cd_kArr "is_arrow" = true)
    (k_kArr : PySem.W.keepIn K (.ref f_kArr) = true)
    (a_kEnd : PySem.W.nsIn K mainGlobals "wrong_end_kinds" = some (some (.ref f_kEnd)))
    (l_kEnd : K.lookup f_kEnd = some ⟨oc_kEnd, od_kEnd, .func (PySem.W.fnOf "wrong_end" "wrong_end" (defArgs (top 11)) (defBody (top 11)) (defScope (top 11)) .none kV_kEnd dc_kEnd pm_kEnd an_kEnd cd_kEnd ct_kEnd), sl_kEnd⟩)
    (c_kEnd : PySem.W.codeIn K cd_kEnd "wrong_end" = true)
    (k_kEnd : PySem.W.keepIn K (.ref f_kEnd) = true)
    (a_kFlt : PySem.W.nsIn K mainGlobals "fault_in_kinds" = some (some (.ref f_kFlt)))
    (l_kFlt : K.lookup f_kFlt = some ⟨oc_kFlt, od_kFlt, .func (PySem.W.fnOf "fault_in" "fault_in" (defArgs (top 13)) (defBody (top 13)) (defScope (top 13)) .none kV_kFlt dc_kFlt pm_kFlt an_kFlt cd_kFlt ct_kFlt), sl_kFlt⟩)
    (c_kFlt : PySem.W.codeIn K cd_kFlt "fault_in" = true)
    (k_kFlt : PySem.W.keepIn K (.ref f_kFlt) = true)
    (a_pGive : PySem.W.nsIn K mainGlobals "is_give" = some (some (.ref f_pGive)))
    (l_pGive : K.lookup f_pGive = some ⟨oc_pGive, od_pGive, .func (PySem.W.fnOf "is_give" "is_give" (defArgs (top 18)) (defBody (top 18)) (defScope (top 18)) .none kV_pGive dc_pGive pm_pGive an_pGive cd_pGive ct_pGive), sl_pGive⟩)
    (c_pGive : PySem.W.codeIn K cd_pGive "is_give" = true)
    (k_pGive : PySem.W.keepIn K (.ref f_pGive) = true)
    (a_pTake : PySem.W.nsIn K mainGlobals "is_take" = some (some (.ref f_pTake)))
    (l_pTake : K.lookup f_pTake = some ⟨oc_pTake, od_pTake, .func (PySem.W.fnOf "is_take" "is_take" (defArgs (top 19)) (defBody (top 19)) (defScope (top 19)) .none kV_pTake dc_pTake pm_pTake an_pTake cd_pTake ct_pTake), sl_pTake⟩)
    (c_pTake : PySem.W.codeIn K cd_pTake "is_take" = true)
    (k_pTake : PySem.W.keepIn K (.ref f_pTake) = true)
    (a_pWord : PySem.W.nsIn K mainGlobals "is_word" = some (some (.ref f_pWord)))
    (l_pWord : K.lookup f_pWord = some ⟨oc_pWord, od_pWord, .func (PySem.W.fnOf "is_word" "is_word" (defArgs (top 21)) (defBody (top 21)) (defScope (top 21)) .none kV_pWord dc_pWord pm_pWord an_pWord cd_pWord ct_pWord), sl_pWord⟩)
    (c_pWord : PySem.W.codeIn K cd_pWord "is_word" = true)
    (k_pWord : PySem.W.keepIn K (.ref f_pWord) = true)
    (a_pAsk : PySem.W.nsIn K mainGlobals "asked_by" = some (some (.ref f_pAsk)))
    (l_pAsk : K.lookup f_pAsk = some ⟨oc_pAsk, od_pAsk, .func (PySem.W.fnOf "asked_by" "asked_by" (defArgs (top 22)) (defBody (top 22)) (defScope (top 22)) .none kV_pAsk dc_pAsk pm_pAsk an_pAsk cd_pAsk ct_pAsk), sl_pAsk⟩)
    (c_pAsk : PySem.W.codeIn K cd_pAsk "asked_by" = true)
    (k_pAsk : PySem.W.keepIn K (.ref f_pAsk) = true)
    (a_pEnd : PySem.W.nsIn K mainGlobals "wrong_end_programs" = some (some (.ref f_pEnd)))
    (l_pEnd : K.lookup f_pEnd = some ⟨oc_pEnd, od_pEnd, .func (PySem.W.fnOf "wrong_end" "wrong_end" (defArgs (top 23)) (defBody (top 23)) (defScope (top 23)) .none kV_pEnd dc_pEnd pm_pEnd an_pEnd cd_pEnd ct_pEnd), sl_pEnd⟩)
    (c_pEnd : PySem.W.codeIn K cd_pEnd "wrong_end" = true)
    (k_pEnd : PySem.W.keepIn K (.ref f_pEnd) = true)
    (a_pSec : PySem.W.nsIn K mainGlobals "wrong_second" = some (some (.ref f_pSec)))
    (l_pSec : K.lookup f_pSec = some ⟨oc_pSec, od_pSec, .func (PySem.W.fnOf "wrong_second" "wrong_second" (defArgs (top 25)) (defBody (top 25)) (defScope (top 25)) .none kV_pSec dc_pSec pm_pSec an_pSec cd_pSec ct_pSec), sl_pSec⟩)
    (c_pSec : PySem.W.codeIn K cd_pSec "wrong_second" = true)
    (k_pSec : PySem.W.keepIn K (.ref f_pSec) = true)
    (a_pEnds : PySem.W.nsIn K mainGlobals "raw_ends" = some (some (.ref f_pEnds)))
    (l_pEnds : K.lookup f_pEnds = some ⟨oc_pEnds, od_pEnds, .func (PySem.W.fnOf "raw_ends" "raw_ends" (defArgs (top 26)) (defBody (top 26)) (defScope (top 26)) .none kV_pEnds dc_pEnds pm_pEnds an_pEnds cd_pEnds ct_pEnds), sl_pEnds⟩)
    (c_pEnds : PySem.W.codeIn K cd_pEnds "raw_ends" = true)
    (k_pEnds : PySem.W.keepIn K (.ref f_pEnds) = true)
    (a_pUses : PySem.W.nsIn K mainGlobals "uses" = some (some (.ref f_pUses)))
    (l_pUses : K.lookup f_pUses = some ⟨oc_pUses, od_pUses, .func (PySem.W.fnOf "uses" "uses" (defArgs (top 27)) (defBody (top 27)) (defScope (top 27)) .none kV_pUses dc_pUses pm_pUses an_pUses cd_pUses ct_pUses), sl_pUses⟩)
    (c_pUses : PySem.W.codeIn K cd_pUses "uses" = true)
    (k_pUses : PySem.W.keepIn K (.ref f_pUses) = true)
    (a_pWt : PySem.W.nsIn K mainGlobals "wrong_take" = some (some (.ref f_pWt)))
    (l_pWt : K.lookup f_pWt = some ⟨oc_pWt, od_pWt, .func (PySem.W.fnOf "wrong_take" "wrong_take" (defArgs (top 28)) (defBody (top 28)) (defScope (top 28)) .none kV_pWt dc_pWt pm_pWt an_pWt cd_pWt ct_pWt), sl_pWt⟩)
    (c_pWt : PySem.W.codeIn K cd_pWt "wrong_take" = true)
    (k_pWt : PySem.W.keepIn K (.ref f_pWt) = true)
    (a_pFlt : PySem.W.nsIn K mainGlobals "fault_in_programs" = some (some (.ref f_pFlt)))
    (l_pFlt : K.lookup f_pFlt = some ⟨oc_pFlt, od_pFlt, .func (PySem.W.fnOf "fault_in" "fault_in" (defArgs (top 29)) (defBody (top 29)) (defScope (top 29)) .none kV_pFlt dc_pFlt pm_pFlt an_pFlt cd_pFlt ct_pFlt), sl_pFlt⟩)
    (c_pFlt : PySem.W.codeIn K cd_pFlt "fault_in" = true)
    (k_pFlt : PySem.W.keepIn K (.ref f_pFlt) = true)
    (a_lPot : PySem.W.nsIn K mainGlobals "_law_pot" = some (some (.ref f_lPot)))
    (l_lPot : K.lookup f_lPot = some ⟨oc_lPot, od_lPot, .func (PySem.W.fnOf "_law_pot" "_law_pot" (defArgs (top 33)) (defBody (top 33)) (defScope (top 33)) .none kV_lPot dc_lPot pm_lPot an_lPot cd_lPot ct_lPot), sl_lPot⟩)
    (c_lPot : PySem.W.codeIn K cd_lPot "_law_pot" = true)
    (k_lPot : PySem.W.keepIn K (.ref f_lPot) = true)
    (a_lDraw : PySem.W.nsIn K mainGlobals "_law_draw" = some (some (.ref f_lDraw)))
    (l_lDraw : K.lookup f_lDraw = some ⟨oc_lDraw, od_lDraw, .func (PySem.W.fnOf "_law_draw" "_law_draw" (defArgs (top 34)) (defBody (top 34)) (defScope (top 34)) .none kV_lDraw dc_lDraw pm_lDraw an_lDraw cd_lDraw ct_lDraw), sl_lDraw⟩)
    (c_lDraw : PySem.W.codeIn K cd_lDraw "_law_draw" = true)
    (k_lDraw : PySem.W.keepIn K (.ref f_lDraw) = true)
    (a_lAny : PySem.W.nsIn K mainGlobals "_law_any" = some (some (.ref f_lAny)))
    (l_lAny : K.lookup f_lAny = some ⟨oc_lAny, od_lAny, .func (PySem.W.fnOf "_law_any" "_law_any" (defArgs (top 35)) (defBody (top 35)) (defScope (top 35)) .none kV_lAny dc_lAny pm_lAny an_lAny cd_lAny ct_lAny), sl_lAny⟩)
    (c_lAny : PySem.W.codeIn K cd_lAny "_law_any" = true)
    (k_lAny : PySem.W.keepIn K (.ref f_lAny) = true)
    (a_lShape : PySem.W.nsIn K mainGlobals "_law_shape_of" = some (some (.ref f_lShape)))
    (l_lShape : K.lookup f_lShape = some ⟨oc_lShape, od_lShape, .func (PySem.W.fnOf "_law_shape_of" "_law_shape_of" (defArgs (top 36)) (defBody (top 36)) (defScope (top 36)) .none kV_lShape dc_lShape pm_lShape an_lShape cd_lShape ct_lShape), sl_lShape⟩)
    (c_lShape : PySem.W.codeIn K cd_lShape "_law_shape_of" = true)
    (k_lShape : PySem.W.keepIn K (.ref f_lShape) = true)
    (a_lKind : PySem.W.nsIn K mainGlobals "_law_kind" = some (some (.ref f_lKind)))
    (l_lKind : K.lookup f_lKind = some ⟨oc_lKind, od_lKind, .func (PySem.W.fnOf "_law_kind" "_law_kind" (defArgs (top 37)) (defBody (top 37)) (defScope (top 37)) .none kV_lKind dc_lKind pm_lKind an_lKind cd_lKind ct_lKind), sl_lKind⟩)
    (c_lKind : PySem.W.codeIn K cd_lKind "_law_kind" = true)
    (k_lKind : PySem.W.keepIn K (.ref f_lKind) = true)
    (a_lDeep : PySem.W.nsIn K mainGlobals "_law_deep" = some (some (.ref f_lDeep)))
    (l_lDeep : K.lookup f_lDeep = some ⟨oc_lDeep, od_lDeep, .func (PySem.W.fnOf "_law_deep" "_law_deep" (defArgs (top 38)) (defBody (top 38)) (defScope (top 38)) .none kV_lDeep dc_lDeep pm_lDeep an_lDeep cd_lDeep ct_lDeep), sl_lDeep⟩)
    (c_lDeep : PySem.W.codeIn K cd_lDeep "_law_deep" = true)
    (k_lDeep : PySem.W.keepIn K (.ref f_lDeep) = true)
    (a_lFault : PySem.W.nsIn K mainGlobals "_law_fault" = some (some (.ref f_lFault)))
    (l_lFault : K.lookup f_lFault = some ⟨oc_lFault, od_lFault, .func (PySem.W.fnOf "_law_fault" "_law_fault" (defArgs (top 39)) (defBody (top 39)) (defScope (top 39)) .none kV_lFault dc_lFault pm_lFault an_lFault cd_lFault ct_lFault), sl_lFault⟩)
    (c_lFault : PySem.W.codeIn K cd_lFault "_law_fault" = true)
    (k_lFault : PySem.W.keepIn K (.ref f_lFault) = true)
    (a_lItem : PySem.W.nsIn K mainGlobals "_law_item" = some (some (.ref f_lItem)))
    (l_lItem : K.lookup f_lItem = some ⟨oc_lItem, od_lItem, .func (PySem.W.fnOf "_law_item" "_law_item" (defArgs (top 40)) (defBody (top 40)) (defScope (top 40)) .none kV_lItem dc_lItem pm_lItem an_lItem cd_lItem ct_lItem), sl_lItem⟩)
    (c_lItem : PySem.W.codeIn K cd_lItem "_law_item" = true)
    (k_lItem : PySem.W.keepIn K (.ref f_lItem) = true)
    (a_lSpoil : PySem.W.nsIn K mainGlobals "_law_spoiled" = some (some (.ref f_lSpoil)))
    (l_lSpoil : K.lookup f_lSpoil = some ⟨oc_lSpoil, od_lSpoil, .func (PySem.W.fnOf "_law_spoiled" "_law_spoiled" (defArgs (top 41)) (defBody (top 41)) (defScope (top 41)) .none kV_lSpoil dc_lSpoil pm_lSpoil an_lSpoil cd_lSpoil ct_lSpoil), sl_lSpoil⟩)
    (c_lSpoil : PySem.W.codeIn K cd_lSpoil "_law_spoiled" = true)
    (k_lSpoil : PySem.W.keepIn K (.ref f_lSpoil) = true)
    (a_lThing : PySem.W.nsIn K mainGlobals "_law_thing" = some (some (.ref f_lThing)))
    (l_lThing : K.lookup f_lThing = some ⟨oc_lThing, od_lThing, .func (PySem.W.fnOf "_law_thing" "_law_thing" (defArgs (top 42)) (defBody (top 42)) (defScope (top 42)) .none kV_lThing dc_lThing pm_lThing an_lThing cd_lThing ct_lThing), sl_lThing⟩)
    (c_lThing : PySem.W.codeIn K cd_lThing "_law_thing" = true)
    (k_lThing : PySem.W.keepIn K (.ref f_lThing) = true)
    (a_lRight : PySem.W.nsIn K mainGlobals "_law_right" = some (some (.ref f_lRight)))
    (l_lRight : K.lookup f_lRight = some ⟨oc_lRight, od_lRight, .func (PySem.W.fnOf "_law_right" "_law_right" (defArgs (top 43)) (defBody (top 43)) (defScope (top 43)) .none kV_lRight dc_lRight pm_lRight an_lRight cd_lRight ct_lRight), sl_lRight⟩)
    (c_lRight : PySem.W.codeIn K cd_lRight "_law_right" = true)
    (k_lRight : PySem.W.keepIn K (.ref f_lRight) = true)
    (a_law : PySem.W.nsIn K mainGlobals "law" = some (some (.ref f_law)))
    (l_law : K.lookup f_law = some ⟨oc_law, od_law, .func (PySem.W.fnOf "law" "law" (defArgs (top 44)) (defBody (top 44)) (defScope (top 44)) .none kV_law dc_law pm_law an_law cd_law ct_law), sl_law⟩)
    (c_law : PySem.W.codeIn K cd_law "law" = true)
    (k_law : PySem.W.keepIn K (.ref f_law) = true)
    (a_kI : PySem.W.findIn K (.ref kC) "__init__" = some (some (.ref f_kI)))
    (l_kI : K.lookup f_kI = some ⟨oc_kI, od_kI, .func (PySem.W.fnOf "__init__" "Kind.__init__" (defArgs (inClass (top 15) 0)) (defBody (inClass (top 15) 0)) (defScope (inClass (top 15) 0)) .none kV_kI dc_kI pm_kI an_kI cd_kI ct_kI), sl_kI⟩)
    (c_kI : PySem.W.codeIn K cd_kI "Kind.__init__" = true)
    (k_kI : PySem.W.keepIn K (.ref f_kI) = true)
    (a_kE : PySem.W.findIn K (.ref kC) "__eq__" = some (some (.ref f_kE)))
    (l_kE : K.lookup f_kE = some ⟨oc_kE, od_kE, .func (PySem.W.fnOf "__eq__" "Kind.__eq__" (defArgs (inClass (top 15) 1)) (defBody (inClass (top 15) 1)) (defScope (inClass (top 15) 1)) .none kV_kE dc_kE pm_kE an_kE cd_kE ct_kE), sl_kE⟩)
    (c_kE : PySem.W.codeIn K cd_kE "Kind.__eq__" = true)
    (k_kE : PySem.W.keepIn K (.ref f_kE) = true)
    (a_pI : PySem.W.findIn K (.ref pC) "__init__" = some (some (.ref f_pI)))
    (l_pI : K.lookup f_pI = some ⟨oc_pI, od_pI, .func (PySem.W.fnOf "__init__" "Program.__init__" (defArgs (inClass (top 31) 0)) (defBody (inClass (top 31) 0)) (defScope (inClass (top 31) 0)) .none kV_pI dc_pI pm_pI an_pI cd_pI ct_pI), sl_pI⟩)
    (c_pI : PySem.W.codeIn K cd_pI "Program.__init__" = true)
    (k_pI : PySem.W.keepIn K (.ref f_pI) = true)
    (pgK : PySem.W.plainGet K kC Str.empty = true)
    (hdK : PySem.W.hasDictIn K kC = true)
    (poK : PySem.W.plainOver K kC = true)
    (saK : PySem.W.findIn K (.ref kC) "__setattr__" = some (some (.builtin "object.__setattr__")))
    (mkK : PySem.W.makesIn K kC = true)
    (kcK : PySem.W.keepIn K (.ref kC) = true)
    (caK : PySem.W.findIn K (.ref kC) "__class__" = some (some (.builtin "object.__class__")))
    (moK : PySem.W.mroIn K kC (.type "object") = some true)
    (nwK : PySem.W.findIn K (.ref kC) "words" = some none)
    (i1K : PySem.W.kitOne K (.ref kC) (.type "int") = some false)
    (i2K : PySem.W.kitOne K (.ref kC) (.type "bool") = some false)
    (i3K : PySem.W.kitOne K (.ref kC) (.type "str") = some false)
    (i4K : PySem.W.kitOne K (.ref kC) (.type "tuple") = some false)
    (i5K : PySem.W.kitOne K (.ref kC) (.ref kC) = some true)
    (pgP : PySem.W.plainGet K pC Str.empty = true)
    (hdP : PySem.W.hasDictIn K pC = true)
    (poP : PySem.W.plainOver K pC = true)
    (saP : PySem.W.findIn K (.ref pC) "__setattr__" = some (some (.builtin "object.__setattr__")))
    (mkP : PySem.W.makesIn K pC = true)
    (kcP : PySem.W.keepIn K (.ref pC) = true)
    (caP : PySem.W.findIn K (.ref pC) "__class__" = some (some (.builtin "object.__class__")))
    (moP : PySem.W.mroIn K pC (.type "object") = some true)
    (nwP : PySem.W.findIn K (.ref pC) "words" = some none)
    (i1P : PySem.W.kitOne K (.ref pC) (.type "int") = some false)
    (i2P : PySem.W.kitOne K (.ref pC) (.type "bool") = some false)
    (i3P : PySem.W.kitOne K (.ref pC) (.type "str") = some false)
    (i4P : PySem.W.kitOne K (.ref pC) (.type "tuple") = some false)
    (i5P : PySem.W.kitOne K (.ref pC) (.ref kC) = some false)
    (cn : PySem.W.specialIn K (.builtin "object.__class__") "__get__" = some (some (.builtin "getset_descriptor.__get__")))
    (ct : PySem.W.takesIn K (.builtin "object.__class__") = some true)
    (fI : PySem.W.isFn K (.ref f_kI) = true)
    (fE : PySem.W.isFn K (.ref f_kE) = true)
    (fP : PySem.W.isFn K (.ref f_pI) = true)
    (ne : PySem.W.findIn K (.ref kC) "__ne__" = some (some (.builtin "object.__ne__")))
    (nf1 : PySem.W.notFirst K kC (.type "tuple") = true)
    (nf2 : PySem.W.notFirst K kC (.type "int") = true)
    (nf3 : PySem.W.notFirst K kC (.type "str") = true)
    (nf4 : PySem.W.notFirst K kC (.ref pC) = true)
    (nf5 : PySem.W.notFirst K kC (.ref kC) = true)
    (ki1 : PySem.W.kitOne K (.type "tuple") (.ref kC) = some false)
    (ki2 : PySem.W.kitOne K (.type "int") (.ref kC) = some false)
    (ki3 : PySem.W.kitOne K (.type "str") (.ref kC) = some false)
    (xL : K.lookup bC = some (excClassObj nm q bC N bs [.ref eC, .type "ValueError", .type "Exception", .type "BaseException", .type "object"] true sn sub ab col dd m0 m1' m2' m3 m5 "ValueError.__new__"))
    (su : PySem.W.ks_superIn K bC bC "__init__" = some (some (.builtin "ValueError.__init__")))
    (saB : PySem.W.findIn K (.ref bC) "__setattr__" = some (some (.builtin "object.__setattr__")))
    (gaB : PySem.W.findIn K (.ref bC) "__getattribute__" = some (some (.builtin "BaseException.__getattribute__")))
    (ggB : PySem.W.findIn K (.ref bC) "__getattr__" = some none)
    (nB : PySem.W.findIn K (.ref bC) "index" = some none)
    (iB : PySem.W.findIn K (.ref bC) "__init__" = some (some (.ref f_b)))
    (tB : PySem.W.typeIn K (.ref f_b) = some (.type "function"))
    (kB : PySem.W.keepIn K (.ref bC) = true)
    (eB : PySem.W.subIn K (.ref bC) (.type "BaseException") = some true)
    (vB : PySem.W.subIn K (.ref bC) (.type "ValueError") = some true)
    (sB : PySem.W.mroIn K bC (.ref bC) = some true)
    (yB : PySem.W.typeIn K (.ref bC) = some (.type "type"))
    (hB : PySem.W.hasDictIn K bC = true)
    (oB : PySem.W.isClsIn K bC = true)
    (ssB : PySem.W.subIn K (.ref bC) (.ref bC) = some true)
    (tpB : PySem.W.nsIn K cStatics "thirdparty.any" = some none)
    (lB : K.lookup f_b = some ⟨oc_b, od_b, .func (ksFn "__init__" "BadKind.__init__" BkX.iA BkX.iB BkX.iS .none .none dc_b pm_b an_b (.ref cda) ct_b cc), sl_b⟩)
    (cB : PySem.W.codeIn K (.ref cda) "BadKind.__init__" = true)
    (lD : K.lookup cda = some ⟨ccl, cdd, .fields cvs, ccs⟩)
    (vD : cvs[2]? = some (.str file tf))
    (fD : ((pw.main.file : Str) == file) = true)
    (lC : K.lookup cc = some ⟨cl, cld, .cell (some (.ref bC)), csl⟩)
    : ∃ fd : FuncData, (∀ (s : Shared) (u : Value), BindsTo s fd ⟨[u], []⟩ [("_law_script", u)]) ∧ ∀ base : Heap, K.In base → base.Ns mainGlobals mg → FnOk pw w K mg base CX0 11 fa fd ["_law_script"] (spLaw K) := by
  have e := hfa.symm.trans (PySem.W.mg_of X G a_law)
  cases e
  have F_cInt := fun_mk (st := (top 5)) l_cInt c_cInt k_cInt
  have b_cInt := F_cInt.binds (ps := ["thing"]) fun _ _ _ _ _ _ us hl => match us, hl with | [_], _ => rfl
  have F_cNum := fun_mk (st := (top 6)) l_cNum c_cNum k_cNum
  have b_cNum := F_cNum.binds (ps := ["thing"]) fun _ _ _ _ _ _ us hl => match us, hl with | [_], _ => rfl
  have F_cName := fun_mk (st := (top 7)) l_cName c_cName k_cName
  have b_cName := F_cName.binds (ps := ["thing"]) fun _ _ _ _ _ _ us hl => match us, hl with | [_], _ => rfl
  have F_kArr := fun_mk (st := (top 10)) l_kArr c_kArr k_kArr
  have b_kArr := F_kArr.binds (ps := ["word"]) fun _ _ _ _ _ _ us hl => match us, hl with | [_], _ => rfl
  have F_kEnd := fun_mk (st := (top 11)) l_kEnd c_kEnd k_kEnd
  have b_kEnd := F_kEnd.binds (ps := ["words"]) fun _ _ _ _ _ _ us hl => match us, hl with | [_], _ => rfl
  have F_kFlt := fun_mk (st := (top 13)) l_kFlt c_kFlt k_kFlt
  have b_kFlt := F_kFlt.binds (ps := ["words"]) fun _ _ _ _ _ _ us hl => match us, hl with | [_], _ => rfl
  have F_pGive := fun_mk (st := (top 18)) l_pGive c_pGive k_pGive
  have b_pGive := F_pGive.binds (ps := ["word"]) fun _ _ _ _ _ _ us hl => match us, hl with | [_], _ => rfl
  have F_pTake := fun_mk (st := (top 19)) l_pTake c_pTake k_pTake
  have b_pTake := F_pTake.binds (ps := ["word"]) fun _ _ _ _ _ _ us hl => match us, hl with | [_], _ => rfl
  have F_pWord := fun_mk (st := (top 21)) l_pWord c_pWord k_pWord
  have b_pWord := F_pWord.binds (ps := ["thing"]) fun _ _ _ _ _ _ us hl => match us, hl with | [_], _ => rfl
  have F_pAsk := fun_mk (st := (top 22)) l_pAsk c_pAsk k_pAsk
  have b_pAsk := F_pAsk.binds (ps := ["word"]) fun _ _ _ _ _ _ us hl => match us, hl with | [_], _ => rfl
  have F_pEnd := fun_mk (st := (top 23)) l_pEnd c_pEnd k_pEnd
  have b_pEnd := F_pEnd.binds (ps := ["words"]) fun _ _ _ _ _ _ us hl => match us, hl with | [_], _ => rfl
  have F_pSec := fun_mk (st := (top 25)) l_pSec c_pSec k_pSec
  have b_pSec := F_pSec.binds (ps := ["words"]) fun _ _ _ _ _ _ us hl => match us, hl with | [_], _ => rfl
  have F_pEnds := fun_mk (st := (top 26)) l_pEnds c_pEnds k_pEnds
  have b_pEnds := F_pEnds.binds (ps := ["words"]) fun _ _ _ _ _ _ us hl => match us, hl with | [_], _ => rfl
  have F_pUses := fun_mk (st := (top 27)) l_pUses c_pUses k_pUses
  have b_pUses := F_pUses.binds (ps := ["words"]) fun _ _ _ _ _ _ us hl => match us, hl with | [_], _ => rfl
  have F_pWt := fun_mk (st := (top 28)) l_pWt c_pWt k_pWt
  have b_pWt := F_pWt.binds (ps := ["words"]) fun _ _ _ _ _ _ us hl => match us, hl with | [_], _ => rfl
  have F_pFlt := fun_mk (st := (top 29)) l_pFlt c_pFlt k_pFlt
  have b_pFlt := F_pFlt.binds (ps := ["words"]) fun _ _ _ _ _ _ us hl => match us, hl with | [_], _ => rfl
  have F_lPot := fun_mk (st := (top 33)) l_lPot c_lPot k_lPot
  have b_lPot := F_lPot.binds (ps := ["_law_script"]) fun _ _ _ _ _ _ us hl => match us, hl with | [_], _ => rfl
  have F_lDraw := fun_mk (st := (top 34)) l_lDraw c_lDraw k_lDraw
  have b_lDraw := F_lDraw.binds (ps := ["_law_pot_here", "_law_many"]) fun _ _ _ _ _ _ us hl => match us, hl with | [_, _], _ => rfl
  have F_lAny := fun_mk (st := (top 35)) l_lAny c_lAny k_lAny
  have b_lAny := F_lAny.binds (ps := ["_law_pot_here", "_law_items"]) fun _ _ _ _ _ _ us hl => match us, hl with | [_, _], _ => rfl
  have F_lShape := fun_mk (st := (top 36)) l_lShape c_lShape k_lShape
  have b_lShape := F_lShape.binds (ps := ["_law_pot_here", "_law_leaves", "_law_way"]) fun _ _ _ _ _ _ us hl => match us, hl with | [_, _, _], _ => rfl
  have F_lKind := fun_mk (st := (top 37)) l_lKind c_lKind k_lKind
  have b_lKind := F_lKind.binds (ps := ["_law_pot_here", "_law_leaves", "_law_letters"]) fun _ _ _ _ _ _ us hl => match us, hl with | [_, _, _], _ => rfl
  have F_lDeep := fun_mk (st := (top 38)) l_lDeep c_lDeep k_lDeep
  have b_lDeep := F_lDeep.binds (ps := []) fun _ _ _ _ _ _ us hl => match us, hl with | [], _ => rfl
  have F_lFault := fun_mk (st := (top 39)) l_lFault c_lFault k_lFault
  have b_lFault := F_lFault.binds (ps := ["_law_words"]) fun _ _ _ _ _ _ us hl => match us, hl with | [_], _ => rfl
  have F_lItem := fun_mk (st := (top 40)) l_lItem c_lItem k_lItem
  have b_lItem := F_lItem.binds (ps := ["_law_pot_here", "_law_words"]) fun _ _ _ _ _ _ us hl => match us, hl with | [_, _], _ => rfl
  have F_lSpoil := fun_mk (st := (top 41)) l_lSpoil c_lSpoil k_lSpoil
  have b_lSpoil := F_lSpoil.binds (ps := ["_law_pot_here", "_law_words"]) fun _ _ _ _ _ _ us hl => match us, hl with | [_, _], _ => rfl
  have F_lThing := fun_mk (st := (top 42)) l_lThing c_lThing k_lThing
  have b_lThing := F_lThing.binds (ps := ["_law_pot_here"]) fun _ _ _ _ _ _ us hl => match us, hl with | [_], _ => rfl
  have F_lRight := fun_mk (st := (top 43)) l_lRight c_lRight k_lRight
  have b_lRight := F_lRight.binds (ps := ["_law_thing_here"]) fun _ _ _ _ _ _ us hl => match us, hl with | [_], _ => rfl
  have F_law := fun_mk (st := (top 44)) l_law c_law k_law
  have F_kI := fun_mk (st := (inClass (top 15) 0)) l_kI c_kI k_kI
  have b_kI := F_kI.binds (ps := ["self", "words"]) fun _ _ _ _ _ _ us hl => match us, hl with | [_, _], _ => rfl
  have F_kE := fun_mk (st := (inClass (top 15) 1)) l_kE c_kE k_kE
  have b_kE := F_kE.binds (ps := ["self", "other"]) fun _ _ _ _ _ _ us hl => match us, hl with | [_, _], _ => rfl
  have F_pI := fun_mk (st := (inClass (top 31) 0)) l_pI c_pI k_pI
  have b_pI := F_pI.binds (ps := ["self", "words"]) fun _ _ _ _ _ _ us hl => match us, hl with | [_, _], _ => rfl
  have bk : PySem.BkX.BkTxt pw K mg bC f_b :=
    { gC := PySem.W.mg_of X G aB, gS := PySem.W.mg_none_of X G n_super, cls := ⟨nm, q, N, bs, _, sn, sub, ab, col, dd, m0, m1', m2', m3, m5, xL, rfl⟩, su := su, sa := saB, ga := gaB, gg := ggB, noN := nB, iC := iB, tC := tB, kC := kB, exC := eB, exV := vB,
      selfC := sB, tyC := yB, hdC := hB, te := exm_self eB oB yB ssB, op := tpB, top := by decide +kernel, fn := ⟨oc_b, od_b, dc_b, pm_b, an_b, cda, ct_b, sl_b, cc, ccl, cdd, cvs, ccs, file, tf, cl, cld, csl, lB, cB, lD, vD, fD, lC⟩ }
  have kK : Kls K kC kC true := ⟨⟨caK, cn, ct, moK⟩, ⟨pgK, hdK, poK, saK⟩, nwK, i1K, i2K, i3K, i4K, i5K⟩
  have kP : Kls K kC pC false := ⟨⟨caP, cn, ct, moP⟩, ⟨pgP, hdP, poP, saP⟩, nwP, i1P, i2P, i3P, i4P, i5P⟩
  let A : Ads := ⟨bC, f_b, kC, pC,
    ⟨f_kI, PySem.W.fnOf "__init__" "Kind.__init__" (defArgs (inClass (top 15) 0)) (defBody (inClass (top 15) 0)) (defScope (inClass (top 15) 0)) .none kV_kI dc_kI pm_kI an_kI cd_kI ct_kI⟩,
    ⟨f_kE, PySem.W.fnOf "__eq__" "Kind.__eq__" (defArgs (inClass (top 15) 1)) (defBody (inClass (top 15) 1)) (defScope (inClass (top 15) 1)) .none kV_kE dc_kE pm_kE an_kE cd_kE ct_kE⟩,
    ⟨f_pI, PySem.W.fnOf "__init__" "Program.__init__" (defArgs (inClass (top 31) 0)) (defBody (inClass (top 31) 0)) (defScope (inClass (top 31) 0)) .none kV_pI dc_pI pm_pI an_pI cd_pI ct_pI⟩,
    ⟨f_cInt, PySem.W.fnOf "is_integer" "is_integer" (defArgs (top 5)) (defBody (top 5)) (defScope (top 5)) .none kV_cInt dc_cInt pm_cInt an_cInt cd_cInt ct_cInt⟩,
    ⟨f_cNum, PySem.W.fnOf "is_number" "is_number" (defArgs (top 6)) (defBody (top 6)) (defScope (top 6)) .none kV_cNum dc_cNum pm_cNum an_cNum cd_cNum ct_cNum⟩,
    ⟨f_cName, PySem.W.fnOf "is_name" "is_name" (defArgs (top 7)) (defBody (top 7)) (defScope (top 7)) .none kV_cName dc_cName pm_cName an_cName cd_cName ct_cName⟩,
    ⟨f_kArr, PySem.W.fnOf "is_arrow" "is_arrow" (defArgs (top 10)) (defBody (top 10)) (defScope (top 10)) .none kV_kArr dc_kArr pm_kArr an_kArr cd_kArr ct_kArr⟩,
    ⟨f_kEnd, PySem.W.fnOf "wrong_end" "wrong_end" (defArgs (top 11)) (defBody (top 11)) (defScope (top 11)) .none kV_kEnd dc_kEnd pm_kEnd an_kEnd cd_kEnd ct_kEnd⟩,
    ⟨f_kFlt, PySem.W.fnOf "fault_in" "fault_in" (defArgs (top 13)) (defBody (top 13)) (defScope (top 13)) .none kV_kFlt dc_kFlt pm_kFlt an_kFlt cd_kFlt ct_kFlt⟩,
    ⟨f_pGive, PySem.W.fnOf "is_give" "is_give" (defArgs (top 18)) (defBody (top 18)) (defScope (top 18)) .none kV_pGive dc_pGive pm_pGive an_pGive cd_pGive ct_pGive⟩,
    ⟨f_pTake, PySem.W.fnOf "is_take" "is_take" (defArgs (top 19)) (defBody (top 19)) (defScope (top 19)) .none kV_pTake dc_pTake pm_pTake an_pTake cd_pTake ct_pTake⟩,
    ⟨f_pWord, PySem.W.fnOf "is_word" "is_word" (defArgs (top 21)) (defBody (top 21)) (defScope (top 21)) .none kV_pWord dc_pWord pm_pWord an_pWord cd_pWord ct_pWord⟩,
    ⟨f_pAsk, PySem.W.fnOf "asked_by" "asked_by" (defArgs (top 22)) (defBody (top 22)) (defScope (top 22)) .none kV_pAsk dc_pAsk pm_pAsk an_pAsk cd_pAsk ct_pAsk⟩,
    ⟨f_pEnd, PySem.W.fnOf "wrong_end" "wrong_end" (defArgs (top 23)) (defBody (top 23)) (defScope (top 23)) .none kV_pEnd dc_pEnd pm_pEnd an_pEnd cd_pEnd ct_pEnd⟩,
    ⟨f_pSec, PySem.W.fnOf "wrong_second" "wrong_second" (defArgs (top 25)) (defBody (top 25)) (defScope (top 25)) .none kV_pSec dc_pSec pm_pSec an_pSec cd_pSec ct_pSec⟩,
    ⟨f_pEnds, PySem.W.fnOf "raw_ends" "raw_ends" (defArgs (top 26)) (defBody (top 26)) (defScope (top 26)) .none kV_pEnds dc_pEnds pm_pEnds an_pEnds cd_pEnds ct_pEnds⟩,
    ⟨f_pUses, PySem.W.fnOf "uses" "uses" (defArgs (top 27)) (defBody (top 27)) (defScope (top 27)) .none kV_pUses dc_pUses pm_pUses an_pUses cd_pUses ct_pUses⟩,
    ⟨f_pWt, PySem.W.fnOf "wrong_take" "wrong_take" (defArgs (top 28)) (defBody (top 28)) (defScope (top 28)) .none kV_pWt dc_pWt pm_pWt an_pWt cd_pWt ct_pWt⟩,
    ⟨f_pFlt, PySem.W.fnOf "fault_in" "fault_in" (defArgs (top 29)) (defBody (top 29)) (defScope (top 29)) .none kV_pFlt dc_pFlt pm_pFlt an_pFlt cd_pFlt ct_pFlt⟩,
    ⟨f_lPot, PySem.W.fnOf "_law_pot" "_law_pot" (defArgs (top 33)) (defBody (top 33)) (defScope (top 33)) .none kV_lPot dc_lPot pm_lPot an_lPot cd_lPot ct_lPot⟩,
    ⟨f_lDraw, PySem.W.fnOf "_law_draw" "_law_draw" (defArgs (top 34)) (defBody (top 34)) (defScope (top 34)) .none kV_lDraw dc_lDraw pm_lDraw an_lDraw cd_lDraw ct_lDraw⟩,
    ⟨f_lAny, PySem.W.fnOf "_law_any" "_law_any" (defArgs (top 35)) (defBody (top 35)) (defScope (top 35)) .none kV_lAny dc_lAny pm_lAny an_lAny cd_lAny ct_lAny⟩,
    ⟨f_lShape, PySem.W.fnOf "_law_shape_of" "_law_shape_of" (defArgs (top 36)) (defBody (top 36)) (defScope (top 36)) .none kV_lShape dc_lShape pm_lShape an_lShape cd_lShape ct_lShape⟩,
    ⟨f_lKind, PySem.W.fnOf "_law_kind" "_law_kind" (defArgs (top 37)) (defBody (top 37)) (defScope (top 37)) .none kV_lKind dc_lKind pm_lKind an_lKind cd_lKind ct_lKind⟩,
    ⟨f_lDeep, PySem.W.fnOf "_law_deep" "_law_deep" (defArgs (top 38)) (defBody (top 38)) (defScope (top 38)) .none kV_lDeep dc_lDeep pm_lDeep an_lDeep cd_lDeep ct_lDeep⟩,
    ⟨f_lFault, PySem.W.fnOf "_law_fault" "_law_fault" (defArgs (top 39)) (defBody (top 39)) (defScope (top 39)) .none kV_lFault dc_lFault pm_lFault an_lFault cd_lFault ct_lFault⟩,
    ⟨f_lItem, PySem.W.fnOf "_law_item" "_law_item" (defArgs (top 40)) (defBody (top 40)) (defScope (top 40)) .none kV_lItem dc_lItem pm_lItem an_lItem cd_lItem ct_lItem⟩,
    ⟨f_lSpoil, PySem.W.fnOf "_law_spoiled" "_law_spoiled" (defArgs (top 41)) (defBody (top 41)) (defScope (top 41)) .none kV_lSpoil dc_lSpoil pm_lSpoil an_lSpoil cd_lSpoil ct_lSpoil⟩,
    ⟨f_lThing, PySem.W.fnOf "_law_thing" "_law_thing" (defArgs (top 42)) (defBody (top 42)) (defScope (top 42)) .none kV_lThing dc_lThing pm_lThing an_lThing cd_lThing ct_lThing⟩,
    ⟨f_lRight, PySem.W.fnOf "_law_right" "_law_right" (defArgs (top 43)) (defBody (top 43)) (defScope (top 43)) .none kV_lRight dc_lRight pm_lRight an_lRight cd_lRight ct_lRight⟩⟩
  have T : Txt K mg A :=
    { bk := bk,
      kK := kK,
      kP := kP,
      gK := PySem.W.mg_of X G aK,
      gP := PySem.W.mg_of X G aP,
      mK := ⟨mkK, a_kI, fI, kcK⟩,
      mP := ⟨mkP, a_pI, fP, kcP⟩,
      eK := a_kE,
      eF := fE,
      nK := ne,
      nf1 := nf1,
      nf2 := nf2,
      nf3 := nf3,
      nf4 := nf4,
      nf5 := nf5,
      ki1 := ki1,
      ki2 := ki2,
      ki3 := ki3,
      most := ⟨_, PySem.W.mg_of X G m1⟩,
      mostP := ⟨_, PySem.W.mg_of X G m2⟩,
      isi := PySem.W.mg_none_of X G n_isinstance,
      int_ := PySem.W.mg_none_of X G n_int,
      bool_ := PySem.W.mg_none_of X G n_bool,
      str_ := PySem.W.mg_none_of X G n_str,
      tuple_ := PySem.W.mg_none_of X G n_tuple,
      list_ := PySem.W.mg_none_of X G n_list,
      len := PySem.W.mg_none_of X G n_len,
      enum := PySem.W.mg_none_of X G n_enumerate,
      range := PySem.W.mg_none_of X G n_range,
      all_ := PySem.W.mg_none_of X G n_all,
      abs_ := PySem.W.mg_none_of X G n_abs,
      sum_ := PySem.W.mg_none_of X G n_sum,
      max_ := PySem.W.mg_none_of X G n_max,
      cInt := ⟨F_cInt, b_cInt, PySem.W.mg_of X G a_cInt⟩,
      cNum := ⟨F_cNum, b_cNum, PySem.W.mg_of X G a_cNum⟩,
      cName := ⟨F_cName, b_cName, PySem.W.mg_of X G a_cName⟩,
      kArr := ⟨F_kArr, b_kArr, PySem.W.mg_of X G a_kArr⟩,
      kEnd := ⟨F_kEnd, b_kEnd, PySem.W.mg_of X G a_kEnd⟩,
      kFlt := ⟨F_kFlt, b_kFlt, PySem.W.mg_of X G a_kFlt⟩,
      pGive := ⟨F_pGive, b_pGive, PySem.W.mg_of X G a_pGive⟩,
      pTake := ⟨F_pTake, b_pTake, PySem.W.mg_of X G a_pTake⟩,
      pWord := ⟨F_pWord, b_pWord, PySem.W.mg_of X G a_pWord⟩,
      pAsk := ⟨F_pAsk, b_pAsk, PySem.W.mg_of X G a_pAsk⟩,
      pEnd := ⟨F_pEnd, b_pEnd, PySem.W.mg_of X G a_pEnd⟩,
      pSec := ⟨F_pSec, b_pSec, PySem.W.mg_of X G a_pSec⟩,
      pEnds := ⟨F_pEnds, b_pEnds, PySem.W.mg_of X G a_pEnds⟩,
      pUses := ⟨F_pUses, b_pUses, PySem.W.mg_of X G a_pUses⟩,
      pWt := ⟨F_pWt, b_pWt, PySem.W.mg_of X G a_pWt⟩,
      pFlt := ⟨F_pFlt, b_pFlt, PySem.W.mg_of X G a_pFlt⟩,
      lPot := ⟨F_lPot, b_lPot, PySem.W.mg_of X G a_lPot⟩,
      lDraw := ⟨F_lDraw, b_lDraw, PySem.W.mg_of X G a_lDraw⟩,
      lAny := ⟨F_lAny, b_lAny, PySem.W.mg_of X G a_lAny⟩,
      lShape := ⟨F_lShape, b_lShape, PySem.W.mg_of X G a_lShape⟩,
      lKind := ⟨F_lKind, b_lKind, PySem.W.mg_of X G a_lKind⟩,
      lDeep := ⟨F_lDeep, b_lDeep, PySem.W.mg_of X G a_lDeep⟩,
      lFault := ⟨F_lFault, b_lFault, PySem.W.mg_of X G a_lFault⟩,
      lItem := ⟨F_lItem, b_lItem, PySem.W.mg_of X G a_lItem⟩,
      lSpoil := ⟨F_lSpoil, b_lSpoil, PySem.W.mg_of X G a_lSpoil⟩,
      lThing := ⟨F_lThing, b_lThing, PySem.W.mg_of X G a_lThing⟩,
      lRight := ⟨F_lRight, b_lRight, PySem.W.mg_of X G a_lRight⟩,
      kI := ⟨F_kI, b_kI⟩,
      kE := ⟨F_kE, b_kE⟩,
      pI := ⟨F_pI, b_pI⟩ }
  exact ⟨PySem.W.fnOf "law" "law" (defArgs (top 44)) (defBody (top 44)) (defScope (top 44)) .none kV_law dc_law pm_law an_law cd_law ct_law, fun s v => .of_eq rfl, fun base _ _ => ok_law T F_law⟩
end Knd


set_option Elab.async false
open PySem PySem.W PyProof.Rows
set_option maxRecDepth 100000 in
set_option maxHeartbeats 0 in
theorem PySem.Challenge.cw_oncekinds_k20_whole_kinds_are_judged_holds : PySem.Challenge.rw_oncekinds_k20_whole_kinds_are_judged.Holds := by
  w_on; o_law; k_head; (case hw => w_witness2)
  k_fill
  refine L2.walk_ofK (l := PySem.Challenge.rw_oncekinds_k20_whole_kinds_are_judged) (n := 63) (k := 11) (x := "_law_script") (CX := L2.CX0) (sp := Knd.spLaw) rfl (by decide) rfl ⟨rfl, by decide, by decide⟩ (fun w h Y => PySem.W.kIn_of Y) ?F (fun _ _ a ns hl _ hS => ⟨a, ns, rfl, hS, hl, fun _ => rfl⟩) fun _ _ _ _ z => z
  case F =>
    intro w mg fa h KX G hmg
    refine' Knd.all_mk KX G hmg ?aB ?aK ?aP ?n_isinstance ?n_int ?n_bool ?n_str ?n_tuple ?n_list ?n_len ?n_enumerate ?n_range ?n_all ?n_abs ?n_sum ?n_max ?n_super ?m1 ?m2 ?a_cInt ?l_cInt ?c_cInt ?k_cInt ?a_cNum ?l_cNum ?c_cNum ?k_cNum ?a_cName ?l_cName ?c_cName ?k_cName ?a_kArr ?l_kArr ?c_kArr ?k_kArr ?a_kEnd ?l_kEnd ?c_kEnd ?k_kEnd ?a_kFlt ?l_kFlt ?c_kFlt ?k_kFlt ?a_pGive ?l_pGive ?c_pGive ?k_pGive ?a_pTake ?l_pTake ?c_pTake ?k_pTake ?a_pWord ?l_pWord ?c_pWord ?k_pWord ?a_pAsk ?l_pAsk ?c_pAsk ?k_pAsk ?a_pEnd ?l_pEnd ?c_pEnd ?k_pEnd ?a_pSec ?l_pSec ?c_pSec ?k_pSec ?a_pEnds ?l_pEnds ?c_pEnds ?k_pEnds ?a_pUses ?l_pUses ?c_pUses ?k_pUses ?a_pWt ?l_pWt ?c_pWt ?k_pWt ?a_pFlt ?l_pFlt ?c_pFlt ?k_pFlt ?a_lPot ?l_lPot ?c_lPot ?k_lPot ?a_lDraw ?l_lDraw ?c_lDraw ?k_lDraw ?a_lAny ?l_lAny ?c_lAny ?k_lAny ?a_lShape ?l_lShape ?c_lShape ?k_lShape ?a_lKind ?l_lKind ?c_lKind ?k_lKind ?a_lDeep ?l_lDeep ?c_lDeep ?k_lDeep ?a_lFault ?l_lFault ?c_lFault ?k_lFault ?a_lItem ?l_lItem ?c_lItem ?k_lItem ?a_lSpoil ?l_lSpoil ?c_lSpoil ?k_lSpoil ?a_lThing ?l_lThing ?c_lThing ?k_lThing ?a_lRight ?l_lRight ?c_lRight ?k_lRight ?a_law ?l_law ?c_law ?k_law ?a_kI ?l_kI ?c_kI ?k_kI ?a_kE ?l_kE ?c_kE ?k_kE ?a_pI ?l_pI ?c_pI ?k_pI ?pgK ?hdK ?poK ?saK ?mkK ?kcK ?caK ?moK ?nwK ?i1K ?i2K ?i3K ?i4K ?i5K ?pgP ?hdP ?poP ?saP ?mkP ?kcP ?caP ?moP ?nwP ?i1P ?i2P ?i3P ?i4P ?i5P ?cn ?ct ?fI ?fE ?fP ?ne ?nf1 ?nf2 ?nf3 ?nf4 ?nf5 ?ki1 ?ki2 ?ki3 ?xL ?su ?saB ?gaB ?ggB ?nB ?iB ?tB ?kB ?eB ?vB ?sB ?yB ?hB ?oB ?ssB ?tpB ?lB ?cB ?lD ?vD ?fD ?lC
    (case aB => k_is)
    (case aK => k_is)
    (case aP => k_is)
    (case n_isinstance => k_is)
    (case n_int => k_is)
    (case n_bool => k_is)
    (case n_str => k_is)
    (case n_tuple => k_is)
    (case n_list => k_is)
    (case n_len => k_is)
    (case n_enumerate => k_is)
    (case n_range => k_is)
    (case n_all => k_is)
    (case n_abs => k_is)
    (case n_sum => k_is)
    (case n_max => k_is)
    (case n_super => k_is)
    (case m1 => k_is)
    (case m2 => k_is)
    (case a_cInt => k_is)
    (case l_cInt => k_is)
    (case c_cInt => k_is)
    (case k_cInt => k_is)
    (case a_cNum => k_is)
    (case l_cNum => k_is)
    (case c_cNum => k_is)
    (case k_cNum => k_is)
    (case a_cName => k_is)
    (case l_cName => k_is)
    (case c_cName => k_is)
    (case k_cName => k_is)
    (case a_kArr => k_is)
    (case l_kArr => k_is)
    (case c_kArr => k_is)
    (case k_kArr => k_is)
    (case a_kEnd => k_is)
    (case l_kEnd => k_is)
    (case c_kEnd => k_is)
    (case k_kEnd => k_is)
    (case a_kFlt => k_is)
    (case l_kFlt => k_is)
    (case c_kFlt => k_is)
    (case k_kFlt => k_is)
    (case a_pGive => k_is)
    (case l_pGive => k_is)
    (case c_pGive => k_is)
    (case k_pGive => k_is)
    (case a_pTake => k_is)
    (case l_pTake => k_is)
    (case c_pTake => k_is)
    (case k_pTake => k_is)
    (case a_pWord => k_is)
    (case l_pWord => k_is)
    (case c_pWord => k_is)
    (case k_pWord => k_is)
    (case a_pAsk => k_is)
    (case l_pAsk => k_is)
    (case c_pAsk => k_is)
    (case k_pAsk => k_is)
    (case a_pEnd => k_is)
    (case l_pEnd => k_is)
    (case c_pEnd => k_is)
    (case k_pEnd => k_is)
    (case a_pSec => k_is)
    (case l_pSec => k_is)
    (case c_pSec => k_is)
    (case k_pSec => k_is)
    (case a_pEnds => k_is)
    (case l_pEnds => k_is)
    (case c_pEnds => k_is)
    (case k_pEnds => k_is)
    (case a_pUses => k_is)
    (case l_pUses => k_is)
    (case c_pUses => k_is)
    (case k_pUses => k_is)
    (case a_pWt => k_is)
    (case l_pWt => k_is)
    (case c_pWt => k_is)
    (case k_pWt => k_is)
    (case a_pFlt => k_is)
    (case l_pFlt => k_is)
    (case c_pFlt => k_is)
    (case k_pFlt => k_is)
    (case a_lPot => k_is)
    (case l_lPot => k_is)
    (case c_lPot => k_is)
    (case k_lPot => k_is)
    (case a_lDraw => k_is)
    (case l_lDraw => k_is)
    (case c_lDraw => k_is)
    (case k_lDraw => k_is)
    (case a_lAny => k_is)
    (case l_lAny => k_is)
    (case c_lAny => k_is)
    (case k_lAny => k_is)
    (case a_lShape => k_is)
    (case l_lShape => k_is)
    (case c_lShape => k_is)
    (case k_lShape => k_is)
    (case a_lKind => k_is)
    (case l_lKind => k_is)
    (case c_lKind => k_is)
    (case k_lKind => k_is)
    (case a_lDeep => k_is)
    (case l_lDeep => k_is)
    (case c_lDeep => k_is)
    (case k_lDeep => k_is)
    (case a_lFault => k_is)
    (case l_lFault => k_is)
    (case c_lFault => k_is)
    (case k_lFault => k_is)
    (case a_lItem => k_is)
    (case l_lItem => k_is)
    (case c_lItem => k_is)
    (case k_lItem => k_is)
    (case a_lSpoil => k_is)
    (case l_lSpoil => k_is)
    (case c_lSpoil => k_is)
    (case k_lSpoil => k_is)
    (case a_lThing => k_is)
    (case l_lThing => k_is)
    (case c_lThing => k_is)
    (case k_lThing => k_is)
    (case a_lRight => k_is)
    (case l_lRight => k_is)
    (case c_lRight => k_is)
    (case k_lRight => k_is)
    (case a_law => k_is)
    (case l_law => k_is)
    (case c_law => k_is)
    (case k_law => k_is)
    (case a_kI => k_is)
    (case l_kI => k_is)
    (case c_kI => k_is)
    (case k_kI => k_is)
    (case a_kE => k_is)
    (case l_kE => k_is)
    (case c_kE => k_is)
    (case k_kE => k_is)
    (case a_pI => k_is)
    (case l_pI => k_is)
    (case c_pI => k_is)
    (case k_pI => k_is)
    (case pgK => k_is)
    (case hdK => k_is)
    (case poK => k_is)
    (case saK => k_is)
    (case mkK => k_is)
    (case kcK => k_is)
    (case caK => k_is)
    (case moK => k_is)
    (case nwK => k_is)
    (case i1K => kit_is)
    (case i2K => kit_is)
    (case i3K => kit_is)
    (case i4K => kit_is)
    (case i5K => kit_is)
    (case pgP => k_is)
    (case hdP => k_is)
    (case poP => k_is)
    (case saP => k_is)
    (case mkP => k_is)
    (case kcP => k_is)
    (case caP => k_is)
    (case moP => k_is)
    (case nwP => k_is)
    (case i1P => kit_is)
    (case i2P => kit_is)
    (case i3P => kit_is)
    (case i4P => kit_is)
    (case i5P => kit_is)
    (case cn => k_is)
    (case ct => k_is)
    (case fI => k_is)
    (case fE => k_is)
    (case fP => k_is)
    (case ne => k_is)
    (case nf1 => k_is)
    (case nf2 => k_is)
    (case nf3 => k_is)
    (case nf4 => k_is)
    (case nf5 => k_is)
    (case ki1 => kit_is)
    (case ki2 => kit_is)
    (case ki3 => kit_is)
    (case xL => k_is)
    (case su => ks_is)
    (case saB => k_is)
    (case gaB => k_is)
    (case ggB => k_is)
    (case nB => k_is)
    (case iB => k_is)
    (case tB => k_is)
    (case kB => k_is)
    (case eB => k_is)
    (case vB => k_is)
    (case sB => k_is)
    (case yB => k_is)
    (case hB => k_is)
    (case oB => k_is)
    (case ssB => first | rfl | k_is)
    (case tpB => k_is)
    (case lB => k_is)
    (case cB => k_is)
    (case lD => k_is)
    (case vD => rfl)
    (case fD => first | rfl | decide)
    (case lC => k_is)
