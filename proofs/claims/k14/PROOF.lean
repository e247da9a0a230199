import PyProof.Rows.All
import Wide.All
import OpenK.AllK
import Wide.FinOn
import HandS.ForMost
import HandS.Exc
import HandS.OwnEq
import HandS.SlotsOwn
import HandS.IsInst
import HandS.Walk
import KE.GoesNew
import KE.GoesEnum
import HandS.Iter
import HandS.WordsExc
import HandS.Evl
import HandS.Wide
import HandS.Star
import HandS.Property
import HandS.FStr
import HandS.DictComp
import HandS.Replace
import HandS.Flow
import HandS.Zip
import HandS.AnyAll
import HandS.NoneIn
import PySem.Challenge.RW_turnbalance_k14_products
set_option Elab.async false
set_option linter.all false
set_option maxRecDepth 100000
set_option maxHeartbeats 4000000
namespace HX
open PySem PySem.Spec PyProof.Rows L2
section
variable {prog : Program} {w : World} {A : Around} {E : Value → Shared → Prop} {s : Shared} {K : PySem.W.Frag} {x C f : Addr} {ox : Obj} {od : Option Obj} {b tb : Value} {L : Addr} {h₀ : Heap} {m : Str → Option Value}
theorem ifBound_ne {M : Model} {args : List Value} {Q : Option Value → Shared → Prop} (X : K.In s.heap) (I : PySem.W.InstAt s.heap x ox C od) (hs : PySem.W.findIn K (.ref C) "__ne__" = some (some (.builtin "object.__ne__")))
    (h : wpAny M A (call (.builtin "object.__ne__") (.ref x :: args)) (fun v => Q (some v)) E s) : wpAny M A (callSpecialIfBound? (.ref x) "__ne__" args) Q E s := by
  simp only [callSpecialIfBound?, bindSpecialIfBound?]
  refine wpAny_holding (wpAny_bind (wpAny_bind (wpAny_bind (I.type.here ((PySem.W.looks_findIn X hs).here ?_)))))
  refine wpAny_bind (wpAny_askSetting (wpAny_ite ?_))
  have fin : wpAny M A (call (.builtin "object.__ne__") ([.ref x] ++ args) >>= fun v => pure (some v)) Q E s := wpAny_bind (wpAny_mono h (fun v s' h' => wpAny_pure h') fun _ _ h' => h')
  split
  · exact wpAny_bind (wpAny_of_eq (F.cmp_object.ne.bind _) (wpAny_pure (by exact fin)))
  · exact wpAny_tryCatch (wpAny_bind (wpAny_of_eq (F.cmp_object.ne.bind _) (wpAny_pure (by exact fin))))
theorem objNe {Q : Fin → Shared → Prop} (hu : A.units < cLine) (X : K.In s.heap) (I : PySem.W.InstAt s.heap x ox C od) (hs : PySem.W.findIn K (.ref C) "__eq__" = some (some (.ref f))) (hf : PySem.W.isFn K (.ref f) = true)
    (h : wpAny (model prog w) A (call (.ref f) [.ref x, b]) (fun v s' => ∃ c, v = .bool c ∧ Q (.done (.ret (.bool (!c)))) s') E s) : wpAny (model prog w) A (Builtin.«object.__ne__» ⟨[.ref x, b], []⟩) Q E s := by
  unfold Builtin.«object.__ne__»
  refine wpAny_bind (m := slotArgs "__ne__" 1 _) (wpAny_pure ?_)
  refine wpAny_bind (wpAny_cRoomFor hu ?_)
  refine wpAny_bind (m := callSpecialIfBound? (.ref x) (Str.ofString "__eq__") [b]) (PySem.W.ifBound_K X I hs hf (wpAny_mono h (fun r s' hr => ?_) fun _ _ e => e))
  obtain ⟨c, rfl, hq⟩ := hr
  exact wpAny_bind (wpAny_truthy_bool (wpAny_pure hq))
theorem ne_K {Q : Value → Shared → Prop} (hu : A.units + 1 < cLine) (X : K.In s.heap) (I : PySem.W.InstAt s.heap x ox C od) (hb : PySem.W.Looks (model prog w) s.heap (typeOf b) tb) (hn : PySem.W.notFirst K C tb = true)
    (hm : PySem.W.mroIn K C (.type "object") = some true) (hne : PySem.W.findIn K (.ref C) "__ne__" = some (some (.builtin "object.__ne__"))) (hs : PySem.W.findIn K (.ref C) "__eq__" = some (some (.ref f))) (hf : PySem.W.isFn K (.ref f) = true)
    (h : wpAny (model prog w) A.in1 (call (.ref f) [.ref x, b]) (fun v s' => ∃ c, v = .bool c ∧ Q (.bool (!c)) s') E s) : wpAny (model prog w) A (richCompare .NotEq (.ref x) b) Q E s := by
  have one : wpAny (model prog w) A (tryCompare (.ref x) "__ne__" b) (fun r s' => ∃ v, r = some v ∧ Q v s') E s := by
    unfold tryCompare
    refine wpAny_bind (ifBound_ne X I hne (wpAny_call (codeAny_call_builtin F.cmp_object.ne.plain F.cmpEntry_ne (PySem.W.check_slot F.cmpKind_ne F.cmpSplit_ne (I.type.andThen (PySem.W.looks_mroIn X hm)) (F.cmpArgs_ne _ _)
      (objNe (A := A.in1) hu X I hs hf (wpAny_mono h (fun v s' hv => ?_) fun _ _ e => e))))))
    obtain ⟨c, rfl, hq⟩ := hv
    exact ⟨c, rfl, wpAny_pure ⟨_, rfl, hq⟩⟩
  unfold richCompare
  simp only [oneThing_ref]
  refine wpAny_holding (wpAny_bind (wpAny_cRoomFor (Nat.lt_of_succ_lt hu) ?_))
  refine wpAny_bind (I.type.here (wpAny_bind (hb.here ?_)))
  split
  · rename_i q
    have e : PySem.W.subIn K tb (.ref C) = some false := by
      rcases Bool.or_eq_true_iff.mp hn with e | e
      · rw [beq_iff_eq.mp e] at q; simp at q
      · exact beq_iff_eq.mp e
    refine wpAny_bind ((PySem.W.looks_subIn X e).here ?_)
    simp only [Bool.false_eq_true, if_false]
    refine wpAny_bind (wpAny_mono one (fun r s' z => ?_) fun _ _ e => e)
    obtain ⟨v, rfl, hq⟩ := z
    exact wpAny_pure hq
  · refine wpAny_bind (wpAny_pure ?_)
    simp only [Bool.false_eq_true, if_false]
    refine wpAny_bind (wpAny_mono one (fun r s' z => ?_) fun _ _ e => e)
    obtain ⟨v, rfl, hq⟩ := z
    exact wpAny_pure hq
end
section
variable {prog : Program} {w : World} {A : Around} {E : Value → Shared → Prop} {s : Shared}
theorem best_mem (x : List Nat) : ∀ k, k < x.length → ∃ c, x[argBest (fun i j => decide (x.getD j 0 < x.getD i 0)) k]? = some c ∧ ∀ j, j ≤ k → x.getD j 0 ≤ c
  | 0, h => ⟨x[0], by simp [argBest], fun j hj => by
      have : j = 0 := by omega
      subst this; simp [List.getD_eq_getElem?_getD, h]⟩
  | k + 1, h => by
    obtain ⟨c, h1, h2⟩ := best_mem x k (by omega)
    have hc : x.getD (argBest (fun i j => decide (x.getD j 0 < x.getD i 0)) k) 0 = c := by rw [List.getD_eq_getElem?_getD, h1] <;> rfl
    simp only [argBest, hc, decide_eq_true_eq]
    by_cases q : c < x.getD (k + 1) 0
    · rw [if_pos q]
      refine ⟨x.getD (k + 1) 0, by simp [List.getD_eq_getElem?_getD, h], fun j hj => ?_⟩
      by_cases e : j = k + 1
      · subst e; exact Nat.le_refl _
      · exact Nat.le_of_lt (Nat.lt_of_le_of_lt (h2 j (by omega)) q)
    · rw [if_neg q]
      refine ⟨c, h1, fun j hj => ?_⟩
      by_cases e : j = k + 1
      · subst e; omega
      · exact h2 j (by omega)
theorem max_text {x : Str} {t : Tok} {Q : Value → Shared → Prop} (hh : A.handled = none) (hne : 0 < x.cps.size)
    (h : ∀ h' tk c u, (∀ b o, s.heap.get? b = some o → h'.get? b = some o) → c ∈ x.cps.toList → (∀ d ∈ x.cps.toList, d ≤ c) → Q (.str ⟨#[c]⟩ u) { s with heap := h', toks := tk }) : wpAny (model prog w) A (call (.builtin "max") [.str x t]) Q E s := by
  refine call_max_walk (wpAny_pyIter_str fun o St W st => ?_)
  have hl : x.cps.toList.length = x.cps.size := Array.length_toList
  refine ⟨_, _, _, _, _, _, fun i j => decide (x.cps.toList.getD j 0 < x.cps.toList.getD i 0), rfl, W A.in1 hh, st, fun b hb => ?_, hne, ?_, fun v h' tk hP hk => ?_⟩
  · rw [List.mem_singleton.mp hb, Heap.size_push]; exact Nat.lt_succ_self _
  · intro i j vi vj s Q E hi hj hQ
    obtain ⟨c, u, hc, rfl⟩ := hi
    obtain ⟨d, u', hd, rfl⟩ := hj
    have e1 : x.cps.toList.getD i 0 = c := by rw [List.getD_eq_getElem?_getD, Array.getElem?_toList, hc] <;> rfl
    have e2 : x.cps.toList.getD j 0 = d := by rw [List.getD_eq_getElem?_getD, Array.getElem?_toList, hd] <;> rfl
    simp only [e1, e2] at hQ
    refine P.gt_str ?_
    have e : decide (([d] : List Nat) < [c]) = decide (d < c) := by
      by_cases q : d < c
      · rw [decide_eq_true q, decide_eq_true]; exact List.Lex.rel q
      · rw [decide_eq_false q, decide_eq_false]
        intro z
        cases z with
        | rel z => exact q z
        | cons z => cases z
    show Q (.bool (decide (([d] : List Nat) < [c]))) s
    rw [e]; exact hQ
  · obtain ⟨c, u, hc, rfl⟩ := hP
    obtain ⟨c', h1, h2⟩ := best_mem x.cps.toList (x.cps.size - 1) (by omega)
    have hcc : c = c' := by
      rw [Array.getElem?_toList] at h1
      rw [hc] at h1; exact Option.some.inj h1
    subst hcc
    refine h h' tk c u (fun b o e => hk b o (fun hm => ?_) (Heap.get?_push_of_some _ e)) (List.mem_of_getElem? h1) fun d hd => ?_
    · rw [List.mem_singleton.mp hm] at e
      exact absurd (Heap.lt_size e) (Nat.lt_irrefl _)
    · obtain ⟨j, hj, e⟩ := List.mem_iff_getElem.mp hd
      have := h2 j (by omega)
      rw [List.getD_eq_getElem?_getD, List.getElem?_eq_getElem hj, e] at this
      exact this
end
end HX

namespace L2
open PySem PySem.Spec PyProof.Rows HX
section
variable {X : Cx} {CX : CXT} {C f : Addr} {n : Nat} {sp : Sp} {E : XK}
/-- x == y, x of the class at C with its own __eq__ at f, y an instance too -/
def rOwnEq (C : Addr) (sp : Sp) (E : XK) : R2 := fun x y H Q => ∃ a dx fs b dy gs, x = .ref a ∧ y = .ref b ∧ H a = some (.ins C dx fs) ∧ H b = some (.ins C dy gs) ∧ sp [x, y] H Q E
def rOwnNe (C : Addr) (sp : Sp) (E : XK) : R2 := fun x y H Q => ∃ a dx fs b dy gs, x = .ref a ∧ y = .ref b ∧ H a = some (.ins C dx fs) ∧ H b = some (.ins C dy gs) ∧ sp [x, y] H (fun v H' => ∃ c, v = .bl c ∧ Q (.bl (!c)) H') E
theorem op_ownEqI (hs : PySem.W.findIn X.K (.ref C) "__eq__" = some (some (.ref f))) (hf : PySem.W.isFn X.K (.ref f) = true) (F : FnR X.prog X.w X.K X.mg X.base CX n f sp)
    (hr : Room n X.A) (hx : Passes CX X E) : OpR X (compareOp .Eq) (rOwnEq C sp E) := by
  intro pins s σ H x y v u Q I rx ry h
  obtain ⟨a, dx, fs, b, dy, gs, rfl, rfl, ha, hb, q⟩ := h
  cases (show v = Value.ref a from rx)
  cases (show u = Value.ref b from ry)
  obtain ⟨mA, J, _⟩ := ins_get I.hok ha
  obtain ⟨mB, J', _⟩ := ins_get I.hok hb
  obtain ⟨od, J, _⟩ := J.look
  obtain ⟨od', J', _⟩ := J'.look
  obtain ⟨m, hF⟩ := I.fr
  show wpAny (model X.prog X.w) X.A (richCompare .Eq (.ref a) (.ref b)) (EP X pins σ Q) X.xe s
  refine PySem.W.cmp_K (op := .Eq) (tb := .ref C) hr.units0 hF I.ok.mod.kin J J'.type (by simp [PySem.W.notFirst]) hs hf ?_
  refine wpAny_mono (wpAny_call (run_fnR (us := [.ref a, .ref b]) (vs := [.ref a, .ref b]) F hr hx I (.cons rfl (.cons rfl .nil)) q)) (fun w s' z => ?_) fun _ _ x => x
  obtain ⟨z', H', I', rz, qz⟩ := z
  exact SlX.cmpback rz ⟨z', H', I', rz, qz⟩
theorem op_ownNeI (hm : PySem.W.mroIn X.K C (.type "object") = some true) (hne : PySem.W.findIn X.K (.ref C) "__ne__" = some (some (.builtin "object.__ne__"))) (hs : PySem.W.findIn X.K (.ref C) "__eq__" = some (some (.ref f))) (hf : PySem.W.isFn X.K (.ref f) = true)
    (F : FnR X.prog X.w X.K X.mg X.base CX n f sp) (hr : Room (n + 1) X.A) (hx : Passes CX X E) : OpR X (compareOp .NotEq) (rOwnNe C sp E) := by
  intro pins s σ H x y v u Q I rx ry h
  obtain ⟨a, dx, fs, b, dy, gs, rfl, rfl, ha, hb, q⟩ := h
  cases (show v = Value.ref a from rx)
  cases (show u = Value.ref b from ry)
  obtain ⟨mA, J, _⟩ := ins_get I.hok ha
  obtain ⟨mB, J', _⟩ := ins_get I.hok hb
  obtain ⟨od, J, _⟩ := J.look
  obtain ⟨od', J', _⟩ := J'.look
  show wpAny (model X.prog X.w) X.A (richCompare .NotEq (.ref a) (.ref b)) (EP X pins σ Q) X.xe s
  have hu : X.A.units + 1 < cLine := hu_of hr
  refine ne_K hu I.kIn J J'.type (by simp [PySem.W.notFirst]) hm hne hs hf ?_
  refine wpAny_mono (wpAny_call (SlX.run_at (us := [.ref a, .ref b]) (ws := [.ref a, .ref b]) F hr.in1 I.env0.in1 hx I (.cons rfl (.cons rfl .nil)) q)) (fun w s' z => ?_) fun _ _ x => x
  obtain ⟨z', H', I', rz, c, ez, qz⟩ := z
  subst ez
  exact ⟨c, rz, .bl (!c), H', I', rfl, qz⟩
/-- len(x) by an own __len__ -/
def rLenOwn (C : Addr) (sp : Sp) (E : XK) : List V → Hp → VK → Prop := fun xs H Q => ∃ a dx fs, xs = [V.ref a] ∧ H a = some (.ins C dx fs) ∧ sp [.ref a] H (fun z H' => ∃ i : Int, z = .int i ∧ (0 ≤ i ∧ i < 2 ^ 63) ∧ Q z H') E
theorem call_lenOwn (hs : PySem.W.findIn X.K (.ref C) "__len__" = some (some (.ref f))) (hf : PySem.W.isFn X.K (.ref f) = true) (F : FnR X.prog X.w X.K X.mg X.base CX n f sp) (hr : Room (n + 1) X.A) (hx : Passes CX X E) :
    CallR X (.builtin "len") (rLenOwn C sp E) := by
  intro pins s σ H xs us Q I r h
  obtain ⟨a, dx, fs, rfl, ha, q⟩ := h
  obtain ⟨u, rfl, ru⟩ := r.one
  cases (show u = Value.ref a from ru)
  obtain ⟨mA, J, _⟩ := ins_get I.hok ha
  obtain ⟨od, J, _⟩ := J.look
  obtain ⟨m, hF⟩ := I.fr
  refine PySem.W.len_K hF I.ok.mod.kin J hs hf (wpAny_mono (wpAny_call (SlX.run_at (us := [.ref a]) (ws := [.ref a]) F hr.in1 I.env0.in1 hx I (.cons rfl .nil) q)) (fun w s' z => ?_) fun _ _ x => x)
  obtain ⟨z', H', I', rz, i, ei, hi, qz⟩ := z
  subst ei
  obtain ⟨t, e⟩ := (show ∃ t, w = Value.int i t from rz)
  cases e
  exact ⟨hi, .int i, H', I'.tok _, ⟨_, rfl⟩, qz⟩
/-- repr(x) by an own __repr__ -/
def rReprOwn (C : Addr) (sp : Sp) (E : XK) : List V → Hp → VK → Prop := fun xs H Q => ∃ a dx fs, xs = [V.ref a] ∧ H a = some (.ins C dx fs) ∧ sp [.ref a] H (fun z H' => ∃ i : Str, z = .str i ∧ Q z H') E
theorem call_reprOwn (hs : PySem.W.findIn X.K (.ref C) "__repr__" = some (some (.ref f))) (hf : PySem.W.isFn X.K (.ref f) = true) (F : FnR X.prog X.w X.K X.mg X.base CX n f sp) (hr : Room (n + 1) X.A) (hx : Passes CX X E) :
    CallR X (.builtin "repr") (rReprOwn C sp E) := by
  intro pins s σ H xs us Q I r h
  obtain ⟨a, dx, fs, rfl, ha, q⟩ := h
  obtain ⟨u, rfl, ru⟩ := r.one
  cases (show u = Value.ref a from ru)
  obtain ⟨mA, J, _⟩ := ins_get I.hok ha
  obtain ⟨od, J, _⟩ := J.look
  obtain ⟨m, hF⟩ := I.fr
  refine PySem.W.repr_K hr.in1.units0 hF I.ok.mod.kin J hs hf (wpAny_mono (wpAny_call (SlX.run_at (us := [.ref a]) (ws := [.ref a]) F hr.in1 I.env0.in1 hx I (.cons rfl .nil) q)) (fun w s' z => ?_) fun _ _ x => x)
  obtain ⟨z', H', I', rz, i, ei, qz⟩ := z
  subst ei
  obtain ⟨t, e⟩ := (show ∃ t, w = Value.str i t from rz)
  cases e
  exact ⟨.str i, H', I', ⟨_, rfl⟩, qz⟩
/-- max of a text -/
def rMaxS : List V → Hp → VK → Prop := fun xs H Q => ∃ z : Str, xs = [V.str z] ∧ 0 < z.cps.size ∧ ∀ c, c ∈ z.cps.toList → (∀ d ∈ z.cps.toList, d ≤ c) → Q (.str ⟨#[c]⟩) H
theorem cr_maxS (hc : X.calm = true) : CallR X (.builtin "max") rMaxS := by
  intro pins s σ H vs us Q I r h
  obtain ⟨z, rfl, hne, q⟩ := h
  obtain ⟨u, rfl, ru⟩ := r.one
  obtain ⟨t, e⟩ := (show ∃ t, u = Value.str z t from ru)
  subst e
  exact max_text (I.ok.hd hc) hne fun h' tk c u hk h1 h2 => ⟨.str _, H, I.kept hk, ⟨_, rfl⟩, q c h1 h2⟩
end
end L2

set_option maxRecDepth 100000
set_option maxHeartbeats 4000000
namespace PySem
open Sem (wp)
set_option maxHeartbeats 1000000 in
theorem meets_enumerate_newZ {v : Value} {o : Obj} {H : Heap → Prop} (B : Begins v o H) :
    Meets (Builtin.«enumerate.__new__» ⟨[.type "enumerate", v], []⟩) (fun _ R s => H s.heap ∧
      R (.ok (.ret (.ref (s.heap.push o).objs.size))) { s with heap := (s.heap.push o).push { cls := .type "enumerate", data := .fields #[.none, .bool false, .ref s.heap.objs.size, rawInt 0, .none, .none] } }) :=
  .of_wp fun prog w A R s h => by
    obtain ⟨hp, g, d, tk, os⟩ := s; obtain ⟨h1, h⟩ := h
    have hsub := sub_enumerate
    have q1 : ∀ {A' : Around} {E : Value → Shared → Prop} {Q : Value → Shared → Prop}, Q (.ref hp.objs.size) ⟨hp.push o, g, d, tk, os⟩ → wpAny (model prog w) A' (pyIter v) Q E ⟨hp, g, d, tk, os⟩ :=
      fun q => B.iter prog w _ _ ⟨hp, g, d, tk, os⟩ _ h1 q
    wp_walk using q1
    refine wpAny_stack_any fun st => wpAny_pure ?_
    split
    · rename_i c _ _ _ _ _
      cases (c == Value.type "enumerate")
      · wp_walk using q1
        exact ⟨_, rfl, h⟩
      · wp_walk using q1
        exact ⟨_, rfl, h⟩
    · wp_walk using q1
      exact ⟨_, rfl, h⟩
section
variable {prog : Program} {w : World} {A : Around} {E : Value → Shared → Prop} {s : Shared}
theorem enum_begins1 {v : Value} {o : Obj} {H : Heap → Prop} {Q : Value → Shared → Prop} (B : Begins v o H) (h1 : H s.heap)
    (h : ∀ h', IsEnum h' (s.heap.objs.size + 1) s.heap.objs.size 0 .none → h'.get? s.heap.objs.size = some o → h'.objs.size = s.heap.objs.size + 2 →
      (∀ b o, s.heap.get? b = some o → h'.get? b = some o) → Q (.ref (s.heap.objs.size + 1)) { s with heap := h' }) :
    wpAny (model prog w) A (call (.type "enumerate") [v]) Q E s := by
  refine callType_new F.called_enumerate (by decide) (F.typeCall_enumerate_1 _) (F.newCall_enumerate_1 _) (fun obj => F.args_object_init_2 obj _) F.entry_enumerate_new
    (meets_enumerate_newZ B) ⟨h1, ?_⟩
  have hz : (s.heap.push o).objs.size = s.heap.objs.size + 1 := Heap.size_push ..
  show _ ∧ _
  rw [hz]
  have he : IsEnum ((s.heap.push o).push { cls := .type "enumerate", data := .fields #[.none, .bool false, .ref s.heap.objs.size, rawInt 0, .none, .none] }) (s.heap.objs.size + 1) s.heap.objs.size 0 .none := by
    have := Heap.get?_push_size (s.heap.push o) (o := { cls := .type "enumerate", data := .fields #[.none, .bool false, .ref s.heap.objs.size, rawInt 0, .none, .none] }) rfl
    rw [hz] at this; exact this
  refine ⟨⟨_, he, rfl⟩, h _ he (Heap.get?_push_of_some _ (Heap.get?_push_size _ B.free)) (by rw [Heap.size_push, hz]) fun b o x => Heap.get?_push_of_some _ (Heap.get?_push_of_some _ x)⟩
end
end PySem
namespace L2
open PySem PySem.Spec PyProof.Rows
/-- a source of items: n of them, what the i-th is, when it stands -/
structure Src where
  n : Nat
  at_ : Hp → Prop
  val : Nat → V → Prop
/-- the machine's side of it, from the value u: a new iterator o; its state; what stands behind it -/
structure SrcOk (P : Program) (w : World) (S : Src) (u : Value) (o : Obj) (tn : Addr → Nat → Heap → Prop) (ext : Heap → Prop) (fx : List Addr) (Pv : Nat → Value → Prop) : Prop where
  begins : Begins u o ext
  start : ∀ (h : Heap) it, h.get? it = some o → tn it 0 h
  obj : ∀ it i h, tn it i h → ∃ o, h.get? it = some o ∧ ∀ v, o.data ≠ .cell v
  keep : ∀ it i h h', tn it i h → (∀ o, h.get? it = some o → h'.get? it = some o) → tn it i h'
  draws : ∀ (A : Around) it, A.handled = none → it ∉ fx → Draws P w A it (it :: fx) S.n Pv (fun i h => tn it i h ∧ ext h)
  val : ∀ i v, Pv i v → ∃ x, S.val i x ∧ RelV x v
  old : ∀ h, ext h → ∀ b ∈ fx, b < h.objs.size
/-- in every state of X in which it stands -/
def SrcAt (X : Cx) (S : Src) (v : V) : Prop := ∀ (pins : List (Addr × Obj)) (s : Shared) (σ : St) (H : Hp) (u : Value), Inv X pins σ H s → RelV v u → S.at_ H →
  ∃ o tn ext fx Pv, SrcOk X.prog X.w S u o tn ext fx Pv ∧ ext s.heap ∧ ∀ (Y : Cx), Y.prog = X.prog → Y.w = X.w → Y.K = X.K → ∀ (pins' : List (Addr × Obj)) (s' : Shared) (σ' : St) (H' : Hp), Inv Y pins' σ' H' s' → S.at_ H' → ext s'.heap
/-- the i-th with its number, in a new pair -/
def Ien (S : Src) : It :=
  ⟨fun i H => i < S.n ∧ S.at_ H, fun i H v H' => ∃ T x, v = .ref T ∧ H T = none ∧ H' = upd H T (.tup [.int (i : Nat), x]) ∧ S.val i x, fun i H => S.n ≤ i ∧ S.at_ H⟩
theorem turn_enumS {P : Program} {w : World} {K : PySem.W.Frag} {elts : List Expr} {kk : Nat} {tpos : Pos} {S : Src} {u : Value} {o : Obj} {tn : Addr → Nat → Heap → Prop} {ext : Heap → Prop} {fx : List Addr} {Pv : Nat → Value → Prop}
    (G : SrcOk P w S u o tn ext fx Pv) (hext : ∀ (Y : Cx), Y.prog = P → Y.w = w → Y.K = K → ∀ (pins' : List (Addr × Obj)) (s' : Shared) (σ' : St) (H' : Hp), Inv Y pins' σ' H' s' → S.at_ H' → ext s'.heap) (e it : Addr) (hne : e ≠ it) (hie : it ∉ fx) (hee : e ∉ fx) :
    Turn P w K (.Tuple elts kk tpos) (Ien S) [e, it] e (fun i h => i ≤ S.n ∧ (∃ old, IsEnum h e it ((i : Nat) : Int) old) ∧ tn it i h) where
  mem := by simp
  obj := fun i h st b hb => by
    obtain ⟨_, ⟨old, he⟩, hi⟩ := st
    have e' : b = e ∨ b = it := by simpa using hb
    rcases e' with z | z
    · rw [z]; exact ⟨_, he, fun v q => nomatch q⟩
    · rw [z]; exact G.obj _ _ _ hi
  keep := fun i h h' st k => let ⟨hn, ⟨old, he⟩, hi⟩ := st; ⟨hn, ⟨old, k e (by simp) _ he⟩, G.keep _ _ _ _ hi fun o q => k it (by simp) o q⟩
  item := by
    intro X hP hw hK hc i pins s σ H E I hf st hg
    subst hP hw
    obtain ⟨hn, ⟨old, he⟩, hit⟩ := st
    obtain ⟨hlt, hat⟩ := hg
    have hx := hext X rfl rfl hK pins s σ H I hat
    have hel : e < s.heap.objs.size := Heap.lt_size he
    have hil : it < s.heap.objs.size := by obtain ⟨_, q, _⟩ := G.obj _ _ _ hit; exact Heap.lt_size q
    have hef : e ∉ it :: fx := fun z => by
      rcases List.mem_cons.mp z with z | z
      · exact hne z
      · exact hee z
    refine wpAny_pyNext_enum_itemD (G.draws X.A.in1 it (I.ok.hd hc) hie) he ⟨hit, hx⟩ hlt hne hef fun x h' tk hP ho hs' hT hsz hk => ?_
    obtain ⟨xv, hxv, rx⟩ := G.val _ _ hP
    refine ⟨_, rfl, wpAny_letOwnedTupleGo_enum (s := { s with heap := h', toks := tk + 1 }) ho fun h'' he' sb => ?_⟩
    have hT2 : h''.get? s.heap.objs.size = some { cls := .type "tuple", data := .seq #[.int i tk, x] } := (sb.2 _ (Nat.ne_of_gt hel)).trans hT
    have new : ObjOk X.prog X.w (upd H s.heap.objs.size (.tup [.int (i : Nat), xv])) h'' s.heap.objs.size (.tup [.int (i : Nat), xv]) :=
      ⟨by show 2 ≤ sizeLine; decide, [.int i tk, x], .cons ⟨_, rfl⟩ (.cons rx .nil), ⟨_, hT2, rfl, _, rfl⟩⟩
    have I1 : Inv X pins σ (upd H s.heap.objs.size (.tup [.int (i : Nat), xv])) { s with heap := h'', toks := tk + 1 } :=
      I.turnedNew (ch := [e, it]) (fun b ob hb q => (sb.2 b (fun z => hb (by simp [z]))).trans (hk b ob (fun z => hb (by simp [z])) (fun z => hb (by simp [z])) q)) hf (Nat.le_refl _) new
    refine ⟨.ref s.heap.objs.size, _, I1, rfl, ⟨_, xv, rfl, I.hok.fresh (Nat.le_refl _), rfl, hxv⟩, ⟨hlt, ⟨x, ?_⟩, G.keep _ _ _ _ hs'.1 fun o q => (sb.2 it (Ne.symm hne)).trans q⟩, fun b hb => ?_⟩
    · have e1 : ((i + 1 : Nat) : Int) = (i : Int) + 1 := by omega
      rw [e1]; exact he'
    · have hb' : b < s.heap.objs.size := by
        have e' : b = e ∨ b = it := by simpa using hb
        rcases e' with z | z
        · rw [z]; exact hel
        · rw [z]; exact hil
      rw [upd_ne (Nat.ne_of_lt hb')]
      exact (hf b hb).1
  done := by
    intro X hP hw hK hc i pins s σ H E I hf st hg
    subst hP hw
    obtain ⟨hn, ⟨old, he⟩, hit⟩ := st
    obtain ⟨hle, hat⟩ := hg
    have hx := hext X rfl rfl hK pins s σ H I hat
    have hin : i = S.n := Nat.le_antisymm hn hle
    obtain ⟨f0, f1, f2, f3, f4, f5⟩ := hf it (by simp)
    exact wpAny_pyNext_enum_endD (G.draws X.A.in1 it (I.ok.hd hc) hie) he (hin ▸ ⟨hit, hx⟩) fun h' eb => ⟨rfl, I.turned (t' := s.toks) (fun b o hb q => eb b o hb q) f0 f1 f3 f4 f5⟩
  self := fun A i s Q E st h => let ⟨_, ⟨_, he⟩, _⟩ := st; wpAny_pyIter_enum he h
/-- enumerate(e): S v is the source that the value v is -/
def iEnumS (S : V → Src → Prop) (ta : TA) : TI := fun σ H R => ta σ H fun vs H1 => ∃ v T, vs = [v] ∧ S v T ∧ T.at_ H1 ∧ R (Ien T) H1
theorem pi_enumS {X : Cx} {S : V → Src → Prop} {e : Expr} {ta : TA} {p pos tpos : Pos} {elts : List Expr} {kk : Nat} (hS : ∀ v T, S v T → SrcAt X T v) (hg : Gl X "enumerate") (hm : X.mg "enumerate" = none) (ha : PA X [e] ta) (hs : starEach [e] X.env = [(false, eval e X.env)] := by rfl) :
    PI X (.Tuple elts kk tpos) (.Call (.Name "enumerate" p) [e] [] pos) (iEnumS S ta) := by
  refine ⟨fun pins s σ H R I h => ?_⟩
  refine Call_ (ld_blt I hg hm boot_enumerate (PyProof.Rows.callWith_type1 (thn (ha.run pos pins s σ H _ I h) fun us s1 ⟨vs, H1, I1, r1, q1⟩ => ?_) hs rfl))
  obtain ⟨v, T, ex, hsv, hat, q⟩ := q1
  subst ex
  obtain ⟨u, rfl, ru⟩ := r1.one
  obtain ⟨o, tn, ext, fx, Pv, G, hx, hext⟩ := hS v T hsv pins s1 σ H1 u I1 ru hat
  refine enum_begins1 G.begins hx fun h' he hit hsz hk => wpAny_pyIter_enum he ?_
  have I2 : Inv X pins σ H1 { s1 with heap := h' } := I1.kept (t' := s1.toks) hk
  have hl : ∀ b ∈ fx, b < s1.heap.objs.size := G.old _ hx
  refine ⟨s1.heap.objs.size + 1, [s1.heap.objs.size + 1, s1.heap.objs.size], _, _, H1, rfl, I2, turn_enumS G hext (s1.heap.objs.size + 1) s1.heap.objs.size (Nat.succ_ne_self _) (fun z => Nat.lt_irrefl _ (hl _ z)) (fun z => Nat.not_succ_lt_self (hl _ z)), ⟨Nat.zero_le _, ⟨.none, he⟩, G.start _ _ hit⟩, fun b hb => ?_, q⟩
  have e' : b = s1.heap.objs.size + 1 ∨ b = s1.heap.objs.size := by simpa using hb
  have hle : s1.heap.objs.size ≤ b := by
    rcases e' with z | z
    · rw [z]; exact Nat.le_add_right _ _
    · rw [z]; exact Nat.le_refl _
  exact I1.fpOk hle (I1.hok.fresh hle)
theorem walk_enumS {S : Src} : Walk (Ien S) S.n S.at_ (fun i H v H' => ∃ T x, v = .ref T ∧ H T = none ∧ H' = upd H T (.tup [.int (i : Nat), x]) ∧ S.val i x) :=
  ⟨fun _ _ hi q => ⟨hi, q⟩, fun _ q => ⟨Nat.le_refl _, q⟩, fun _ _ _ _ _ _ y => y⟩
def srcS (z : Str) : Src := ⟨z.cps.size, fun _ => True, fun i x => ∃ c, z.cps[i]? = some c ∧ x = .str ⟨#[c]⟩⟩
def srcL (K : PySem.W.Frag) (a : Addr) (xs : List V) : Src := ⟨xs.length, fun H => SqL K H a xs, fun i x => xs[i]? = some x⟩
def srcT (K : PySem.W.Frag) (a : Addr) (xs : List V) : Src := ⟨xs.length, fun H => SqT K H a xs, fun i x => xs[i]? = some x⟩
theorem srcS_ok {X : Cx} {z : Str} : SrcAt X (srcS z) (.str z) := by
  intro pins s σ H u I ru _
  obtain ⟨t, e⟩ := (show ∃ t, u = Value.str z t from ru)
  subst e
  refine ⟨_, fun it i h => h.IsStrIter it (strIterType z) z t i, fun _ => True, [], fun i v => ∃ c u, z.cps[i]? = some c ∧ v = .str ⟨#[c]⟩ u, ⟨begins_text z t, fun h it e => ⟨_, e, rfl, rfl⟩, fun it i h ⟨o, e, _, d⟩ => ⟨o, e, fun v q => by rw [d] at q; cases q⟩, fun it i h h' ⟨o, e, r⟩ k => ⟨o, k o e, r⟩, fun A it hA _ => ?_, fun i v ⟨c, u, hc, e⟩ => ⟨.str ⟨#[c]⟩, ⟨c, hc, rfl⟩, u, e⟩, fun _ _ b hb => by cases hb⟩, trivial, fun _ _ _ _ _ _ _ _ _ _ => trivial⟩
  have D := Draws.text (prog := X.prog) (w := X.w) (A := A) hA it z t
  exact { live := fun i h st => D.live i h st.1, frame := fun i h h' st k => ⟨D.frame i h h' st.1 k, trivial⟩, item := fun i s Q E hi st hQ => D.item i s Q E hi st.1 fun x h' tk a b c => hQ x h' tk a ⟨b, trivial⟩ c, done := fun s Q E st hE => D.done s Q E st.1 hE }
/-- the items of a sequence stand for xs -/
def Its_ (xs : List V) (items : Array Value) : Prop := items.size = xs.length ∧ ∀ (i : Nat) (v : Value), items[i]? = some v → ∃ x : V, xs[i]? = some x ∧ RelV x v
theorem its_of {xs : List V} {its : List Value} (r : Vals xs its) : Its_ xs its.toArray := by
  refine ⟨by rw [List.size_toArray, ← r.length], fun i v e => ?_⟩
  have hi : i < xs.length := by
    have := (Array.getElem?_eq_some_iff.mp e).1
    rw [List.size_toArray, ← r.length] at this; exact this
  obtain ⟨u, hu, ru⟩ := r.get (List.getElem?_eq_getElem hi)
  rw [List.getElem?_toArray, hu] at e
  cases e
  exact ⟨_, List.getElem?_eq_getElem hi, ru⟩
theorem srcL_ok {X : Cx} {a : Addr} {xs : List V} : SrcAt X (srcL X.K a xs) (.ref a) := by
  intro pins s σ H u I ru hat
  cases (show u = Value.ref a from ru)
  have all : ∀ (Y : Cx), Y.prog = X.prog → Y.w = X.w → Y.K = X.K → ∀ (pins' : List (Addr × Obj)) (s' : Shared) (σ' : St) (H' : Hp), Inv Y pins' σ' H' s' → SqL X.K H' a xs → ∃ items, s'.heap.IsList a items ∧ Its_ xs items := fun Y h1 h2 h3 pins' s' σ' H' I' q => by
    rw [← h3] at q
    obtain ⟨its, rv, p, _⟩ := I'.list q
    exact ⟨its.toArray, p.isList, its_of rv⟩
  refine ⟨_, fun it i h => h.IsListIter it a i, fun h => ∃ items, h.IsList a items ∧ Its_ xs items, [a], fun (i : Nat) v => ∃ x : V, xs[i]? = some x ∧ RelV x v, ⟨⟨fun prog w A E s Q ⟨items, hl, _⟩ h => wpAny_pyIter_list hl h, fun h h' ⟨items, hl, r⟩ k => ⟨items, hl.at fun o e => k a o e, r⟩, rfl⟩, fun h it e => ⟨_, e, rfl, rfl⟩, fun it i h ⟨o, e, _, d⟩ => ⟨o, e, fun v q => by rw [d] at q; cases q⟩, fun it i h h' st k => st.at fun o e => k o e, fun A it hA hia => ?_, fun i v h => h, fun h ⟨items, ⟨o, ho, _⟩, _⟩ b hb => by rw [List.mem_singleton.mp hb]; exact Heap.lt_size ho⟩, all X rfl rfl rfl pins s σ H I hat, all⟩
  have hne : a ≠ it := fun z => hia (by rw [z]; exact List.mem_singleton.mpr rfl)
  refine { live := fun i h st => let ⟨o, ho, _⟩ := st.1; ⟨o, ho⟩, frame := fun i h h' st k => ⟨st.1.at fun o e => k it (by simp) o e, let ⟨items, hl, r⟩ := st.2; ⟨items, hl.at fun o e => k a (by simp) o e, r⟩⟩, item := fun i s Q E hi st hQ => ?_, done := fun s Q E st hE => ?_ }
  · obtain ⟨h1, items, hl, hz, r⟩ := st
    have hi' : i < items.size := by rw [hz]; exact hi
    refine wpAny_nextOf_list_item h1 hl (x := items[i]) (by simp [hi']) fun h' hit' hs' => ?_
    exact hQ _ h' s.toks (r i _ (by simp [hi'])) ⟨hit', items, hl.extBut hs'.extBut hne, hz, r⟩ hs'
  · obtain ⟨h1, items, hl, hz, r⟩ := st
    exact wpAny_nextOf_list_end hA h1 hl (Array.getElem?_eq_none (by rw [hz]; exact Nat.le_refl _)) hE
theorem srcT_ok {X : Cx} {a : Addr} {xs : List V} : SrcAt X (srcT X.K a xs) (.ref a) := by
  intro pins s σ H u I ru hat
  cases (show u = Value.ref a from ru)
  have all : ∀ (Y : Cx), Y.prog = X.prog → Y.w = X.w → Y.K = X.K → ∀ (pins' : List (Addr × Obj)) (s' : Shared) (σ' : St) (H' : Hp), Inv Y pins' σ' H' s' → SqT X.K H' a xs → ∃ items, s'.heap.IsTuple a items ∧ Its_ xs items := fun Y h1 h2 h3 pins' s' σ' H' I' q => by
    rw [← h3] at q
    obtain ⟨its, rv, p, _⟩ := I'.tuple q
    exact ⟨its.toArray, p, its_of rv⟩
  refine ⟨_, fun it i h => h.IsTupleIter it a i, fun h => ∃ items, h.IsTuple a items ∧ Its_ xs items, [a], fun (i : Nat) v => ∃ x : V, xs[i]? = some x ∧ RelV x v, ⟨⟨fun prog w A E s Q ⟨items, hl, _⟩ h => wpAny_pyIter_tuple hl h, fun h h' ⟨items, hl, r⟩ k => ⟨items, hl.at fun o e => k a o e, r⟩, rfl⟩, fun h it e => ⟨_, e, rfl, rfl⟩, fun it i h ⟨o, e, _, d⟩ => ⟨o, e, fun v q => by rw [d] at q; cases q⟩, fun it i h h' st k => st.at fun o e => k o e, fun A it hA hia => ?_, fun i v h => h, fun h ⟨items, ⟨o, ho, _⟩, _⟩ b hb => by rw [List.mem_singleton.mp hb]; exact Heap.lt_size ho⟩, all X rfl rfl rfl pins s σ H I hat, all⟩
  have hne : a ≠ it := fun z => hia (by rw [z]; exact List.mem_singleton.mpr rfl)
  refine { live := fun i h st => let ⟨o, ho, _⟩ := st.1; ⟨o, ho⟩, frame := fun i h h' st k => ⟨st.1.at fun o e => k it (by simp) o e, let ⟨items, hl, r⟩ := st.2; ⟨items, hl.at fun o e => k a (by simp) o e, r⟩⟩, item := fun i s Q E hi st hQ => ?_, done := fun s Q E st hE => ?_ }
  · obtain ⟨h1, items, hl, hz, r⟩ := st
    have hi' : i < items.size := by rw [hz]; exact hi
    refine wpAny_nextOf_tuple_item h1 hl (x := items[i]) (by simp [hi']) fun h' hit' hs' => ?_
    exact hQ _ h' s.toks (r i _ (by simp [hi'])) ⟨hit', items, hl.extBut hs'.extBut hne, hz, r⟩ hs'
  · obtain ⟨h1, items, hl, hz, r⟩ := st
    exact wpAny_nextOf_tuple_end hA h1 hl (Array.getElem?_eq_none (by rw [hz]; exact Nat.le_refl _)) hE
/-- any of the three -/
def SrcV (K : PySem.W.Frag) : V → Src → Prop := fun v T => (∃ z, v = .str z ∧ T = srcS z) ∨ (∃ a xs, v = .ref a ∧ T = srcL K a xs) ∨ ∃ a xs, v = .ref a ∧ T = srcT K a xs
theorem srcV_ok {X : Cx} : ∀ v T, SrcV X.K v T → SrcAt X T v := by
  rintro v T (⟨z, rfl, rfl⟩ | ⟨a, xs, rfl, rfl⟩ | ⟨a, xs, rfl, rfl⟩)
  · exact srcS_ok
  · exact srcL_ok
  · exact srcT_ok
end L2

set_option maxRecDepth 100000
set_option maxHeartbeats 4000000
namespace DL
open PySem L2
open Evl (Ex)

/-- plain Python data -/
inductive D where
  | non | bl (b : Bool) | int (i : Int) | str (x : Str) | lst (xs : List D) | tup (xs : List D)
  | dic (kvs : List (Key × D)) | obj (C : Addr) (fs : List (Str × D)) | scr (ns : List Int) | fn (a : Addr) | ty (n : String)

mutual
inductive Rep (K : PySem.W.Frag) (B : Hp) : D → V → Prop
  | non : Rep K B .non .non
  | bl {b : Bool} : Rep K B (.bl b) (.bl b)
  | int {i : Int} : Rep K B (.int i) (.int i)
  | str {x : Str} : Rep K B (.str x) (.str x)
  | lst {xs : List D} {a : Addr} {vs : List V} : B a = some (.lst vs) → RepL K B xs vs → Rep K B (.lst xs) (.ref a)
  | tup {xs : List D} {a : Addr} {vs : List V} : SqT K B a vs → RepL K B xs vs → Rep K B (.tup xs) (.ref a)
  | dic {kvs : List (Key × D)} {a : Addr} {kws : List (Key × V)} : B a = some (.dK kws) → RepK K B kvs kws → Rep K B (.dic kvs) (.ref a)
  | obj {C : Addr} {fs : List (Str × D)} {a dx : Addr} {gs : List (Str × V)} : B a = some (.ins C dx gs) → RepF K B fs gs → Rep K B (.obj C fs) (.ref a)
  | scr {ns : List Int} {a : Addr} : SqL K B a (ns.map V.int) → Rep K B (.scr ns) (.ref a)
  | fn {a : Addr} : Rep K B (.fn a) (.ref a)
  | ty {n : String} : Rep K B (.ty n) (.ty n)
inductive RepL (K : PySem.W.Frag) (B : Hp) : List D → List V → Prop
  | nil : RepL K B [] []
  | cons {d : D} {v : V} {ds : List D} {vs : List V} : Rep K B d v → RepL K B ds vs → RepL K B (d :: ds) (v :: vs)
inductive RepK (K : PySem.W.Frag) (B : Hp) : List (Key × D) → List (Key × V) → Prop
  | nil : RepK K B [] []
  | cons {k : Key} {d : D} {v : V} {ds : List (Key × D)} {vs : List (Key × V)} : Rep K B d v → RepK K B ds vs → RepK K B ((k, d) :: ds) ((k, v) :: vs)
inductive RepF (K : PySem.W.Frag) (B : Hp) : List (Str × D) → List (Str × V) → Prop
  | nil : RepF K B [] []
  | cons {k : Str} {d : D} {v : V} {ds : List (Str × D)} {vs : List (Str × V)} : Rep K B d v → RepF K B ds vs → RepF K B ((k, d) :: ds) ((k, v) :: vs)
end
section
variable {K : PySem.W.Frag} {B B' : Hp}
mutual
theorem Rep.mono (e : Ex B B') : ∀ {d : D} {v : V}, Rep K B d v → Rep K B' d v
  | _, _, .non => .non
  | _, _, .bl => .bl
  | _, _, .int => .int
  | _, _, .str => .str
  | _, _, .lst h r => .lst (e _ _ h) (RepL.mono e r)
  | _, _, .tup h r => .tup (Evl.ex_t e h) (RepL.mono e r)
  | _, _, .dic h r => .dic (e _ _ h) (RepK.mono e r)
  | _, _, .obj h r => .obj (e _ _ h) (RepF.mono e r)
  | _, _, .scr h => .scr (Evl.ex_l e h)
  | _, _, .fn => .fn
  | _, _, .ty => .ty
theorem RepL.mono (e : Ex B B') : ∀ {d : List D} {v : List V}, RepL K B d v → RepL K B' d v
  | _, _, .nil => .nil
  | _, _, .cons h r => .cons (Rep.mono e h) (RepL.mono e r)
theorem RepK.mono (e : Ex B B') : ∀ {d : List (Key × D)} {v : List (Key × V)}, RepK K B d v → RepK K B' d v
  | _, _, .nil => .nil
  | _, _, .cons h r => .cons (Rep.mono e h) (RepK.mono e r)
theorem RepF.mono (e : Ex B B') : ∀ {d : List (Str × D)} {v : List (Str × V)}, RepF K B d v → RepF K B' d v
  | _, _, .nil => .nil
  | _, _, .cons h r => .cons (Rep.mono e h) (RepF.mono e r)
end
theorem RepL.length : ∀ {ds : List D} {vs : List V}, RepL K B ds vs → ds.length = vs.length
  | _, _, .nil => rfl
  | _, _, .cons _ r => by rw [List.length_cons, List.length_cons, r.length]
theorem RepL.get : ∀ {ds : List D} {vs : List V} {i : Nat} {v : V}, RepL K B ds vs → vs[i]? = some v → ∃ d, ds[i]? = some d ∧ Rep K B d v
  | _, _, i, v, .nil, h => by simp at h
  | _, _, 0, v, .cons r t, h => by simp at h; subst h; exact ⟨_, rfl, r⟩
  | _, _, i + 1, v, .cons r t, h => by
    obtain ⟨d, h1, h2⟩ := RepL.get (i := i) (v := v) t (by simpa using h)
    exact ⟨d, by simpa using h1, h2⟩
theorem RepL.get' : ∀ {ds : List D} {vs : List V} {i : Nat} {d : D}, RepL K B ds vs → ds[i]? = some d → ∃ v, vs[i]? = some v ∧ Rep K B d v
  | _, _, i, v, .nil, h => by simp at h
  | _, _, 0, v, .cons r t, h => by simp at h; subst h; exact ⟨_, rfl, r⟩
  | _, _, i + 1, v, .cons r t, h => by
    obtain ⟨d, h1, h2⟩ := RepL.get' (i := i) (d := v) t (by simpa using h)
    exact ⟨d, by simpa using h1, h2⟩
theorem RepL.append : ∀ {ds es : List D} {vs ws : List V}, RepL K B ds vs → RepL K B es ws → RepL K B (ds ++ es) (vs ++ ws)
  | _, _, _, _, .nil, s => s
  | _, _, _, _, .cons r t, s => .cons r (RepL.append t s)
theorem RepL.set {d : D} {v : V} (r : Rep K B d v) : ∀ {ds : List D} {vs : List V} (i : Nat), RepL K B ds vs → RepL K B (ds.set i d) (vs.set i v)
  | _, _, _, .nil => .nil
  | _, _, 0, .cons _ t => .cons r t
  | _, _, i + 1, .cons q t => .cons q (RepL.set r i t)
theorem RepL.take : ∀ {ds : List D} {vs : List V} (n : Nat), RepL K B ds vs → RepL K B (ds.take n) (vs.take n)
  | _, _, 0, _ => .nil
  | _, _, _ + 1, .nil => .nil
  | _, _, n + 1, .cons r t => .cons r (RepL.take n t)
theorem RepL.drop : ∀ {ds : List D} {vs : List V} (n : Nat), RepL K B ds vs → RepL K B (ds.drop n) (vs.drop n)
  | _, _, 0, r => r
  | _, _, _ + 1, .nil => .nil
  | _, _, n + 1, .cons _ t => RepL.drop n t
theorem RepL.ints : ∀ {ns : List Int} {vs : List V}, RepL K B (ns.map D.int) vs → vs = ns.map V.int
  | [], _, h => by cases h; rfl
  | n :: ns, _, h => by
    cases h with
    | cons a b => cases a; rw [RepL.ints b]; rfl
theorem RepL.bls : ∀ {ns : List Bool} {vs : List V}, RepL K B (ns.map D.bl) vs → vs = ns.map V.bl
  | [], _, h => by cases h; rfl
  | n :: ns, _, h => by
    cases h with
    | cons a b => cases a; rw [RepL.bls b]; rfl
theorem RepL.strs : ∀ {ns : List Str} {vs : List V}, RepL K B (ns.map D.str) vs → vs = ns.map V.str
  | [], _, h => by cases h; rfl
  | n :: ns, _, h => by
    cases h with
    | cons a b => cases a; rw [RepL.strs b]; rfl
theorem RepL.ints' : ∀ (ns : List Int), RepL K B (ns.map D.int) (ns.map V.int)
  | [] => .nil
  | n :: ns => .cons .int (RepL.ints' ns)
theorem RepL.strs' : ∀ (ns : List Str), RepL K B (ns.map D.str) (ns.map V.str)
  | [] => .nil
  | n :: ns => .cons .str (RepL.strs' ns)
theorem RepF.look {f : Str} : ∀ {ds : List (Str × D)} {vs : List (Str × V)}, RepF K B ds vs → (∀ {d : D}, ds.lookup f = some d → ∃ v, vs.lookup f = some v ∧ Rep K B d v) ∧ (ds.lookup f = none → vs.lookup f = none)
  | _, _, .nil => ⟨fun h => by simp at h, fun _ => rfl⟩
  | (k, d) :: ds, (_, v) :: vs, .cons r t => by
    have ih := RepF.look (f := f) t
    cases e : f == k with
    | true =>
      constructor
      · intro d' h
        simp only [List.lookup_cons, e] at h ⊢
        cases h
        exact ⟨v, rfl, r⟩
      · intro h
        simp only [List.lookup_cons, e] at h
        cases h
    | false =>
      constructor
      · intro d' h
        simp only [List.lookup_cons, e] at h ⊢
        exact ih.1 h
      · intro h
        simp only [List.lookup_cons, e] at h ⊢
        exact ih.2 h
theorem RepF.length : ∀ {ds : List (Str × D)} {vs : List (Str × V)}, RepF K B ds vs → ds.length = vs.length
  | _, _, .nil => rfl
  | _, _, .cons _ r => by rw [List.length_cons, List.length_cons, r.length]
end

/-- an owned object: a list, a dict, a law's pool of draws -/
inductive OO where
  | l (xs : List D) | d (kvs : List (Key × D)) | i (C : Addr) (fs : List (Str × D)) | pl
def PoolOk (p q : Int) : Prop := 0 ≤ q ∧ q < 2147483647
def ORep (K : PySem.W.Frag) (B : Hp) : OO → HO → Prop
  | .l xs, .lst vs => RepL K B xs vs
  | .d kvs, .dK kws => RepK K B kvs kws
  | .i C fs, .ins C' _ gs => C = C' ∧ RepF K B fs gs
  | .pl, .lst vs => ∃ p q, vs = [.int p, .int q] ∧ PoolOk p q
  | _, _ => False
theorem ORep.mono {K : PySem.W.Frag} {B B' : Hp} (e : Ex B B') : ∀ {o : OO} {h : HO}, ORep K B o h → ORep K B' o h := fun {o h} r => by
  cases o <;> cases h <;> first | exact RepL.mono e r | exact RepK.mono e r | exact ⟨r.1, RepF.mono e r.2⟩ | exact r | exact r.elim
def OO.toD : OO → D
  | .l xs => .lst xs
  | .d kvs => .dic kvs
  | .i C fs => .obj C fs
  | .pl => .non
/-- what a name holds -/
inductive Sl where
  | un | fz (d : D) | ow (k : Nat)
/-- a value at hand: plain, or an owned object by its number -/
inductive W where
  | fz (d : D) | ow (k : Nat)
def W.sl : W → Sl
  | .fz d => .fz d
  | .ow k => .ow k
/-- what an expression gives: plain, new and not yet owned, an owned object -/
inductive OV where
  | fz (d : D) | fr (o : OO) | ow (k : Nat)
abbrev Er := Addr × List (Str × D)

structure X where
  K : PySem.W.Frag
  B0 : Hp
  E : XK
  er : Er → Prop

structure HR (x : X) (F : Hp) (m : List OO) (oa : List Addr) (B H : Hp) : Prop where
  bh : Ex B H
  fh : Ex F H
  bb : Ex x.B0 B
  nf : ∀ (b : Addr) (o : HO), B b = some o → x.B0 b = some o ∨ F b = none
  len : oa.length = m.length
  nd : oa.Nodup
  ow : ∀ (k : Nat) (o : OO), m[k]? = some o → ∃ a ho, oa[k]? = some a ∧ B a = none ∧ F a = none ∧ H a = some ho ∧ ORep x.K B o ho

def SlR (K : PySem.W.Frag) (oa : List Addr) (B : Hp) : Sl → Option V → Prop
  | .un, _ => True
  | .fz d, o => ∃ v, o = some v ∧ Rep K B d v
  | .ow k, o => ∃ a, oa[k]? = some a ∧ o = some (.ref a)
structure SR (K : PySem.W.Frag) (r : List Sl) (oa : List Addr) (σ : L2.St) (B : Hp) : Prop where
  len : r.length = σ.length
  sl : ∀ (i : Nat) (s : Sl), r[i]? = some s → ∃ o, σ[i]? = some o ∧ SlR K oa B s o

def WR (K : PySem.W.Frag) (oa : List Addr) (B : Hp) : W → V → Prop
  | .fz d, v => Rep K B d v
  | .ow k, v => ∃ a, oa[k]? = some a ∧ v = .ref a
def OutR (x : X) (F : Hp) (oa : List Addr) (B H : Hp) : OV → V → Prop
  | .fz d, v => Rep x.K B d v
  | .ow k, v => ∃ a, oa[k]? = some a ∧ v = .ref a
  | .fr o, v => ∃ a ho, v = .ref a ∧ B a = none ∧ F a = none ∧ a ∉ oa ∧ H a = some ho ∧ ORep x.K B o ho
/-- what a raise may leave -/
def ErOk (x : X) (F : Hp) : Prop := ∀ (C : Addr) (fs : List (Str × D)) (d : Addr) (gs : List (Str × V)) (B H : Hp), x.er (C, fs) → Ex x.B0 B → Ex B H → Ex F H →
  (∀ (b : Addr) (o : HO), B b = some o → x.B0 b = some o ∨ F b = none) → B d = none → F d = none → H d = some (.xd gs) → RepF x.K B fs gs → x.E (.ref C) (some d) H

section
variable {x : X} {F : Hp} {m m' : List OO} {oa : List Addr} {B B' H H' : Hp} {r : List Sl} {σ : L2.St} {K : PySem.W.Frag}
theorem SlR.mono (e : Ex B B') : ∀ {s : Sl} {o : Option V}, SlR K oa B s o → SlR K oa B' s o
  | .un, _, _ => trivial
  | .fz d, o, h => by obtain ⟨v, h1, h2⟩ := h; exact ⟨v, h1, h2.mono e⟩
  | .ow k, o, h => h
theorem SR.mono (e : Ex B B') (s : SR K r oa σ B) : SR K r oa σ B' := ⟨s.len, fun i q h => let ⟨o, h1, h2⟩ := s.sl i q h; ⟨o, h1, h2.mono e⟩⟩
theorem WR.mono (e : Ex B B') : ∀ {s : W} {v : V}, WR K oa B s v → WR K oa B' s v
  | .fz d, _, h => Rep.mono e h
  | .ow k, _, h => h
theorem SlR.more {more : List Addr} : ∀ {s : Sl} {o : Option V}, SlR K oa B s o → SlR K (oa ++ more) B s o
  | .un, _, _ => trivial
  | .fz d, o, h => h
  | .ow k, o, h => by
    obtain ⟨a, h1, h2⟩ := h
    exact ⟨a, by rw [List.getElem?_append_left (List.getElem?_eq_some_iff.mp h1).1]; exact h1, h2⟩
theorem SR.more {more : List Addr} (s : SR K r oa σ B) : SR K r (oa ++ more) σ B := ⟨s.len, fun i q h => let ⟨o, h1, h2⟩ := s.sl i q h; ⟨o, h1, h2.more⟩⟩
theorem SR.set {i : Nat} {s : Sl} {v : V} (q : SR K r oa σ B) (h : SlR K oa B s (some v)) : SR K (r.set i s) oa (σ.set i (some v)) B := by
  refine ⟨by rw [List.length_set, List.length_set]; exact q.len, fun j t e => ?_⟩
  by_cases hij : i = j
  · subst hij
    have hlt : i < r.length := by
      have := (List.getElem?_eq_some_iff.mp e).1
      rwa [List.length_set] at this
    rw [List.getElem?_set_self hlt] at e
    cases e
    exact ⟨some v, List.getElem?_set_self (by rw [← q.len]; exact hlt), h⟩
  · rw [List.getElem?_set_ne hij] at e ⊢
    exact q.sl j t e
theorem SR.forget {i : Nat} {o : Option V} (q : SR K r oa σ B) : SR K (r.set i .un) oa (σ.set i o) B := by
  refine ⟨by rw [List.length_set, List.length_set]; exact q.len, fun j t e => ?_⟩
  by_cases hij : i = j
  · subst hij
    have hlt : i < r.length := by
      have := (List.getElem?_eq_some_iff.mp e).1
      rwa [List.length_set] at this
    rw [List.getElem?_set_self hlt] at e
    cases e
    exact ⟨o, List.getElem?_set_self (by rw [← q.len]; exact hlt), trivial⟩
  · rw [List.getElem?_set_ne hij] at e ⊢
    exact q.sl j t e
/-- the slots of a comprehension's own names -/
def wipeS (r : List Sl) : List Nat → List Sl
  | [] => r
  | v :: vs => (wipeS r vs).set v .un
theorem SR.wipe (q : SR K r oa σ B) : ∀ vs : List Nat, SR K (wipeS r vs) oa (L2.wipe σ vs) B
  | [] => q
  | v :: vs => (SR.wipe q vs).forget

/-- new things are laid that nobody changes: the plain part may grow by a new object -/
theorem HR.lay {p : Addr} {o : HO} (h : HR x F m oa B H) (hp : H p = none) : HR x F m oa (upd B p o) (upd H p o) := by
  have hB : B p = none := Evl.fresh_back h.bh hp
  have hF : F p = none := Evl.fresh_back h.fh hp
  refine ⟨fun a u e => ?_, fun a u e => ?_, h.bb.trans (Ex.new hB), fun b u e => ?_, h.len, h.nd, fun k u e => ?_⟩
  · by_cases q : a = p
    · subst q; rw [upd_same] at e ⊢; exact e
    · rw [upd_ne q] at e ⊢; exact h.bh a u e
  · rw [upd_ne (ne_of_none e hF)]; exact h.fh a u e
  · by_cases q : b = p
    · subst q; exact .inr hF
    · rw [upd_ne q] at e; exact h.nf b u e
  · obtain ⟨a, ho, h1, h2, h3, h4, h5⟩ := h.ow k u e
    have ne : a ≠ p := ne_of_none h4 hp
    exact ⟨a, ho, h1, by rw [upd_ne ne]; exact h2, h3, by rw [upd_ne ne]; exact h4, h5.mono (Ex.new hB)⟩
/-- a new object is laid, not (yet) plain -/
theorem HR.drop {p : Addr} {o : HO} (h : HR x F m oa B H) (hp : H p = none) : HR x F m oa B (upd H p o) := by
  have hF : F p = none := Evl.fresh_back h.fh hp
  refine ⟨h.bh.mut (Evl.fresh_back h.bh hp), h.fh.mut hF, h.bb, h.nf, h.len, h.nd, fun k u e => ?_⟩
  obtain ⟨a, ho, h1, h2, h3, h4, h5⟩ := h.ow k u e
  exact ⟨a, ho, h1, h2, h3, by rw [upd_ne (ne_of_none h4 hp)]; exact h4, h5⟩
/-- a loose object (known to be new) changes -/
theorem HR.loose {p : Addr} {o : HO} (h : HR x F m oa B H) (hB : B p = none) (hF : F p = none) (ho : p ∉ oa) : HR x F m oa B (upd H p o) := by
  refine ⟨h.bh.mut hB, h.fh.mut hF, h.bb, h.nf, h.len, h.nd, fun k u e => ?_⟩
  obtain ⟨a, hh, h1, h2, h3, h4, h5⟩ := h.ow k u e
  have ne : a ≠ p := fun z => ho (z ▸ List.mem_of_getElem? h1)
  exact ⟨a, hh, h1, h2, h3, by rw [upd_ne ne]; exact h4, h5⟩
/-- a loose object becomes plain -/
theorem HR.freeze {p : Addr} {o : HO} (h : HR x F m oa B H) (hB : B p = none) (hF : F p = none) (ho : p ∉ oa) (hp : H p = some o) : HR x F m oa (upd B p o) H ∧ Ex B (upd B p o) := by
  refine ⟨⟨fun a u e => ?_, h.fh, h.bb.trans (Ex.new hB), fun b u e => ?_, h.len, h.nd, fun k u e => ?_⟩, Ex.new hB⟩
  · by_cases q : a = p
    · subst q; rw [upd_same] at e; rw [hp]; exact e
    · rw [upd_ne q] at e; exact h.bh a u e
  · by_cases q : b = p
    · subst q; exact .inr hF
    · rw [upd_ne q] at e; exact h.nf b u e
  · obtain ⟨a, hh, h1, h2, h3, h4, h5⟩ := h.ow k u e
    have ne : a ≠ p := fun z => ho (z ▸ List.mem_of_getElem? h1)
    exact ⟨a, hh, h1, by rw [upd_ne ne]; exact h2, h3, h4, h5.mono (Ex.new hB)⟩
/-- a loose object becomes owned -/
theorem HR.own {p : Addr} {o : OO} {ho : HO} (h : HR x F m oa B H) (hB : B p = none) (hF : F p = none) (hn : p ∉ oa) (hp : H p = some ho) (hr : ORep x.K B o ho) : HR x F (m ++ [o]) (oa ++ [p]) B H := by
  refine ⟨h.bh, h.fh, h.bb, h.nf, by rw [List.length_append, List.length_append, h.len] <;> rfl, ?_, fun k u e => ?_⟩
  · rw [List.nodup_append]
    refine ⟨h.nd, by simp, fun a ha b hb => ?_⟩
    rw [List.mem_singleton] at hb
    rintro rfl
    exact hn (hb ▸ ha)
  · by_cases hk : k < m.length
    · rw [List.getElem?_append_left hk] at e
      obtain ⟨a, hh, h1, h2⟩ := h.ow k u e
      exact ⟨a, hh, by rw [List.getElem?_append_left (by rw [h.len]; exact hk)]; exact h1, h2⟩
    · have hk' : k = m.length := by
        have := (List.getElem?_eq_some_iff.mp e).1
        rw [List.length_append, List.length_singleton] at this
        omega
      subst hk'
      rw [List.getElem?_concat_length] at e
      cases e
      exact ⟨p, ho, by rw [← h.len, List.getElem?_concat_length], hB, hF, hp, hr⟩
/-- an owned object changes -/
theorem HR.put {k : Nat} {a : Addr} {o : OO} {ho : HO} (h : HR x F m oa B H) (hk : oa[k]? = some a) (hr : ORep x.K B o ho) : HR x F (m.set k o) oa B (upd H a ho) := by
  have hlt : k < m.length := by rw [← h.len]; exact (List.getElem?_eq_some_iff.mp hk).1
  obtain ⟨a', h0, e1, e2, e3, e4, _⟩ := h.ow k _ (List.getElem?_eq_getElem hlt)
  rw [hk] at e1
  cases e1
  refine ⟨h.bh.mut e2, h.fh.mut e3, h.bb, h.nf, by rw [List.length_set]; exact h.len, h.nd, fun j u e => ?_⟩
  by_cases hkj : k = j
  · subst hkj
    rw [List.getElem?_set_self hlt] at e
    cases e
    exact ⟨a, ho, hk, e2, e3, upd_same, hr⟩
  · rw [List.getElem?_set_ne hkj] at e
    obtain ⟨b, hh, h1, h2, h3, h4, h5⟩ := h.ow j u e
    have ne : b ≠ a := fun z => by
      subst z
      have q1 := (List.getElem?_eq_some_iff.mp hk)
      have q2 := (List.getElem?_eq_some_iff.mp h1)
      exact hkj ((List.getElem_inj h.nd).mp (q1.2.trans q2.2.symm))
    exact ⟨b, hh, h1, h2, h3, by rw [upd_ne ne]; exact h4, h5⟩
end

/-- an expression, its outcome as it comes -/
def WE (x : X) (te : TE) (r : List Sl) (m : List OO) (Φ : OV → List OO → Prop) : Prop :=
  ∀ F : Hp, ErOk x F → ∀ (oa : List Addr) (σ : L2.St) (B H : Hp) (Q : VK), SR x.K r oa σ B → HR x F m oa B H →
    (∀ o m' v B' H', Φ o m' → HR x F m' oa B' H' → Ex B B' → OutR x F oa B' H' o v → Q v H') → te σ H Q
/-- .. nothing loose -/
def WV (x : X) (te : TE) (r : List Sl) (m : List OO) (Φ : W → List OO → Prop) : Prop :=
  ∀ F : Hp, ErOk x F → ∀ (oa : List Addr) (σ : L2.St) (B H : Hp) (Q : VK), SR x.K r oa σ B → HR x F m oa B H →
    (∀ o m' v B' H', Φ o m' → HR x F m' oa B' H' → Ex B B' → WR x.K oa B' o v → Q v H') → te σ H Q
/-- arguments -/
def WA (x : X) (ta : TA) (r : List Sl) (m : List OO) (Φ : List W → List OO → Prop) : Prop :=
  ∀ F : Hp, ErOk x F → ∀ (oa : List Addr) (σ : L2.St) (B H : Hp) (Q : List V → Hp → Prop), SR x.K r oa σ B → HR x F m oa B H →
    (∀ os m' vs B' H', Φ os m' → HR x F m' oa B' H' → Ex B B' → Paired (WR x.K oa B') os vs → Q vs H') → ta σ H Q
/-- a test -/
def WT (x : X) (tt : TT) (r : List Sl) (m : List OO) (Φ : Bool → List OO → Prop) : Prop :=
  ∀ F : Hp, ErOk x F → ∀ (oa : List Addr) (σ : L2.St) (B H : Hp) (Q : Bool → Hp → Prop), SR x.K r oa σ B → HR x F m oa B H →
    (∀ b m' B' H', Φ b m' → HR x F m' oa B' H' → Ex B B' → Q b H') → tt σ H Q
/-- what is wanted behind a statement -/
structure DE where
  nx : List Sl → List OO → Prop
  rt : OV → List OO → Prop
  bk : List Sl → List OO → Prop := fun _ _ => False
  ct : List Sl → List OO → Prop := fun _ _ => False
structure EndsOk (x : X) (F : Hp) (oa0 : List Addr) (Bs : Hp) (d : DE) (D : Ends) : Prop where
  nx : ∀ r m more σ B H, d.nx r m → SR x.K r (oa0 ++ more) σ B → HR x F m (oa0 ++ more) B H → Ex Bs B → D.nx σ H
  rt : ∀ o m more v B H, d.rt o m → HR x F m (oa0 ++ more) B H → OutR x F (oa0 ++ more) B H o v → Ex Bs B → D.rt v H
  bk : ∀ r m more σ B H, d.bk r m → SR x.K r (oa0 ++ more) σ B → HR x F m (oa0 ++ more) B H → Ex Bs B → D.bk σ H
  ct : ∀ r m more σ B H, d.ct r m → SR x.K r (oa0 ++ more) σ B → HR x F m (oa0 ++ more) B H → Ex Bs B → D.ct σ H
def WS (x : X) (ts : TS) (r : List Sl) (m : List OO) (d : DE) : Prop :=
  ∀ F : Hp, ErOk x F → ∀ (oa0 more : List Addr) (σ : L2.St) (Bs B H : Hp) (D : Ends), SR x.K r (oa0 ++ more) σ B → HR x F m (oa0 ++ more) B H → Ex Bs B → EndsOk x F oa0 Bs d D → ts D σ H
end DL

set_option maxRecDepth 100000
set_option maxHeartbeats 4000000
namespace DL
open PySem L2
open Evl (Ex)
variable {x : X} {r : List Sl} {m : List OO} {te ta tb tc : TE} {tt tu tv : TT} {tA : TA} {ts tz ty tw : TS} {d : DE} {i j k : Nat}

theorem freezeR {K : PySem.W.Frag} {B : Hp} {p : Addr} {o : OO} {ho : HO} (hp : B p = some ho) (hr : ORep K B o ho) (hn : o ≠ .pl) : Rep K B o.toD (.ref p) := by
  cases o with
  | l xs => cases ho <;> first | exact .lst hp hr | exact hr.elim
  | d xs => cases ho <;> first | exact .dic hp hr | exact hr.elim
  | i C fs =>
    cases ho <;> first | exact hr.elim | skip
    obtain ⟨e, hr⟩ := hr
    subst e
    exact .obj hp hr
  | pl => exact absurd rfl hn
/-- what follows a value that is frozen where it is new -/
def FZ (Φ : W → List OO → Prop) : OV → List OO → Prop
  | .fz d, m => Φ (.fz d) m
  | .ow k, m => Φ (.ow k) m
  | .fr o, m => o ≠ .pl ∧ Φ (.fz o.toD) m
def UF (Φ : OV → List OO → Prop) : W → List OO → Prop
  | .fz d, m => Φ (.fz d) m
  | .ow k, m => Φ (.ow k) m
theorem wv_of {Φ : W → List OO → Prop} (h : WE x te r m (FZ Φ)) : WV x te r m Φ := fun F eo oa σ B H Q s hr q => h F eo oa σ B H Q s hr fun o m' v B' H' f hr' e ov => by
  cases o with
  | fz d => exact q _ _ _ _ _ f hr' e ov
  | ow k => exact q _ _ _ _ _ f hr' e ov
  | fr oo =>
    obtain ⟨a, ho, rfl, b1, b2, b3, b4, b5⟩ := ov
    obtain ⟨z, ex⟩ := hr'.freeze b1 b2 b3 b4
    exact q (.fz oo.toD) _ _ _ _ f.2 z (e.trans ex) (freezeR upd_same (b5.mono ex) f.1)
theorem we_of {Φ : OV → List OO → Prop} (h : WV x te r m (UF Φ)) : WE x te r m Φ := fun F eo oa σ B H Q s hr q => h F eo oa σ B H Q s hr fun w m' v B' H' f hr' e wv => by
  cases w with
  | fz d => exact q (.fz d) _ _ _ _ f hr' e wv
  | ow k => exact q (.ow k) _ _ _ _ f hr' e wv
theorem WV.imp {Φ Ψ : W → List OO → Prop} (h : WV x te r m Φ) (f : ∀ w m', Φ w m' → Ψ w m') : WV x te r m Ψ := fun F eo oa σ B H Q s hr q => h F eo oa σ B H Q s hr fun w m' v B' H' g => q w m' v B' H' (f _ _ g)
theorem WE.imp {Φ Ψ : OV → List OO → Prop} (h : WE x te r m Φ) (f : ∀ w m', Φ w m' → Ψ w m') : WE x te r m Ψ := fun F eo oa σ B H Q s hr q => h F eo oa σ B H Q s hr fun w m' v B' H' g => q w m' v B' H' (f _ _ g)
theorem WT.imp {Φ Ψ : Bool → List OO → Prop} (h : WT x tt r m Φ) (f : ∀ w m', Φ w m' → Ψ w m') : WT x tt r m Ψ := fun F eo oa σ B H Q s hr q => h F eo oa σ B H Q s hr fun w m' B' H' g => q w m' B' H' (f _ _ g)

variable {Φ : W → List OO → Prop} {Ω : OV → List OO → Prop} {Θ : Bool → List OO → Prop} {Γ : List W → List OO → Prop}
theorem wv_var {v : D} (h : r[i]? = some (.fz v)) (q : Φ (.fz v) m) : WV x (tVar i) r m Φ := fun F eo oa σ B H Q s hr k => by
  obtain ⟨o, e1, v', rfl, rv⟩ := s.sl i _ h
  exact ⟨v', e1, k _ _ _ _ _ q hr (Ex.refl B) rv⟩
theorem wv_varO (h : r[i]? = some (.ow k)) (q : Φ (.ow k) m) : WV x (tVar i) r m Φ := fun F eo oa σ B H Q s hr z => by
  obtain ⟨o, e1, a, e2, rfl⟩ := s.sl i _ h
  exact ⟨_, e1, z _ _ _ _ _ q hr (Ex.refl B) ⟨a, e2, rfl⟩⟩
theorem wv_k {v : V} {v' : D} (h : ∀ B, Rep x.K B v' v) (q : Φ (.fz v') m) : WV x (tC v) r m Φ := fun F eo oa σ B H Q s hr z => z _ _ _ _ _ q hr (Ex.refl B) (h B)
theorem wv_int {n : Int} (q : Φ (.fz (.int n)) m) : WV x (tC (.int n)) r m Φ := wv_k (fun _ => .int) q
theorem wv_str {n : Str} (q : Φ (.fz (.str n)) m) : WV x (tC (.str n)) r m Φ := wv_k (fun _ => .str) q
theorem wv_bl {n : Bool} (q : Φ (.fz (.bl n)) m) : WV x (tC (.bl n)) r m Φ := wv_k (fun _ => .bl) q
theorem wv_non (q : Φ (.fz .non) m) : WV x (tC .non) r m Φ := wv_k (fun _ => .non) q
theorem wv_ty {n : String} (q : Φ (.fz (.ty n)) m) : WV x (tC (.ty n)) r m Φ := wv_k (fun _ => .ty) q
theorem wv_fn {n : Addr} (q : Φ (.fz (.fn n)) m) : WV x (tC (.ref n)) r m Φ := wv_k (fun _ => .fn) q

/-- what is asked of an operation on two values -/
def OpE (x : X) (r2 : R2) (w1 w2 : W) (m : List OO) (Ω : OV → List OO → Prop) : Prop := ∀ (F : Hp) (oa : List Addr) (v1 v2 : V) (B H : Hp) (Q : VK), HR x F m oa B H → WR x.K oa B w1 v1 → WR x.K oa B w2 v2 →
  (∀ o m' v B' H', Ω o m' → HR x F m' oa B' H' → Ex B B' → OutR x F oa B' H' o v → Q v H') → r2 v1 v2 H Q
theorem we_op {r2 : R2} (h : WV x ta r m fun w1 m1 => WV x tb r m1 fun w2 m2 => OpE x r2 w1 w2 m2 Ω) : WE x (tOp r2 ta tb) r m Ω := fun F eo oa σ B H Q s hr q =>
  h F eo oa σ B H _ s hr fun w1 m1 v1 B1 H1 h1 hr1 e1 r1 => h1 F eo oa σ B1 H1 _ (s.mono e1) hr1 fun w2 m2 v2 B2 H2 h2 hr2 e2 r2' =>
    h2 F oa v1 v2 B2 H2 Q hr2 (r1.mono e2) r2' fun o m' v B' H' f hr' e ov => q o m' v B' H' f hr' ((e1.trans e2).trans e) ov
theorem we_un {ru : V → Hp → VK → Prop} (h : WV x ta r m fun w1 m1 => ∀ (F : Hp) (oa : List Addr) (v1 : V) (B H : Hp) (Q : VK), HR x F m1 oa B H → WR x.K oa B w1 v1 →
  (∀ o m' v B' H', Ω o m' → HR x F m' oa B' H' → Ex B B' → OutR x F oa B' H' o v → Q v H') → ru v1 H Q) : WE x (tUn ru ta) r m Ω := fun F eo oa σ B H Q s hr q =>
  h F eo oa σ B H _ s hr fun w1 m1 v1 B1 H1 h1 hr1 e1 r1 => h1 F oa v1 B1 H1 Q hr1 r1 fun o m' v B' H' f hr' e ov => q o m' v B' H' f hr' (e1.trans e) ov
theorem op_i0 {g : Int → Int → Int} {a b : Int} (q : Ω (.fz (.int (g a b))) m) : OpE x (rI0 fun i j => .int (g i j)) (.fz (.int a)) (.fz (.int b)) m Ω := fun F oa v1 v2 B H Q hr r1 r2 z => by
  cases r1; cases r2
  exact ⟨a, b, rfl, rfl, z _ _ _ _ _ q hr (Ex.refl B) .int⟩
theorem op_b0 {g : Int → Int → Bool} {a b : Int} (q : Ω (.fz (.bl (g a b))) m) : OpE x (rI0 fun i j => .bl (g i j)) (.fz (.int a)) (.fz (.int b)) m Ω := fun F oa v1 v2 B H Q hr r1 r2 z => by
  cases r1; cases r2
  exact ⟨a, b, rfl, rfl, z _ _ _ _ _ q hr (Ex.refl B) .bl⟩
theorem op_i {C : Int → Int → Prop} {g : Int → Int → Int} {a b : Int} (c : C a b) (q : Ω (.fz (.int (g a b))) m) : OpE x (rI C fun i j => .int (g i j)) (.fz (.int a)) (.fz (.int b)) m Ω := fun F oa v1 v2 B H Q hr r1 r2 z => by
  cases r1; cases r2
  exact ⟨a, b, rfl, rfl, c, z _ _ _ _ _ q hr (Ex.refl B) .int⟩
/-- scalars that == tells apart -/
def scV : D → Option V
  | .non => some .non | .bl b => some (.bl b) | .int i => some (.int i) | .str s => some (.str s) | _ => none
def scalD (a b : D) : Option Bool := match scV a, scV b with
  | some v, some w => if scal v w then some (decide (v = w)) else none
  | _, _ => none
theorem scV_rep {K : PySem.W.Frag} {B : Hp} {a : D} {v w : V} (h : scV a = some v) (rr : Rep K B a w) : w = v := by
  cases rr <;> first | (cases h; rfl) | cases h
theorem op_sc {a b : D} {c : Bool} (h : scalD a b = some c) (q : Ω (.fz (.bl c)) m) : OpE x rEq (.fz a) (.fz b) m Ω := fun F oa v1 v2 B H Q hr r1 r2 z => by
  unfold scalD at h
  cases ha : scV a with
  | none => rw [ha] at h; cases h
  | some va =>
    cases hb : scV b with
    | none => rw [ha, hb] at h; cases h
    | some vb =>
      rw [ha, hb] at h
      dsimp only at h
      cases hs : scal va vb with
      | false => rw [hs, if_neg (by decide)] at h; cases h
      | true =>
        rw [hs, if_pos rfl] at h
        cases h
        rw [scV_rep ha r1, scV_rep hb r2]
        exact ⟨hs, z _ _ _ _ _ q hr (Ex.refl B) .bl⟩
theorem op_scN {a b : D} {c : Bool} (h : scalD a b = some c) (q : Ω (.fz (.bl (!c))) m) : OpE x rNe (.fz a) (.fz b) m Ω := fun F oa v1 v2 B H Q hr r1 r2 z => by
  unfold scalD at h
  cases ha : scV a with
  | none => rw [ha] at h; cases h
  | some va =>
    cases hb : scV b with
    | none => rw [ha, hb] at h; cases h
    | some vb =>
      rw [ha, hb] at h
      dsimp only at h
      cases hs : scal va vb with
      | false => rw [hs, if_neg (by decide)] at h; cases h
      | true =>
        rw [hs, if_pos rfl] at h
        cases h
        rw [scV_rep ha r1, scV_rep hb r2]
        exact ⟨hs, z _ _ _ _ _ q hr (Ex.refl B) .bl⟩
theorem op_eqI {a b : Int} (q : Ω (.fz (.bl (decide (a = b)))) m) : OpE x rEq (.fz (.int a)) (.fz (.int b)) m Ω := fun F oa v1 v2 B H Q hr r1 r2 z => by
  cases r1; cases r2
  refine ⟨rfl, z _ _ _ _ _ q hr (Ex.refl B) ?_⟩
  have e : decide (V.int a = V.int b) = decide (a = b) := by by_cases h : a = b <;> simp [h]
  rw [e]; exact .bl
theorem op_neI {a b : Int} (q : Ω (.fz (.bl (!decide (a = b)))) m) : OpE x rNe (.fz (.int a)) (.fz (.int b)) m Ω := fun F oa v1 v2 B H Q hr r1 r2 z => by
  cases r1; cases r2
  refine ⟨rfl, z _ _ _ _ _ q hr (Ex.refl B) ?_⟩
  have e : decide (V.int a = V.int b) = decide (a = b) := by by_cases h : a = b <;> simp [h]
  rw [e]; exact .bl
theorem op_eqS {a b : Str} (q : Ω (.fz (.bl (decide (a = b)))) m) : OpE x rEq (.fz (.str a)) (.fz (.str b)) m Ω := fun F oa v1 v2 B H Q hr r1 r2 z => by
  cases r1; cases r2
  refine ⟨rfl, z _ _ _ _ _ q hr (Ex.refl B) ?_⟩
  have e : decide (V.str a = V.str b) = decide (a = b) := by by_cases h : a = b <;> simp [h]
  rw [e]; exact .bl
theorem op_neS {a b : Str} (q : Ω (.fz (.bl (!decide (a = b)))) m) : OpE x rNe (.fz (.str a)) (.fz (.str b)) m Ω := fun F oa v1 v2 B H Q hr r1 r2 z => by
  cases r1; cases r2
  refine ⟨rfl, z _ _ _ _ _ q hr (Ex.refl B) ?_⟩
  have e : decide (V.str a = V.str b) = decide (a = b) := by by_cases h : a = b <;> simp [h]
  rw [e]; exact .bl
theorem op_addS {a b : Str} (hl : a.length + b.length ≤ sizeLine) (q : Ω (.fz (.str (a ++ b))) m) : OpE x (fun x y H Q => ∃ i j, x = .str i ∧ y = .str j ∧ i.length + j.length ≤ sizeLine ∧ Q (.str (i ++ j)) H) (.fz (.str a)) (.fz (.str b)) m Ω := fun F oa v1 v2 B H Q hr r1 r2 z => by
  cases r1; cases r2
  exact ⟨a, b, rfl, rfl, hl, z _ _ _ _ _ q hr (Ex.refl B) .str⟩
theorem op_isNt {a : D} {c : Bool} (h : ∀ B v, Rep x.K B a v → decide (v = .non) = c) (q : Ω (.fz (.bl c)) m) : OpE x (fun x y H Q => y = .non ∧ Q (.bl (decide (x = .non))) H) (.fz a) (.fz .non) m Ω := fun F oa v1 v2 B H Q hr r1 r2 z => by
  cases r2
  exact ⟨rfl, z _ _ _ _ _ q hr (Ex.refl B) (by rw [h _ _ r1]; exact .bl)⟩
theorem op_notNt {a : D} {c : Bool} (h : ∀ B v, Rep x.K B a v → decide (v = .non) = c) (q : Ω (.fz (.bl (!c))) m) : OpE x (fun x y H Q => y = .non ∧ Q (.bl (!decide (x = .non))) H) (.fz a) (.fz .non) m Ω := fun F oa v1 v2 B H Q hr r1 r2 z => by
  cases r2
  exact ⟨rfl, z _ _ _ _ _ q hr (Ex.refl B) (by rw [h _ _ r1]; exact .bl)⟩
/-- an owned thing may be looked at as it stands -/
theorem wr_now {F : Hp} {oa : List Addr} {B H : Hp} {o : OO} {v : V} (hr : HR x F m oa B H) (hk : m[k]? = some o) (hn : o ≠ .pl) (h : WR x.K oa B (.ow k) v) : Rep x.K H o.toD v := by
  obtain ⟨a, e1, rfl⟩ := h
  obtain ⟨a', ho, e2, _, _, e5, e6⟩ := hr.ow k o hk
  rw [e1] at e2; cases e2
  exact freezeR e5 (e6.mono hr.bh) hn
/-- the plain data that a value stands for now -/
def now (m : List OO) : W → Option D
  | .fz d => some d
  | .ow k => match m[k]? with
    | some (.l xs) => some (.lst xs)
    | some (.d kvs) => some (.dic kvs)
    | some (.i C fs) => some (.obj C fs)
    | _ => none
theorem rep_now {F : Hp} {oa : List Addr} {B H : Hp} {w : W} {v : V} {d' : D} (hr : HR x F m oa B H) (h : now m w = some d') (rr : WR x.K oa B w v) : Rep x.K H d' v := by
  cases w with
  | fz d => cases h; exact Rep.mono hr.bh rr
  | ow k =>
    cases e : m[k]? with
    | none => simp only [now, e] at h; cases h
    | some o =>
      simp only [now, e] at h
      cases o with
      | l xs => cases h; exact wr_now hr e (by intro z; cases z) rr
      | d xs => cases h; exact wr_now hr e (by intro z; cases z) rr
      | i C xs => cases h; exact wr_now hr e (by intro z; cases z) rr
      | pl => cases h
theorem op_ixS {z : Str} {n : Int} {w1 w2 : W} {c : Nat} (h1 : now m w1 = some (.str z)) (h2 : now m w2 = some (.int n)) (hl : z.length ≤ sizeLine) (ha : atI z.cps.toList n = some c) (q : Ω (.fz (.str ⟨#[c]⟩)) m) : OpE x rIxS w1 w2 m Ω := fun F oa v1 v2 B H Q hr r1 r2 k => by
  cases rep_now hr h1 r1
  cases rep_now hr h2 r2
  exact ⟨z, n, c, rfl, rfl, hl, ha, k _ _ _ _ _ q hr (Ex.refl B) .str⟩
theorem op_ixL {xs : List D} {a : D} {n : Int} (ha : atI xs n = some a) (q : Ω (.fz a) m) : OpE x (rIxL x.K) (.fz (.lst xs)) (.fz (.int n)) m Ω := fun F oa v1 v2 B H Q hr r1 r2 k => by
  cases r1 with
  | lst hB rl =>
    cases r2
    unfold atI ixN at ha
    rw [rl.length] at ha
    obtain ⟨j, e1, e2⟩ := Option.bind_eq_some_iff.mp ha
    obtain ⟨v, e3, rv⟩ := rl.get' e2
    refine ⟨_, _, n, v, rfl, rfl, Evl.sq_of (hr.bh _ _ hB), ?_, k _ _ _ _ _ q hr (Ex.refl B) rv⟩
    unfold atI ixN
    rw [e1]; exact e3
theorem op_ixLO {xs : List D} {a : D} {n : Int} (hk : m[k]? = some (.l xs)) (ha : atI xs n = some a) (q : Ω (.fz a) m) : OpE x (rIxL x.K) (.ow k) (.fz (.int n)) m Ω := fun F oa v1 v2 B H Q hr r1 r2 z => by
  obtain ⟨b, e1, rfl⟩ := r1
  obtain ⟨a', ho, e2, _, _, e5, e6⟩ := hr.ow k _ hk
  rw [e1] at e2; cases e2
  cases r2
  cases ho <;> first | exact e6.elim | skip
  rename_i vs
  have rl : RepL x.K B xs vs := e6
  unfold atI ixN at ha
  rw [rl.length] at ha
  obtain ⟨j, q1, q2⟩ := Option.bind_eq_some_iff.mp ha
  obtain ⟨v, q3, rv⟩ := rl.get' q2
  refine ⟨_, _, n, v, rfl, rfl, Evl.sq_of e5, ?_, z _ _ _ _ _ q hr (Ex.refl B) rv⟩
  unfold atI ixN
  rw [q1]; exact q3
theorem op_ixT {xs : List D} {a : D} {n : Int} (ha : atI xs n = some a) (q : Ω (.fz a) m) : OpE x (rIxT x.K) (.fz (.tup xs)) (.fz (.int n)) m Ω := fun F oa v1 v2 B H Q hr r1 r2 k => by
  cases r1 with
  | tup hB rl =>
    cases r2
    unfold atI ixN at ha
    rw [rl.length] at ha
    obtain ⟨j, e1, e2⟩ := Option.bind_eq_some_iff.mp ha
    obtain ⟨v, e3, rv⟩ := rl.get' e2
    refine ⟨_, _, n, v, rfl, rfl, Evl.ex_t hr.bh hB, ?_, k _ _ _ _ _ q hr (Ex.refl B) rv⟩
    unfold atI ixN
    rw [e1]; exact e3

theorem wa_nil (q : Γ [] m) : WA x tNil r m Γ := fun F eo oa σ B H Q s hr z => z _ _ _ _ _ q hr (Ex.refl B) .nil
theorem wa_cons (h : WV x ta r m fun w m1 => WA x tA r m1 fun ws m2 => Γ (w :: ws) m2) : WA x (tCons ta tA) r m Γ := fun F eo oa σ B H Q s hr z =>
  h F eo oa σ B H _ s hr fun w m1 v B1 H1 h1 hr1 e1 r1 => h1 F eo oa σ B1 H1 _ (s.mono e1) hr1 fun ws m2 vs B2 H2 h2 hr2 e2 r2 => z _ _ _ _ _ h2 hr2 (e1.trans e2) (.cons (r1.mono e2) r2)
def plainW : List W → Option (List D)
  | [] => some []
  | .fz d :: ws => (plainW ws).map (d :: ·)
  | .ow _ :: _ => none
theorem plain_rep {K : PySem.W.Frag} {oa : List Addr} {B : Hp} : ∀ {ws : List W} {vs : List V} {ds : List D}, Paired (WR K oa B) ws vs → plainW ws = some ds → RepL K B ds vs
  | [], _, ds, .nil, h => by cases h; exact .nil
  | .fz d :: ws, _, ds, .cons r t, h => by
    unfold plainW at h
    obtain ⟨es, e1, e2⟩ := Option.map_eq_some_iff.mp h
    subst e2
    exact .cons r (plain_rep t e1)
theorem we_lst (h : WA x tA r m fun ws m1 => ∃ ds, plainW ws = some ds ∧ ds.length ≤ sizeLine ∧ Ω (.fr (.l ds)) m1) : WE x (tLst tA) r m Ω := fun F eo oa σ B H Q s hr z =>
  h F eo oa σ B H _ s hr fun ws m1 vs B1 H1 ⟨ds, e1, hl, q⟩ hr1 ex1 rp => by
    have rl := plain_rep rp e1
    refine ⟨by rw [← rl.length]; exact hl, fun p hp => z _ _ _ _ _ q (hr1.drop hp) ex1 ?_⟩
    refine ⟨p, _, rfl, Evl.fresh_back hr1.bh hp, Evl.fresh_back hr1.fh hp, fun hm => ?_, upd_same, rl⟩
    obtain ⟨kk, hk, he⟩ := List.mem_iff_getElem.mp hm
    have hk2 : kk < m1.length := by rw [← hr1.len]; exact hk
    obtain ⟨a, ho, e2, _, _, e5, _⟩ := hr1.ow kk _ (List.getElem?_eq_getElem hk2)
    rw [List.getElem?_eq_getElem hk, he] at e2
    cases e2
    rw [hp] at e5; cases e5
theorem we_tup (h : WA x tA r m fun ws m1 => ∃ ds, plainW ws = some ds ∧ ds.length ≤ sizeLine ∧ Ω (.fz (.tup ds)) m1) : WE x (tTup tA) r m Ω := fun F eo oa σ B H Q s hr z =>
  h F eo oa σ B H _ s hr fun ws m1 vs B1 H1 ⟨ds, e1, hl, q⟩ hr1 ex1 rp => by
    have rl := plain_rep rp e1
    refine ⟨by rw [← rl.length]; exact hl, fun p hp => ?_⟩
    have hn := Evl.fresh_back hr1.bh hp
    exact z _ _ _ _ _ q (hr1.lay hp) (ex1.trans (Ex.new hn)) (.tup (Evl.st_of upd_same) (rl.mono (Ex.new hn)))
theorem we_if (h : WT x tt r m fun b m1 => (b = true → WE x ta r m1 Ω) ∧ (b = false → WE x tb r m1 Ω)) : WE x (tIf tt ta tb) r m Ω := fun F eo oa σ B H Q s hr z =>
  h F eo oa σ B H _ s hr fun b m1 B1 H1 ⟨h1, h2⟩ hr1 e1 => by
    cases b with
    | true => exact h1 rfl F eo oa σ B1 H1 Q (s.mono e1) hr1 fun o m' v B' H' f hr' e ov => z o m' v B' H' f hr' (e1.trans e) ov
    | false => exact h2 rfl F eo oa σ B1 H1 Q (s.mono e1) hr1 fun o m' v B' H' f hr' e ov => z o m' v B' H' f hr' (e1.trans e) ov
/-- a builtin by values -/
theorem we_cb {rc : List V → Hp → VK → Prop} (h : WA x tA r m fun ws m1 => ∀ (F : Hp) (oa : List Addr) (vs : List V) (B H : Hp) (Q : VK), HR x F m1 oa B H → Paired (WR x.K oa B) ws vs →
  (∀ o m' v B' H', Ω o m' → HR x F m' oa B' H' → Ex B B' → OutR x F oa B' H' o v → Q v H') → rc vs H Q) : WE x (tCB rc tA) r m Ω := fun F eo oa σ B H Q s hr q =>
  h F eo oa σ B H _ s hr fun w1 m1 v1 B1 H1 h1 hr1 e1 r1 => h1 F oa v1 B1 H1 Q hr1 r1 fun o m' v B' H' f hr' e ov => q o m' v B' H' f hr' (e1.trans e) ov

theorem wt_test (h : WV x ta r m fun w m1 => ∃ b, w = .fz (.bl b) ∧ Θ b m1) : WT x (tTest ta) r m Θ := fun F eo oa σ B H Q s hr z =>
  h F eo oa σ B H _ s hr fun w m1 v B1 H1 ⟨b, e, q⟩ hr1 e1 r1 => by
    subst e
    cases r1
    exact ⟨b, rfl, z _ _ _ _ q hr1 e1⟩
theorem wt_B (h : WV x ta r m fun w m1 => ∃ b, w = .fz (.bl b) ∧ Θ b m1) : WT x (tB ta) r m Θ := wt_test h
theorem wt_and (h : WT x tt r m fun b m1 => (b = true → WT x tu r m1 Θ) ∧ (b = false → Θ false m1)) : WT x (tAnd tt tu) r m Θ := fun F eo oa σ B H Q s hr z =>
  h F eo oa σ B H _ s hr fun b m1 B1 H1 ⟨h1, h2⟩ hr1 e1 => by
    cases b with
    | true =>
      show tu σ H1 Q
      exact h1 rfl F eo oa σ B1 H1 Q (s.mono e1) hr1 fun o m' B' H' f hr' e => z o m' B' H' f hr' (e1.trans e)
    | false =>
      show Q false H1
      exact z _ _ _ _ (h2 rfl) hr1 e1
theorem wt_or (h : WT x tt r m fun b m1 => (b = true → Θ true m1) ∧ (b = false → WT x tu r m1 Θ)) : WT x (tOr tt tu) r m Θ := fun F eo oa σ B H Q s hr z =>
  h F eo oa σ B H _ s hr fun b m1 B1 H1 ⟨h1, h2⟩ hr1 e1 => by
    cases b with
    | true =>
      show Q true H1
      exact z _ _ _ _ (h1 rfl) hr1 e1
    | false =>
      show tu σ H1 Q
      exact h2 rfl F eo oa σ B1 H1 Q (s.mono e1) hr1 fun o m' B' H' f hr' e => z o m' B' H' f hr' (e1.trans e)
theorem wt_not (h : WT x tt r m fun b m1 => Θ (!b) m1) : WT x (tNot tt) r m Θ := fun F eo oa σ B H Q s hr z => h F eo oa σ B H _ s hr fun b m1 B1 H1 q hr1 e1 => z _ _ _ _ q hr1 e1
theorem wt_yes (h : Θ true m) : WT x tYes r m Θ := fun F eo oa σ B H Q s hr z => z _ _ _ _ h hr (Ex.refl B)
theorem we_andV (h : WV x ta r m fun w m1 => ∃ b, w = .fz (.bl b) ∧ (b = true → WE x tb r m1 Ω) ∧ (b = false → Ω (.fz (.bl false)) m1)) : WE x (tAndV ta tb) r m Ω := fun F eo oa σ B H Q s hr z =>
  h F eo oa σ B H _ s hr fun w m1 v B1 H1 ⟨b, e, h1, h2⟩ hr1 e1 r1 => by
    subst e
    cases r1
    refine ⟨b, rfl, ?_⟩
    cases b with
    | true =>
      show tb σ H1 Q
      exact h1 rfl F eo oa σ B1 H1 Q (s.mono e1) hr1 fun o m' v B' H' f hr' e ov => z o m' v B' H' f hr' (e1.trans e) ov
    | false =>
      show Q (.bl false) H1
      exact z _ _ _ _ _ (h2 rfl) hr1 e1 .bl
theorem we_orV (h : WV x ta r m fun w m1 => ∃ b, w = .fz (.bl b) ∧ (b = true → Ω (.fz (.bl true)) m1) ∧ (b = false → WE x tb r m1 Ω)) : WE x (tOrV ta tb) r m Ω := fun F eo oa σ B H Q s hr z =>
  h F eo oa σ B H _ s hr fun w m1 v B1 H1 ⟨b, e, h1, h2⟩ hr1 e1 r1 => by
    subst e
    cases r1
    refine ⟨b, rfl, ?_⟩
    cases b with
    | true =>
      show Q (.bl true) H1
      exact z _ _ _ _ _ (h1 rfl) hr1 e1 .bl
    | false =>
      show tb σ H1 Q
      exact h2 rfl F eo oa σ B1 H1 Q (s.mono e1) hr1 fun o m' v B' H' f hr' e ov => z o m' v B' H' f hr' (e1.trans e) ov
theorem we_notV (h : WV x ta r m fun w m1 => ∃ b, w = .fz (.bl b) ∧ Ω (.fz (.bl (!b))) m1) : WE x (tNotV ta) r m Ω := fun F eo oa σ B H Q s hr z =>
  h F eo oa σ B H _ s hr fun w m1 v B1 H1 ⟨b, e, q⟩ hr1 e1 r1 => by
    subst e
    cases r1
    exact ⟨b, rfl, z _ _ _ _ _ q hr1 e1 .bl⟩
/-- a < b < c -/
theorem we_chain {r1 r2 : R2} (h : WV x ta r m fun w1 m1 => WV x tb r m1 fun w2 m2 => OpE x r1 w1 w2 m2 fun o m3 => ∃ b, o = .fz (.bl b) ∧ (b = true → WV x tc r m3 fun w3 m4 => OpE x r2 w2 w3 m4 Ω) ∧ (b = false → Ω (.fz (.bl false)) m3)) :
    WE x (tChain r1 r2 ta tb tc) r m Ω := fun F eo oa σ B H Q s hr q =>
  h F eo oa σ B H _ s hr fun w1 m1 v1 B1 H1 h1 hr1 e1 q1 => h1 F eo oa σ B1 H1 _ (s.mono e1) hr1 fun w2 m2 v2 B2 H2 h2 hr2 e2 q2 =>
    h2 F oa v1 v2 B2 H2 _ hr2 (q1.mono e2) q2 fun o m3 v B3 H3 ⟨b, eb, f1, f2⟩ hr3 e3 ov => by
      subst eb
      cases ov
      refine ⟨b, rfl, ?_⟩
      have e123 := (e1.trans e2).trans e3
      cases b with
      | true =>
        refine (show (tc σ H3 fun w' H4 => r2 v2 w' H4 Q) from ?_)
        exact f1 rfl F eo oa σ B3 H3 _ (s.mono e123) hr3 fun w3 m4 v3 B4 H4 h4 hr4 e4 q4 => h4 F oa v2 v3 B4 H4 Q hr4 ((q2.mono e3).mono e4) q4 fun o m' v B' H' f hr' e ov => q o m' v B' H' f hr' ((e123.trans e4).trans e) ov
      | false =>
        show Q (.bl false) H3
        exact q _ _ _ _ _ (f2 rfl) hr3 e123 .bl

theorem ws_seq (h : WS x ts r m { d with nx := fun r' m' => WS x tz r' m' d }) : WS x (tSeq ts tz) r m d := fun F eo oa0 more σ Bs B H D s hr hb ok =>
  h F eo oa0 more σ Bs B H { D with nx := tz D } s hr hb ⟨fun r' m' mo σ' B' H' q s' hr' hb' => q F eo oa0 mo σ' Bs B' H' D s' hr' hb' ok, ok.rt, ok.bk, ok.ct⟩
theorem ws_next (h : d.nx r m) : WS x tNext r m d := fun F eo oa0 more σ Bs B H D s hr hb ok => ok.nx _ _ _ _ _ _ h s hr hb
theorem ws_brk (h : d.bk r m) : WS x tBreak r m d := fun F eo oa0 more σ Bs B H D s hr hb ok => ok.bk _ _ _ _ _ _ h s hr hb
theorem ws_cont (h : d.ct r m) : WS x tCont r m d := fun F eo oa0 more σ Bs B H D s hr hb ok => ok.ct _ _ _ _ _ _ h s hr hb
theorem slOf {K : PySem.W.Frag} {oa : List Addr} {B : Hp} {w : W} {v : V} (h : WR K oa B w v) : SlR K oa B w.sl (some v) := by
  cases w with
  | fz d => exact ⟨v, rfl, h⟩
  | ow k => obtain ⟨a, e1, rfl⟩ := h; exact ⟨a, e1, rfl⟩
theorem ws_set (h : WV x te r m fun w m' => d.nx (r.set i w.sl) m') : WS x (tAsg te (gName i)) r m d := fun F eo oa0 more σ Bs B H D s hr hb ok =>
  h F eo _ σ B H _ s hr fun w m' v B' H' q hr' e wv => ok.nx _ _ _ _ _ _ q ((s.mono e).set (slOf wv)) hr' (hb.trans e)
/-- the name owns the new thing -/
def OWN (i : Nat) (r : List Sl) (nx : List Sl → List OO → Prop) : OV → List OO → Prop
  | .fr o, m' => nx (r.set i (.ow m'.length)) (m' ++ [o])
  | _, _ => False
theorem ws_setO (h : WE x te r m (OWN i r d.nx)) : WS x (tAsg te (gName i)) r m d := fun F eo oa0 more σ Bs B H D s hr hb ok =>
  h F eo _ σ B H _ s hr fun o m' v B' H' q hr' e ov => by
    cases o with
    | fz d => exact q.elim
    | ow k => exact q.elim
    | fr o =>
      obtain ⟨a, ho, rfl, b1, b2, b3, b4, b5⟩ := ov
      have hr2 := hr'.own b1 b2 b3 b4 b5
      rw [List.append_assoc] at hr2
      refine ok.nx _ _ (more ++ [a]) _ _ _ q ?_ hr2 (hb.trans e)
      rw [← List.append_assoc]
      refine ((s.mono e).more (more := [a])).set ⟨a, ?_, rfl⟩
      rw [← hr'.len, List.getElem?_concat_length]
theorem ws_ret (h : WE x te r m d.rt) : WS x (tRet te) r m d := fun F eo oa0 more σ Bs B H D s hr hb ok => h F eo _ σ B H _ s hr fun o m' v B' H' q hr' e ov => ok.rt _ _ _ _ _ _ q hr' ov (hb.trans e)
theorem ws_retN (h : d.rt (.fz .non) m) : WS x tRetN r m d := fun F eo oa0 more σ Bs B H D s hr hb ok => ok.rt _ _ _ _ _ _ h hr .non hb
theorem ws_drop (h : WE x te r m fun _ m' => d.nx r m') : WS x (tDrop te) r m d := fun F eo oa0 more σ Bs B H D s hr hb ok => h F eo _ σ B H _ s hr fun o m' v B' H' q hr' e ov => ok.nx _ _ _ _ _ _ q (s.mono e) hr' (hb.trans e)
theorem ws_if (h : WT x tt r m fun b m' => (b = true → WS x ts r m' d) ∧ (b = false → WS x tz r m' d)) : WS x (tIfS tt ts tz) r m d := fun F eo oa0 more σ Bs B H D s hr hb ok =>
  h F eo _ σ B H _ s hr fun b m' B' H' ⟨h1, h2⟩ hr' e => by
    cases b with
    | true => exact h1 rfl F eo oa0 more σ Bs B' H' D (s.mono e) hr' (hb.trans e) ok
    | false => exact h2 rfl F eo oa0 more σ Bs B' H' D (s.mono e) hr' (hb.trans e) ok
theorem WS.imp {d' : DE} (h : WS x ts r m d) (h1 : ∀ r m, d.nx r m → d'.nx r m) (h2 : ∀ o m, d.rt o m → d'.rt o m) (h3 : ∀ r m, d.bk r m → d'.bk r m) (h4 : ∀ r m, d.ct r m → d'.ct r m) : WS x ts r m d' := fun F eo oa0 more σ Bs B H D s hr hb ok =>
  h F eo oa0 more σ Bs B H D s hr hb ⟨fun a b c e f g q => ok.nx a b c e f g (h1 _ _ q), fun a b c e f g q => ok.rt a b c e f g (h2 _ _ q), fun a b c e f g q => ok.bk a b c e f g (h3 _ _ q), fun a b c e f g q => ok.ct a b c e f g (h4 _ _ q)⟩
/-- x op= e at a name -/
theorem ws_aug {w0 : W} {ti : TIp} (h0 : r[i]? = some w0.sl) (h : WV x te r m fun w m' => OpE x ti w0 w m' fun o m2 => FZ (fun w2 m3 => d.nx (r.set i w2.sl) m3) o m2) : WS x (tAug i te ti) r m d := fun F eo oa0 more σ Bs B H D s hr hb ok => by
  obtain ⟨o, e1, e2⟩ := s.sl i _ h0
  have : ∃ v, o = some v ∧ WR x.K (oa0 ++ more) B w0 v := by
    cases w0 with
    | fz d => exact e2
    | ow k => obtain ⟨a, q1, q2⟩ := e2; exact ⟨_, q2, a, q1, rfl⟩
  obtain ⟨v, rfl, rv⟩ := this
  refine ⟨v, e1, h F eo _ σ B H _ s hr fun w m' y B' H' q hr' e wv => q F _ v y B' H' _ hr' (rv.mono e) wv fun o m2 z B2 H2 f hr2 ex ov => ?_⟩
  have fin : ∀ (w2 : W) (B3 : Hp), d.nx (r.set i w2.sl) m2 → HR x F m2 (oa0 ++ more) B3 H2 → Ex B2 B3 → WR x.K (oa0 ++ more) B3 w2 z → D.nx (σ.set i (some z)) H2 := fun w2 B3 q2 hr3 e3 wv2 =>
    ok.nx _ _ _ _ _ _ q2 ((s.mono ((e.trans ex).trans e3)).set (slOf wv2)) hr3 (hb.trans ((e.trans ex).trans e3))
  cases o with
  | fz d => exact fin _ _ f hr2 (Ex.refl _) ov
  | ow k => exact fin _ _ f hr2 (Ex.refl _) ov
  | fr oo =>
    obtain ⟨a, ho, rfl, b1, b2, b3, b4, b5⟩ := ov
    obtain ⟨z2, ex2⟩ := hr2.freeze b1 b2 b3 b4
    exact fin (.fz oo.toD) _ f.2 z2 ex2 (freezeR upd_same (b5.mono ex2) f.1)
end DL

set_option maxRecDepth 100000
set_option maxHeartbeats 4000000
namespace DL
open PySem L2
open Evl (Ex)
variable {x : X} {r : List Sl} {m : List OO} {te ta tb tc tq : TE} {tt tu tv : TT} {tA : TA} {ts tz ty tw : TS} {d : DE} {i j k : Nat} {g : TG} {wi : TI}
variable {Φ : W → List OO → Prop} {Ω : OV → List OO → Prop} {Θ : Bool → List OO → Prop} {Γ : List W → List OO → Prop} {Λ : Nat → (Nat → D) → List OO → Prop}

/-- what is walked: n items, the i-th stands for f i -/
def WI (x : X) (wi : TI) (r : List Sl) (m : List OO) (Λ : Nat → (Nat → D) → List OO → Prop) : Prop :=
  ∀ F : Hp, ErOk x F → ∀ (oa : List Addr) (σ : L2.St) (B H : Hp) (R : It → Hp → Prop), SR x.K r oa σ B → HR x F m oa B H →
    (∀ (n : Nat) (f : Nat → D) (m' : List OO) (B' H' : Hp) (J : It) (G : Hp → Prop) (Y : Nat → Hp → V → Hp → Prop), Λ n f m' → HR x F m' oa B' H' → Ex B B' → Walk J n G Y →
      (∀ H2, Ex B' H2 → G H2) →
      (∀ (i : Nat) (v : V) (F2 : Hp) (m2 : List OO) (oa2 : List Addr) (B2 H2 H3 : Hp), i < n → HR x F2 m2 oa2 B2 H2 → Ex B' B2 → Y i H2 v H3 → ∃ B3, HR x F2 m2 oa2 B3 H3 ∧ Ex B2 B3 ∧ Ex H2 H3 ∧ Rep x.K B3 (f i) v) → R J H') → wi σ H R
/-- a target takes a value -/
def WG (x : X) (g : TG) (v : D) (r : List Sl) (Ψ : List Sl → Prop) : Prop := ∀ (oa : List Addr) (σ : L2.St) (B H : Hp) (u : V) (Q : L2.St → Hp → Prop), SR x.K r oa σ B → Ex B H → Rep x.K B v u →
  (∀ r' σ', Ψ r' → SR x.K r' oa σ' B → Q σ' H) → g u σ H Q
theorem wg_name {v : D} {Ψ : List Sl → Prop} (h : Ψ (r.set i (.fz v))) : WG x (gName i) v r Ψ := fun oa σ B H u Q s e rv q => q _ _ h (s.set (s := .fz v) ⟨u, rfl, rv⟩)
def setAll (r : List Sl) : List Nat → List D → Option (List Sl)
  | [], [] => some r
  | i :: is, v :: vs => setAll (r.set i (.fz v)) is vs
  | _, _ => none
def gNames : List Nat → TGs
  | [] => gNil
  | i :: is => gCons (gName i) (gNames is)
theorem gNames_run {K : PySem.W.Frag} {oa : List Addr} {B H : Hp} {Q : L2.St → Hp → Prop} : ∀ (is : List Nat) (vs : List D) (us : List V) (r r' : List Sl) (σ : L2.St), SR K r oa σ B → RepL K B vs us → setAll r is vs = some r' →
    (∀ σ', SR K r' oa σ' B → Q σ' H) → gNames is us σ H Q
  | [], [], us, r, r', σ, s, rl, h, q => by cases h; cases rl; exact ⟨rfl, q σ s⟩
  | [], _ :: _, _, _, _, _, _, _, h, _ => by cases h
  | _ :: _, [], _, _, _, _, _, _, h, _ => by cases h
  | i :: is, v :: vs, _, r, r', σ, s, .cons rv rl, h, q => ⟨_, _, rfl, gNames_run is vs _ _ r' _ (s.set (s := .fz v) ⟨_, rfl, rv⟩) rl h q⟩
theorem wg_tup {is : List Nat} {vs : List D} {r' : List Sl} {Ψ : List Sl → Prop} {n : Nat} (hs : setAll r is vs = some r') (hn : vs.length = n) (h : Ψ r') : WG x (gTup x.K n (gNames is)) (.tup vs) r Ψ := fun oa σ B H u Q s e rv q => by
  cases rv with
  | tup hB rl => exact ⟨_, _, rfl, Evl.ex_t e hB, by rw [← rl.length]; exact hn, gNames_run is vs _ r r' σ s rl hs fun σ' s' => q r' σ' h s'⟩
/-- a = e through a target that is no name -/
theorem ws_asg (h : WV x te r m fun w m' => ∃ v, w = .fz v ∧ WG x g v r fun r' => d.nx r' m') : WS x (tAsg te g) r m d := fun F eo oa0 more σ Bs B H D s hr hb ok =>
  h F eo _ σ B H _ s hr fun w m' u B' H' ⟨v, e1, q⟩ hr' e wv => by
    subst e1
    exact q _ _ B' H' u _ (s.mono e) hr'.bh wv fun r' σ' f s' => ok.nx _ _ _ _ _ _ f s' hr' (hb.trans e)

theorem ws_for (h : WI x wi r m fun n f m1 => ∃ I : Nat → List Sl → List OO → Prop, I 0 r m1 ∧ (∀ i r' m2, i < n → I i r' m2 → WG x g (f i) r' fun r2 => WS x ts r2 m2 { nx := I (i + 1), ct := I (i + 1), bk := d.nx, rt := d.rt }) ∧ ∀ r' m2, I n r' m2 → d.nx r' m2) :
    WS x (tFor wi g ts) r m d := fun F eo oa0 more σ Bs B H D s hr hb ok => by
  refine h F eo _ σ B H _ s hr fun n f m1 B1 H1 J G Y ⟨I, i0, hI, hE⟩ hr1 e1 w hG hY => ?_
  refine for_it w (fun i σ' H' => ∃ r' m' mo B', I i r' m' ∧ SR x.K r' (oa0 ++ mo) σ' B' ∧ HR x F m' (oa0 ++ mo) B' H' ∧ Ex B1 B') ⟨r, m1, more, B1, i0, s.mono e1, hr1, Ex.refl _⟩ (fun i σ' H' _ p => ?_) (fun i u σ' H2 H3 hi p y => ?_) fun σ' H' p => ?_
  · obtain ⟨_, _, _, B', _, _, hr', e⟩ := p
    exact hG _ (e.trans hr'.bh)
  · obtain ⟨r', m', mo, B2, p1, p2, p3, p4⟩ := p
    obtain ⟨B3, hr3, e3, _, rv⟩ := hY i u _ m' _ B2 H2 H3 hi p3 p4 y
    refine hI i r' m' hi p1 _ σ' B3 H3 u _ (p2.mono e3) hr3.bh rv fun r2 σ2 q s2 => ?_
    refine q F eo oa0 mo σ2 B1 B3 H3 _ s2 hr3 (p4.trans e3) ⟨fun r4 m4 mo4 σ4 B4 H4 q4 s4 hr4 hb4 => ⟨r4, m4, mo4, B4, q4, s4, hr4, hb4⟩, fun o m4 mo4 v B4 H4 q4 hr4 ov hb4 => ok.rt o m4 mo4 v B4 H4 q4 hr4 ov ((hb.trans e1).trans hb4), fun r4 m4 mo4 σ4 B4 H4 q4 s4 hr4 hb4 => ok.nx _ _ _ _ _ _ q4 s4 hr4 ((hb.trans e1).trans hb4), fun r4 m4 mo4 σ4 B4 H4 q4 s4 hr4 hb4 => ⟨r4, m4, mo4, B4, q4, s4, hr4, hb4⟩⟩
  · obtain ⟨r', m', mo, B2, p1, p2, p3, p4⟩ := p
    exact ok.nx _ _ _ _ _ _ (hE r' m' p1) p2 p3 ((hb.trans e1).trans p4)
theorem ErOk.up {F F' : Hp} (h : ErOk x F) (e : Ex F F') : ErOk x F' := fun C fs d gs B H a1 a2 a3 a4 a5 a6 a7 a8 a9 => h C fs d gs B H a1 a2 a3 (e.trans a4) (fun b o z => (a5 b o z).imp id (Evl.fresh_back e)) a6 (Evl.fresh_back e a7) a8 a9
theorem HR.frame {F B H : Hp} {oa : List Addr} {p : Addr} {o : HO} (h : HR x F m oa B H) (hB : B p = none) (hF : F p = none) (ho : p ∉ oa) (hp : H p = some o) : HR x (upd F p o) m oa B H := by
  refine ⟨h.bh, fun a u e => ?_, h.bb, fun b u e => ?_, h.len, h.nd, fun k u e => ?_⟩
  · by_cases q : a = p
    · subst q; rw [upd_same] at e; rw [hp]; exact e
    · rw [upd_ne q] at e; exact h.fh a u e
  · refine (h.nf b u e).imp id fun z => ?_
    have ne : b ≠ p := ne_of_none e hB
    rw [upd_ne ne]; exact z
  · obtain ⟨a, hh, h1, h2, h3, h4, h5⟩ := h.ow k u e
    have ne : a ≠ p := fun z => ho (z ▸ List.mem_of_getElem? h1)
    exact ⟨a, hh, h1, h2, by rw [upd_ne ne]; exact h3, h4, h5⟩
theorem HR.unframe {F F' B H : Hp} {oa : List Addr} (h : HR x F' m oa B H) (e : Ex F F') : HR x F m oa B H :=
  ⟨h.bh, e.trans h.fh, h.bb, fun b u q => (h.nf b u q).imp id (Evl.fresh_back e), h.len, h.nd, fun k u q => let ⟨a, hh, h1, h2, h3, h4, h5⟩ := h.ow k u q; ⟨a, hh, h1, h2, Evl.fresh_back e h3, h4, h5⟩⟩
/-- what is in the frame is not plain unless it was -/
theorem HR.notB {F B H : Hp} {oa : List Addr} {p : Addr} {o : HO} (h : HR x F m oa B H) (hf : F p = some o) (h0 : x.B0 p = none) : B p = none := by
  cases q : B p with
  | none => rfl
  | some u =>
    rcases h.nf p u q with z | z
    · rw [h0] at z; cases z
    · rw [hf] at z; cases z
theorem HR.newOut {F B H : Hp} {oa : List Addr} {p : Addr} (h : HR x F m oa B H) (hp : H p = none) : p ∉ oa := fun hm => by
  obtain ⟨kk, hk, he⟩ := List.mem_iff_getElem.mp hm
  have hk2 : kk < m.length := by rw [← h.len]; exact hk
  obtain ⟨a, ho, e2, _, _, e5, _⟩ := h.ow kk _ (List.getElem?_eq_getElem hk2)
  rw [List.getElem?_eq_getElem hk, he] at e2
  cases e2
  rw [hp] at e5; cases e5
/-- a target that leaves all but the comprehension's own names -/
def OnlyIn (g : TG) (vs : List Nat) : Prop := ∀ (v : V) (σ : L2.St) (H : Hp) (Q Q' : L2.St → Hp → Prop), g v (L2.wipe σ vs) H Q → (∀ σ', L2.wipe σ' vs = L2.wipe σ vs → Q σ' H → Q' σ' H) → g v (L2.wipe σ vs) H Q'
theorem wipe_set1 {σ : L2.St} {i : Nat} {o : Option V} : L2.wipe ((L2.wipe σ [i]).set i o) [i] = L2.wipe σ [i] := by
  show ((σ.set i none).set i o).set i none = σ.set i none
  rw [List.set_set, List.set_set]
theorem only1 : OnlyIn (gName i) [i] := fun v σ H Q Q' h q => q _ wipe_set1 h
theorem wipe_set2 {σ : L2.St} {i j : Nat} {o u : Option V} (hij : i ≠ j) : L2.wipe (((L2.wipe σ [i, j]).set i o).set j u) [i, j] = L2.wipe σ [i, j] := by
  show (((((σ.set j none).set i none).set i o).set j u).set j none).set i none = (σ.set j none).set i none
  rw [List.set_set, List.set_set, List.set_comm _ _ hij, List.set_set, List.set_set]
theorem only2 {K : PySem.W.Frag} {n : Nat} (hij : i ≠ j) : OnlyIn (gTup K n (gNames [i, j])) [i, j] := fun v σ H Q Q' h q => by
  obtain ⟨a, xs, h1, h2, h3, v1, l1, e1, v2, l2, e2, e3, h4⟩ := h
  exact ⟨a, xs, h1, h2, h3, v1, l1, e1, v2, l2, e2, e3, q _ (wipe_set2 hij) h4⟩
/-- a list comprehension -/
theorem we_lc {vs : List Nat} (hg : OnlyIn g vs) (h : WI x wi r m fun n f m1 => n ≤ sizeLine ∧ ∃ I : Nat → List D → List OO → Prop, I 0 [] m1 ∧ (∀ i acc m2, i < n → acc.length ≤ i → I i acc m2 → WG x g (f i) (wipeS r vs) fun r2 =>
      WT x tt r2 m2 fun b m3 => (b = true → WV x te r2 m3 fun w m4 => ∃ d, w = .fz d ∧ I (i + 1) (acc ++ [d]) m4) ∧ (b = false → I (i + 1) acc m3)) ∧ ∀ acc m2, I n acc m2 → Ω (.fr (.l acc)) m2) :
    WE x (tLc wi g tt te vs) r m Ω := fun F eo oa σ B H Q s hr q => by
  refine h F eo _ σ B H _ s hr fun n f m1 B1 H1 J G Y ⟨hn, I, i0, hI, hE⟩ hr1 e1 w hG hY => ?_
  intro Dl hD
  have hB : B1 Dl = none := Evl.fresh_back hr1.bh hD
  have h00 : x.B0 Dl = none := Evl.fresh_back hr1.bb hB
  have hF : F Dl = none := Evl.fresh_back hr1.fh hD
  have hO : Dl ∉ oa := hr1.newOut hD
  have s1 := s.mono e1
  refine lc_it w (fun i H' => ∃ acc m' vs' B', I i acc m' ∧ acc.length ≤ i ∧ HR x F m' oa B' H' ∧ Ex B1 B' ∧ B' Dl = none ∧ H' Dl = some (.lst vs') ∧ RepL x.K B' acc vs') ⟨[], m1, [], B1, i0, Nat.le_refl _, hr1.drop hD, Ex.refl _, hB, upd_same, .nil⟩ (fun i H' _ p => ?_) (fun i u H2 H3 hi p y => ?_) fun H' p => ?_
  · obtain ⟨_, _, _, B', _, _, hr', e, _⟩ := p
    exact hG _ (e.trans hr'.bh)
  · obtain ⟨acc, m', vs', B2, p1, p2, p3, p4, p5, p6, p7⟩ := p
    have p3' := p3.frame p5 hF hO p6
    obtain ⟨B3, hr3, e3, eH, rv⟩ := hY i u _ m' _ B2 H2 H3 hi p3' p4 y
    have eo' : ErOk x (upd F Dl (.lst vs')) := eo.up (Ex.new hF)
    have fd : (upd F Dl (.lst vs')) Dl = some (.lst vs') := upd_same
    refine hg u σ H3 (fun σ2 H2 => tt σ2 H2 _) _ ?_ fun σ2 hw z => ⟨hw, z⟩
    refine hI i acc m' hi p2 p1 oa (L2.wipe σ vs) B3 H3 u _ ((s1.mono (p4.trans e3)).wipe vs) hr3.bh rv fun r2 σ2 qq s2 => ?_
    refine qq _ eo' oa σ2 B3 H3 _ s2 hr3 fun b m3 B4 H4 ⟨h1, h2⟩ hr4 e4 => ?_
    cases b with
    | true =>
      refine (show te σ2 H4 _ from ?_)
      refine h1 rfl _ eo' oa σ2 B4 H4 _ (s2.mono e4) hr4 fun w2 m4 v B5 H5 ⟨dd, ew, i5⟩ hr5 e5 wv => ?_
      subst ew
      have n5 := hr5.notB fd h00
      refine ⟨vs', hr5.fh _ _ fd, ?_, acc ++ [dd], m4, vs' ++ [v], B5, i5, ?_, (hr5.unframe (Ex.new hF)).loose n5 hF hO, ((p4.trans e3).trans e4).trans e5, n5, upd_same, ?_⟩
      · rw [← p7.length]; exact Nat.lt_of_lt_of_le (Nat.lt_of_le_of_lt p2 hi) hn
      · rw [List.length_append]; exact Nat.succ_le_succ p2
      · exact (p7.mono ((e3.trans e4).trans e5)).append (.cons wv .nil)
    | false =>
      refine (show ∃ acc m' vs' B', _ from ?_)
      have n4 := hr4.notB fd h00
      exact ⟨acc, m3, vs', B4, h2 rfl, Nat.le_succ_of_le p2, hr4.unframe (Ex.new hF), (p4.trans e3).trans e4, n4, hr4.fh _ _ fd, p7.mono (e3.trans e4)⟩
  · obtain ⟨acc, m', vs', B2, p1, p2, p3, p4, p5, p6, p7⟩ := p
    exact q _ _ _ _ _ (hE acc m' p1) p3 (e1.trans p4) ⟨Dl, _, rfl, p5, hF, hO, p6, p7⟩
/-- each item to one value, nothing owned changes -/
theorem lcMap {n : Nat} {f : Nat → D} {m1 : List OO} {r0 : List Sl} (v : Nat → D) (hn : n ≤ sizeLine) (h : ∀ i, i < n → WG x g (f i) r0 fun r2 => WV x te r2 m1 fun w m4 => w = .fz (v i) ∧ m4 = m1) (q : Ω (.fr (.l ((List.range n).map v))) m1) :
    n ≤ sizeLine ∧ ∃ I : Nat → List D → List OO → Prop, I 0 [] m1 ∧ (∀ i acc m2, i < n → acc.length ≤ i → I i acc m2 → WG x g (f i) r0 fun r2 =>
      WT x tYes r2 m2 fun b m3 => (b = true → WV x te r2 m3 fun w m4 => ∃ d, w = .fz d ∧ I (i + 1) (acc ++ [d]) m4) ∧ (b = false → I (i + 1) acc m3)) ∧ ∀ acc m2, I n acc m2 → Ω (.fr (.l acc)) m2 := by
  refine ⟨hn, fun i acc m' => acc = (List.range i).map v ∧ m' = m1, ⟨rfl, rfl⟩, fun i acc m2 hi hl ⟨ea, em⟩ => ?_, fun acc m2 ⟨ea, em⟩ => by subst ea em; exact q⟩
  subst em
  intro oa σ B H u Q s e rv z
  refine h i hi oa σ B H u Q s e rv fun r' σ' hw s' => z r' σ' ?_ s'
  refine wt_yes ⟨fun _ => hw.imp fun w m4 ⟨e1, e2⟩ => ⟨v i, e1, ?_, e2⟩, fun z => by cases z⟩
  rw [ea, List.range_succ, List.map_append] <;> rfl
/-- the sources -/
theorem wi_list (h : WV x te r m fun w m1 => ∃ xs : List D, w = .fz (.lst xs) ∧ Λ xs.length (fun i => xs.getD i .non) m1) : WI x (iList x.K te) r m Λ := fun F eo oa σ B H R s hr q =>
  h F eo _ σ B H _ s hr fun w m1 v B1 H1 ⟨xs, ew, hl⟩ hr1 e1 wv => by
    subst ew
    cases wv with
    | lst hB rl =>
      rename_i a vs
      refine ⟨a, rfl, ⟨vs, Evl.sq_of (hr1.bh _ _ hB)⟩, ?_⟩
      refine q _ _ _ _ _ _ (fun H => SqL x.K H a vs) (YAt vs) (rl.length ▸ hl) hr1 e1 walk_list (fun H2 e => Evl.sq_of (e _ _ hB)) fun i u F2 m2 oa2 B2 H2 H3 hi hr2 e2 y => ?_
      obtain ⟨eH, hy⟩ := y
      subst eH
      obtain ⟨dd, e3, rv⟩ := rl.get hy
      refine ⟨B2, hr2, Ex.refl _, Ex.refl _, ?_⟩
      have e4 : xs.getD i .non = dd := by rw [List.getD_eq_getElem?_getD, e3] <;> rfl
      rw [e4]
      exact rv.mono e2
theorem wi_script (h : WV x te r m fun w m1 => ∃ xs : List Int, w = .fz (.scr xs) ∧ Λ xs.length (fun i => .int (xs.getD i 0)) m1) : WI x (iList x.K te) r m Λ := fun F eo oa σ B H R s hr q =>
  h F eo _ σ B H _ s hr fun w m1 v B1 H1 ⟨xs, ew, hl⟩ hr1 e1 wv => by
    subst ew
    cases wv with
    | scr hB =>
      rename_i a
      refine ⟨a, rfl, ⟨_, Evl.ex_l hr1.bh hB⟩, ?_⟩
      refine q _ _ _ _ _ _ (fun H => SqL x.K H a (xs.map V.int)) (YAt (xs.map V.int)) (by rw [List.length_map]; exact hl) hr1 e1 walk_list (fun H2 e => Evl.ex_l e hB) fun i u F2 m2 oa2 B2 H2 H3 hi hr2 e2 y => ?_
      obtain ⟨eH, hy⟩ := y
      subst eH
      refine ⟨B2, hr2, Ex.refl _, Ex.refl _, ?_⟩
      rw [List.getElem?_map] at hy
      obtain ⟨n, h1, h2⟩ := Option.map_eq_some_iff.mp hy
      subst h2
      have e4 : xs.getD i 0 = n := by rw [List.getD_eq_getElem?_getD, h1] <;> rfl
      rw [e4]
      exact .int
theorem wi_tup (h : WV x te r m fun w m1 => ∃ xs : List D, w = .fz (.tup xs) ∧ Λ xs.length (fun i => xs.getD i .non) m1) : WI x (iTup x.K te) r m Λ := fun F eo oa σ B H R s hr q =>
  h F eo _ σ B H _ s hr fun w m1 v B1 H1 ⟨xs, ew, hl⟩ hr1 e1 wv => by
    subst ew
    cases wv with
    | tup hB rl =>
      rename_i a vs
      refine ⟨a, rfl, ⟨vs, Evl.ex_t hr1.bh hB⟩, ?_⟩
      refine q _ _ _ _ _ _ (fun H => SqT x.K H a vs) (YAt vs) (rl.length ▸ hl) hr1 e1 walk_tup (fun H2 e => Evl.ex_t e hB) fun i u F2 m2 oa2 B2 H2 H3 hi hr2 e2 y => ?_
      obtain ⟨eH, hy⟩ := y
      subst eH
      obtain ⟨dd, e3, rv⟩ := rl.get hy
      refine ⟨B2, hr2, Ex.refl _, Ex.refl _, ?_⟩
      have e4 : xs.getD i .non = dd := by rw [List.getD_eq_getElem?_getD, e3] <;> rfl
      rw [e4]
      exact rv.mono e2
theorem wi_str (h : WV x te r m fun w m1 => ∃ z : Str, w = .fz (.str z) ∧ Λ z.cps.size (fun i => .str ⟨#[z.cps.toList.getD i 0]⟩) m1) : WI x (iStr te) r m Λ := fun F eo oa σ B H R s hr q =>
  h F eo _ σ B H _ s hr fun w m1 v B1 H1 ⟨z, ew, hl⟩ hr1 e1 wv => by
    subst ew
    cases wv
    refine ⟨z, rfl, ?_⟩
    refine q _ _ _ _ _ _ (fun _ => True) _ hl hr1 e1 walk_str (fun _ _ => trivial) fun i u F2 m2 oa2 B2 H2 H3 hi hr2 e2 y => ?_
    obtain ⟨eH, c, hc, rfl⟩ := y
    subst eH
    refine ⟨B2, hr2, Ex.refl _, Ex.refl _, ?_⟩
    have e4 : z.cps.toList.getD i 0 = c := by rw [List.getD_eq_getElem?_getD, Array.getElem?_toList, hc] <;> rfl
    rw [e4]
    exact .str
theorem wi_rng1 (h : WA x tA r m fun ws m1 => ∃ n : Int, ws = [.fz (.int n)] ∧ -(2 ^ 62) ≤ n ∧ n < 2 ^ 62 ∧ Λ n.toNat (fun i => .int i) m1) : WI x (iRng1 tA) r m Λ := fun F eo oa σ B H R s hr q =>
  h F eo _ σ B H _ s hr fun ws m1 vs B1 H1 ⟨n, ew, l1, l2, hl⟩ hr1 e1 wv => by
    subst ew
    cases wv with
    | cons a b =>
      cases b
      cases a
      refine ⟨n, rfl, l1, l2, ?_⟩
      refine q _ _ _ _ _ _ (fun _ => True) _ hl hr1 e1 walk_range (fun _ _ => trivial) fun i u F2 m2 oa2 B2 H2 H3 hi hr2 e2 y => ?_
      obtain ⟨eH, rfl⟩ := y
      subst eH
      refine ⟨B2, hr2, Ex.refl _, Ex.refl _, ?_⟩
      show Rep x.K B2 (.int i) (.int (0 + i))
      rw [Int.zero_add]
      exact .int
theorem wi_rng2 (h : WA x tA r m fun ws m1 => ∃ a n : Int, ws = [.fz (.int a), .fz (.int n)] ∧ (-(2 ^ 62) ≤ a ∧ a < 2 ^ 62 ∧ -(2 ^ 62) ≤ n ∧ n < 2 ^ 62) ∧ Λ (n - a).toNat (fun i => .int (a + i)) m1) : WI x (iRng2 tA) r m Λ := fun F eo oa σ B H R s hr q =>
  h F eo _ σ B H _ s hr fun ws m1 vs B1 H1 ⟨a0, n, ew, l1, hl⟩ hr1 e1 wv => by
    subst ew
    cases wv with
    | cons a b =>
      cases b with
      | cons b c =>
        cases c
        cases a
        cases b
        refine ⟨a0, n, rfl, l1, ?_⟩
        refine q _ _ _ _ _ _ (fun _ => True) _ hl hr1 e1 walk_range (fun _ _ => trivial) fun i u F2 m2 oa2 B2 H2 H3 hi hr2 e2 y => ?_
        obtain ⟨eH, rfl⟩ := y
        subst eH
        exact ⟨B2, hr2, Ex.refl _, Ex.refl _, .int⟩
theorem wi_enum (h : WA x tA r m fun ws m1 => ∃ xs : List D, ws = [.fz (.lst xs)] ∧ Λ xs.length (fun i => .tup [.int i, xs.getD i .non]) m1) : WI x (iEnum x.K tA) r m Λ := fun F eo oa σ B H R s hr q =>
  h F eo _ σ B H _ s hr fun ws m1 vs B1 H1 ⟨xs, ew, hl⟩ hr1 e1 wv => by
    subst ew
    cases wv with
    | cons a b =>
      cases b
      cases a with
      | lst hB rl =>
        rename_i a vs
        refine ⟨a, vs, rfl, Evl.sq_of (hr1.bh _ _ hB), ?_⟩
        refine q _ _ _ _ _ _ (fun H => SqL x.K H a vs) _ (rl.length ▸ hl) hr1 e1 walk_enum (fun H2 e => Evl.sq_of (e _ _ hB)) fun i u F2 m2 oa2 B2 H2 H3 hi hr2 e2 y => ?_
        obtain ⟨T, v1, v2, rfl, hT, eH, h1, h2⟩ := y
        subst eH
        cases h1
        obtain ⟨dd, e3, rv⟩ := rl.get h2
        have hn := Evl.fresh_back hr2.bh hT
        refine ⟨_, hr2.lay hT, Ex.new hn, Ex.new hT, ?_⟩
        have e4 : xs.getD i .non = dd := by rw [List.getD_eq_getElem?_getD, e3] <;> rfl
        rw [e4]
        exact .tup (Evl.st_of upd_same) (.cons .int (.cons (rv.mono (e2.trans (Ex.new hn))) .nil))
theorem wi_zip (h : WA x tA r m fun ws m1 => ∃ xs ys : List D, ws = [.fz (.lst xs), .fz (.lst ys)] ∧ Λ (min xs.length ys.length) (fun i => .tup [xs.getD i .non, ys.getD i .non]) m1) : WI x (iZip x.K tA) r m Λ := fun F eo oa σ B H R s hr q =>
  h F eo _ σ B H _ s hr fun ws m1 vs B1 H1 ⟨xs, ys, ew, hl⟩ hr1 e1 wv => by
    subst ew
    cases wv with
    | cons a b =>
      cases b with
      | cons b c =>
        cases c
        cases a with
        | lst hB rl =>
          cases b with
          | lst hB2 rl2 =>
            rename_i a vs b us
            refine ⟨a, b, vs, us, rfl, Evl.sq_of (hr1.bh _ _ hB), Evl.sq_of (hr1.bh _ _ hB2), ?_⟩
            refine q _ _ _ _ _ _ (fun H => SqL x.K H a vs ∧ SqL x.K H b us) _ (by rw [rl.length, rl2.length] at hl; exact hl) hr1 e1 (walk_zip rfl) (fun H2 e => ⟨Evl.sq_of (e _ _ hB), Evl.sq_of (e _ _ hB2)⟩) fun i u F2 m2 oa2 B2 H2 H3 hi hr2 e2 y => ?_
            obtain ⟨T, v1, v2, rfl, hT, eH, h1, h2⟩ := y
            subst eH
            obtain ⟨d1, e3, rv⟩ := rl.get h1
            obtain ⟨d2, e5, rv2⟩ := rl2.get h2
            have hn := Evl.fresh_back hr2.bh hT
            refine ⟨_, hr2.lay hT, Ex.new hn, Ex.new hT, ?_⟩
            have e4 : xs.getD i .non = d1 := by rw [List.getD_eq_getElem?_getD, e3] <;> rfl
            have e6 : ys.getD i .non = d2 := by rw [List.getD_eq_getElem?_getD, e5] <;> rfl
            rw [e4, e6]
            exact .tup (Evl.st_of upd_same) (.cons (rv.mono (e2.trans (Ex.new hn))) (.cons (rv2.mono (e2.trans (Ex.new hn))) .nil))
/-- while -/
theorem ws_while (I : Nat → List Sl → List OO → Prop) (n : Nat) (h0 : I n r m) (h : ∀ n r' m', I n r' m' → WT x tt r' m' fun b m2 => (b = true → WS x ts r' m2 { nx := fun r2 m3 => ∃ n', n' < n ∧ I n' r2 m3, ct := fun r2 m3 => ∃ n', n' < n ∧ I n' r2 m3, bk := d.nx, rt := d.rt }) ∧ (b = false → d.nx r' m2)) :
    WS x (tWhile tt ts) r m d := fun F eo oa0 more σ Bs B H D s hr hb ok => by
  refine ⟨fun n σ' H' => ∃ r' m' mo B', I n r' m' ∧ SR x.K r' (oa0 ++ mo) σ' B' ∧ HR x F m' (oa0 ++ mo) B' H' ∧ Ex Bs B', ⟨n, r, m, more, B, h0, s, hr, hb⟩, fun n σ' H' ⟨r', m', mo, B', p1, p2, p3, p4⟩ => ?_⟩
  refine h n r' m' p1 F eo _ σ' B' H' _ p2 p3 fun b m2 B2 H2 ⟨h1, h2⟩ hr2 e2 => ?_
  cases b with
  | true =>
    refine (show ∃ N : L2.St → Hp → Prop, _ from ?_)
    refine ⟨fun σ3 H3 => ∃ n', n' < n ∧ ∃ r' m' mo B', I n' r' m' ∧ SR x.K r' (oa0 ++ mo) σ3 B' ∧ HR x F m' (oa0 ++ mo) B' H3 ∧ Ex Bs B', fun σ3 H3 ⟨n', l, q⟩ => ⟨n', l, q⟩, ?_⟩
    exact h1 rfl F eo oa0 mo σ' Bs B2 H2 _ (p2.mono e2) hr2 (p4.trans e2) ⟨fun r4 m4 mo4 σ4 B4 H4 ⟨n', l, q4⟩ s4 hr4 hb4 => ⟨n', l, r4, m4, mo4, B4, q4, s4, hr4, hb4⟩, ok.rt, ok.nx, fun r4 m4 mo4 σ4 B4 H4 ⟨n', l, q4⟩ s4 hr4 hb4 => ⟨n', l, r4, m4, mo4, B4, q4, s4, hr4, hb4⟩⟩
  | false =>
    show D.nx σ' H2
    exact ok.nx _ _ _ _ _ _ (h2 rfl) (p2.mono e2) hr2 (p4.trans e2)
end DL

set_option maxRecDepth 100000
set_option maxHeartbeats 4000000
namespace DL
open PySem PySem.Spec PyProof.Rows L2
open Evl (Ex)

/-- a def's promise over plain data: argument slots, what is owned of them, what follows, what is raised -/
abbrev DSp := List Sl → List OO → (OV → List OO → Prop) → (Er → Prop) → Prop
def lift (K : PySem.W.Frag) (n : Nat) (p : DSp) : Sp := fun vs H Q E => ∃ (F B : Hp) (r : List Sl) (m : List OO) (oa : List Addr) (Φ : OV → List OO → Prop) (Ψ : Er → Prop),
  vs.length = n ∧ r.length = n ∧ p r m Φ Ψ ∧ SR K r oa (vs.map some) B ∧ HR ⟨K, B, E, Ψ⟩ F m oa B H ∧ ErOk ⟨K, B, E, Ψ⟩ F ∧
  ∀ o m' v B' H', Φ o m' → HR ⟨K, B, E, Ψ⟩ F m' oa B' H' → OutR ⟨K, B, E, Ψ⟩ F oa B' H' o v → Q v H'
/-- how a def's body may end -/
def RT (n : Nat) (Φ : OV → List OO → Prop) : OV → List OO → Prop
  | .fz d, m => Φ (.fz d) (m.take n)
  | .fr o, m => Φ (.fr o) (m.take n)
  | .ow k, m => (k < n ∧ Φ (.ow k) (m.take n)) ∨ (n ≤ k ∧ ∃ o, m[k]? = some o ∧ Φ (.fr o) (m.take n))
def rets (n : Nat) (Φ : OV → List OO → Prop) : DE := { nx := fun _ m => Φ (.fz .non) (m.take n), rt := RT n Φ }
section
variable {x : X} {F B H : Hp} {m : List OO} {oa mo : List Addr}
theorem HR.take (h : HR x F m (oa ++ mo) B H) : HR x F (m.take oa.length) oa B H := by
  have hl := h.len
  rw [List.length_append] at hl
  refine ⟨h.bh, h.fh, h.bb, h.nf, by rw [List.length_take]; omega, (List.nodup_append.mp h.nd).1, fun k o e => ?_⟩
  have hk : k < oa.length := by
    have := (List.getElem?_eq_some_iff.mp e).1
    rw [List.length_take] at this; omega
  rw [List.getElem?_take_of_lt hk] at e
  obtain ⟨a, ho, h1, h2⟩ := h.ow k o e
  exact ⟨a, ho, by rw [List.getElem?_append_left hk] at h1; exact h1, h2⟩
end
theorem sr_start {K : PySem.W.Frag} {r : List Sl} {oa : List Addr} {vs : List V} {B : Hp} (s : SR K r oa (vs.map some) B) (n : Nat) : SR K (r ++ List.replicate n .un) oa (vs.map some ++ List.replicate n none) B := by
  refine ⟨by rw [List.length_append, List.length_append, s.len, List.length_replicate, List.length_replicate], fun i q e => ?_⟩
  by_cases hi : i < r.length
  · rw [List.getElem?_append_left hi] at e
    rw [List.getElem?_append_left (by rw [← s.len]; exact hi)]
    exact s.sl i q e
  · have hlt := (List.getElem?_eq_some_iff.mp e).1
    rw [List.length_append, List.length_replicate] at hlt
    rw [List.getElem?_append_right (by omega), List.getElem?_replicate] at e
    rw [List.getElem?_append_right (by rw [← s.len]; omega), List.getElem?_replicate, ← s.len, if_pos (by omega)]
    rw [if_pos (by omega)] at e
    cases e
    exact ⟨none, rfl, trivial⟩
section
variable {P : Program} {w : World} {K : PySem.W.Frag} {mg : Str → Option Value} {base : Heap}
theorem fn_dl {nm qual : Str} {st : Stmt} {f : Addr} {fd : FuncData} {N ps : List Str} {k : Nat} (p : DSp) (Fn : Fun K nm qual st f fd) (S : FnScope N ps (defScope st))
    (hbody : ∀ (cdv : Value) (A : Around) (outer : List Env) (s : Shared) (H : Hp) (E : XK), Room k (A.deeper (envOfC qual (defScope st) s.heap.objs.size f cdv)) →
      ∃ t, PSs (cxOf (L2.CX P w) P w K mg base N qual (defScope st) f cdv A outer s H E) (defBody st) t ∧
        ∀ (B0 : Hp) (r : List Sl) (m : List OO) (Φ : OV → List OO → Prop) (Ψ : Er → Prop), p r m Φ Ψ → r.length = ps.length → WS ⟨K, B0, E, Ψ⟩ t (r ++ List.replicate (N.length - ps.length) .un) m (rets m.length Φ)) :
    FnOk P w K mg base (L2.CX P w) (k + 1) f fd ps (lift K ps.length p) := by
  refine Fn.okX S (fun vs H Q E h => ?_) (fun cdv A outer s H vs Q E hr h => ?_)
  · obtain ⟨_, _, _, _, _, _, _, h, _⟩ := h
    exact h
  · obtain ⟨F, B, r, m, oa, Φ, Ψ, hv, hl, hp, hs, hh, eo, q⟩ := h
    obtain ⟨t, ht, hw⟩ := hbody cdv A outer s H E hr
    refine ⟨t, ht, ?_⟩
    have s0 := sr_start hs (N.length - ps.length)
    have es : L2.start N vs = vs.map some ++ List.replicate (N.length - ps.length) none := by unfold L2.start; rw [hv]
    rw [es]
    refine hw B r m Φ Ψ hp hl F eo oa [] _ B B H _ (by rw [List.append_nil]; exact s0) (by rw [List.append_nil]; exact hh) (Ex.refl B) ⟨fun r' m' mo σ' B' H' z s' hr' _ => ?_, fun o m' mo v B' H' z hr' ov _ => ?_, fun _ _ _ _ _ _ z => z.elim, fun _ _ _ _ _ _ z => z.elim⟩
    · have ht := hr'.take
      rw [hh.len] at ht
      exact q (.fz .non) _ _ _ _ z ht .non
    · have ht := hr'.take
      rw [hh.len] at ht
      cases o with
      | fz d => exact q (.fz d) _ _ _ _ z ht ov
      | fr o =>
        obtain ⟨a, ho, e1, b1, b2, b3, b4, b5⟩ := ov
        exact q (.fr o) _ _ _ _ z ht ⟨a, ho, e1, b1, b2, fun hm => b3 (List.mem_append_left _ hm), b4, b5⟩
      | ow kk =>
        obtain ⟨a, e1, e2⟩ := ov
        rcases z with ⟨hk, z⟩ | ⟨hk, o, e3, z⟩
        · exact q (.ow kk) _ _ _ _ z ht ⟨a, by rw [List.getElem?_append_left (by rw [hh.len]; exact hk)] at e1; exact e1, e2⟩
        · obtain ⟨a', ho, f1, f2, f3, f4, f5⟩ := hr'.ow kk o e3
          rw [e1] at f1; cases f1
          refine q (.fr o) _ _ _ _ z ht ⟨a, ho, e2, f2, f3, fun hm => ?_, f4, f5⟩
          rw [List.getElem?_append_right (by rw [hh.len]; exact hk)] at e1
          exact (List.nodup_append.mp hr'.nd).2.2 a hm a (List.mem_of_getElem? e1) rfl
end

section
variable {x : X} {r : List Sl} {m : List OO} {te ta tb : TE} {tA : TA} {d : DE} {i k n : Nat} {E : XK} {p : DSp} {C : Addr}
variable {Φ : W → List OO → Prop} {Ω : OV → List OO → Prop}
/-- behind a call that got nothing owned -/
def CO (Ω : OV → List OO → Prop) (m : List OO) : OV → List OO → Prop
  | .fz d, _ => Ω (.fz d) m
  | .fr o, _ => Ω (.fr o) m
  | .ow _, _ => True
theorem rep_slots {K : PySem.W.Frag} {B : Hp} : ∀ {ds : List D} {vs : List V}, RepL K B ds vs → SR K (ds.map Sl.fz) [] (vs.map some) B
  | ds, vs, rl => ⟨by rw [List.length_map, List.length_map, rl.length], fun i s e => by
      rw [List.getElem?_map] at e
      obtain ⟨d, e1, e2⟩ := Option.map_eq_some_iff.mp e
      subst e2
      obtain ⟨v, e3, rv⟩ := rl.get' e1
      exact ⟨some v, by rw [List.getElem?_map, e3] <;> rfl, v, rfl, rv⟩⟩
theorem hr_nil {E' : XK} {Ψ : Er → Prop} {K : PySem.W.Frag} {B H : Hp} (h : Ex B H) : HR ⟨K, B, E', Ψ⟩ H [] [] B H :=
  ⟨h, Ex.refl _, Ex.refl _, fun b o e => .inl e, rfl, List.nodup_nil, fun k o e => by simp at e⟩
/-- back from a call that got nothing owned -/
theorem hr_back {x' : X} {F B1 H1 B2 H2 : Hp} {oa : List Addr} {m1 m' : List OO} (hr1 : HR x F m1 oa B1 H1) (h : HR x' H1 m' [] B2 H2) (e0 : x'.B0 = B1) : HR x F m1 oa B2 H2 ∧ Ex B1 B2 := by
  have e : Ex B1 B2 := e0 ▸ h.bb
  refine ⟨⟨h.bh, hr1.fh.trans h.fh, hr1.bb.trans e, fun b o q => ?_, hr1.len, hr1.nd, fun k o q => ?_⟩, e⟩
  · rcases h.nf b o q with z | z
    · rw [e0] at z; exact hr1.nf b o z
    · exact .inr (Evl.fresh_back hr1.fh z)
  · obtain ⟨a, ho, f1, f2, f3, f4, f5⟩ := hr1.ow k o q
    refine ⟨a, ho, f1, ?_, f3, h.fh _ _ f4, f5.mono e⟩
    cases qq : B2 a with
    | none => rfl
    | some u =>
      rcases h.nf a u qq with z | z
      · rw [e0, f2] at z; cases z
      · rw [f4] at z; cases z
theorem er_call {F B1 H1 : Hp} {oa : List Addr} {m1 : List OO} (eo : ErOk x F) (hr1 : HR x F m1 oa B1 H1) : ErOk ⟨x.K, B1, x.E, x.er⟩ H1 := fun C fs d gs B2 H2 a1 a2 a3 a4 a5 a6 a7 a8 a9 =>
  eo C fs d gs B2 H2 a1 (hr1.bb.trans a2) a3 (hr1.fh.trans a4) (fun b o q => by
    rcases a5 b o q with z | z
    · exact hr1.nf b o z
    · exact .inr (Evl.fresh_back hr1.fh z)) a6 (Evl.fresh_back hr1.fh a7) a8 a9
theorem er_none {x' : X} {F : Hp} (h : ∀ e, ¬ x'.er e) : ErOk x' F := fun C fs d gs B2 H2 a1 _ _ _ _ _ _ _ _ => (h _ a1).elim
/-- from the callee's end -/
theorem lift_plain {F B1 H1 : Hp} {oa : List Addr} {m1 : List OO} {E' : XK} {Ψ : Er → Prop} {ds : List D} {vs : List V} {Q : VK} (hr1 : HR x F m1 oa B1 H1) (rl : RepL x.K B1 ds vs) (hn : ds.length = n) (eo : ErOk ⟨x.K, B1, E', Ψ⟩ H1)
    (hp : p (ds.map .fz) [] (CO Ω m1) Ψ) (q : ∀ o v B' H', Ω o m1 → HR x F m1 oa B' H' → Ex B1 B' → OutR x F oa B' H' o v → Q v H') : lift x.K n p vs H1 Q E' := by
  refine ⟨H1, B1, ds.map .fz, [], [], CO Ω m1, Ψ, by rw [← rl.length]; exact hn, by rw [List.length_map]; exact hn, hp, rep_slots rl, hr_nil hr1.bh, eo, fun o m' v B' H' f hr' ov => ?_⟩
  obtain ⟨hb, ex⟩ := hr_back hr1 hr' rfl
  cases o with
  | fz d => exact q _ _ _ _ f hb ex ov
  | ow k => obtain ⟨a, e, _⟩ := ov; simp at e
  | fr o =>
    obtain ⟨a, ho, e1, b1, b2, b3, b4, b5⟩ := ov
    refine q (.fr o) _ _ _ f hb ex ⟨a, ho, e1, b1, Evl.fresh_back hr1.fh b2, hr1.newOut b2, b4, b5⟩
theorem we_call (h : WA x tA r m fun ws m1 => ∃ ds, plainW ws = some ds ∧ ds.length = n ∧ p (ds.map .fz) [] (CO Ω m1) x.er) : WE x (tCall (lift x.K n p) [] x.E tA) r m Ω := fun F eo oa σ B H Q s hr z =>
  h F eo oa σ B H _ s hr fun ws m1 vs B1 H1 ⟨ds, e1, hn, hp⟩ hr1 ex1 rp => by
    rw [List.append_nil]
    exact lift_plain hr1 (plain_rep rp e1) hn (er_call eo hr1) hp fun o v B' H' f hb ex ov => z _ _ _ _ _ f hb (ex1.trans ex) ov
/-- where nothing may be raised -/
theorem we_call0 (h : WA x tA r m fun ws m1 => ∃ ds, plainW ws = some ds ∧ ds.length = n ∧ p (ds.map .fz) [] (CO Ω m1) (fun _ => False)) : WE x (tCall (lift x.K n p) [] E tA) r m Ω := fun F eo oa σ B H Q s hr z =>
  h F eo oa σ B H _ s hr fun ws m1 vs B1 H1 ⟨ds, e1, hn, hp⟩ hr1 ex1 rp => by
    rw [List.append_nil]
    exact lift_plain hr1 (plain_rep rp e1) hn (er_none fun _ z => z) hp fun o v B' H' f hb ex ov => z _ _ _ _ _ f hb (ex1.trans ex) ov

def minus (H : Hp) (a : Addr) : Hp := fun b => if b = a then none else H b
theorem minus_same {H : Hp} {a : Addr} : minus H a a = none := if_pos rfl
theorem minus_ne {H : Hp} {a b : Addr} (h : b ≠ a) : minus H a b = H b := if_neg h
theorem minus_le {H : Hp} {a : Addr} : Ex (minus H a) H := fun b o e => by
  by_cases h : b = a
  · subst h; rw [minus_same] at e; cases e
  · rw [minus_ne h] at e; exact e
theorem hr_one {E' : XK} {Ψ : Er → Prop} {K : PySem.W.Frag} {B H : Hp} {a : Addr} {o : OO} {ho : HO} (h : Ex B H) (hB : B a = none) (hH : H a = some ho) (hr : ORep K B o ho) : HR ⟨K, B, E', Ψ⟩ (minus H a) [o] [a] B H :=
  ⟨h, minus_le, Ex.refl _, fun b o e => .inl e, rfl, by simp, fun k u e => by
    cases k with
    | zero => simp at e; subst e; exact ⟨a, ho, rfl, hB, minus_same, hH, hr⟩
    | succ k => simp at e⟩
/-- back from a call that got the k-th owned thing -/
theorem hr_back1 {x' : X} {F B1 H1 B2 H2 : Hp} {oa : List Addr} {m1 : List OO} {o' : OO} {a : Addr} (hr1 : HR x F m1 oa B1 H1) (hk : oa[k]? = some a) (h : HR x' (minus H1 a) [o'] [a] B2 H2) (e0 : x'.B0 = B1) (eK : x'.K = x.K) : HR x F (m1.set k o') oa B2 H2 ∧ Ex B1 B2 := by
  have e : Ex B1 B2 := e0 ▸ h.bb
  have hlt : k < m1.length := by rw [← hr1.len]; exact (List.getElem?_eq_some_iff.mp hk).1
  obtain ⟨a', h0, g1, g2, g3, g4, _⟩ := hr1.ow k _ (List.getElem?_eq_getElem hlt)
  rw [hk] at g1; cases g1
  have hF : Ex F (minus H1 a) := fun b u q => by
    have ne : b ≠ a := fun z => by rw [z, g3] at q; cases q
    rw [minus_ne ne]; exact hr1.fh b u q
  refine ⟨⟨h.bh, hF.trans h.fh, hr1.bb.trans e, fun b o q => ?_, by rw [List.length_set]; exact hr1.len, hr1.nd, fun j o q => ?_⟩, e⟩
  · rcases h.nf b o q with z | z
    · rw [e0] at z; exact hr1.nf b o z
    · exact .inr (Evl.fresh_back hF z)
  · by_cases hkj : k = j
    · subst hkj
      rw [List.getElem?_set_self hlt] at q
      cases q
      obtain ⟨b, ho, f1, f2, f3, f4, f5⟩ := h.ow 0 _ rfl
      cases f1
      exact ⟨a, ho, hk, f2, g3, f4, eK ▸ f5⟩
    · rw [List.getElem?_set_ne hkj] at q
      obtain ⟨b, ho, f1, f2, f3, f4, f5⟩ := hr1.ow j o q
      have ne : b ≠ a := fun z => by
        subst z
        have q1 := (List.getElem?_eq_some_iff.mp hk)
        have q2 := (List.getElem?_eq_some_iff.mp f1)
        exact hkj ((List.getElem_inj hr1.nd).mp (q1.2.trans q2.2.symm))
      have hm : minus H1 a b = some ho := by rw [minus_ne ne]; exact f4
      refine ⟨b, ho, f1, ?_, f3, h.fh _ _ hm, f5.mono e⟩
      cases qq : B2 b with
      | none => rfl
      | some u =>
        rcases h.nf b u qq with z | z
        · rw [e0, f2] at z; cases z
        · rw [hm] at z; cases z
/-- behind a call that got the k-th owned thing first -/
def CO1 (Ω : OV → List OO → Prop) (m : List OO) (k : Nat) : OV → List OO → Prop
  | .fz d, m' => ∀ o, m' = [o] → Ω (.fz d) (m.set k o)
  | .fr u, m' => ∀ o, m' = [o] → Ω (.fr u) (m.set k o)
  | .ow _, m' => ∀ o, m' = [o] → Ω (.ow k) (m.set k o)
theorem lift_own {F B1 H1 : Hp} {oa : List Addr} {m1 : List OO} {E' : XK} {Ψ : Er → Prop} {ds : List D} {v0 : V} {vs : List V} {Q : VK} {o : OO} (hr1 : HR x F m1 oa B1 H1) (hk : m1[k]? = some o) (h0 : WR x.K oa B1 (.ow k) v0) (rl : RepL x.K B1 ds vs) (hn : ds.length + 1 = n)
    (hne : ∀ e, ¬ Ψ e) (hp : p (.ow 0 :: ds.map .fz) [o] (CO1 Ω m1 k) Ψ) (q : ∀ o v m' B' H', Ω o m' → HR x F m' oa B' H' → Ex B1 B' → OutR x F oa B' H' o v → Q v H') : lift x.K n p (v0 :: vs) H1 Q E' := by
  obtain ⟨a, ha, rfl⟩ := h0
  obtain ⟨a', ho, g1, g2, g3, g4, g5⟩ := hr1.ow k o hk
  rw [ha] at g1; cases g1
  refine ⟨minus H1 a, B1, .ow 0 :: ds.map .fz, [o], [a], CO1 Ω m1 k, Ψ, by rw [List.length_cons, ← rl.length]; exact hn, by rw [List.length_cons, List.length_map]; exact hn, hp, ?_, hr_one hr1.bh g2 g4 g5, er_none hne, fun o' m' v B' H' f hr' ov => ?_⟩
  · have s := rep_slots rl
    refine ⟨by simpa using s.len, fun i q e => ?_⟩
    cases i with
    | zero => simp at e; subst e; exact ⟨_, rfl, a, rfl, rfl⟩
    | succ i =>
      have e' : (ds.map Sl.fz)[i]? = some q := by simpa using e
      obtain ⟨o2, z1, z2⟩ := s.sl i q e'
      refine ⟨o2, by simpa using z1, ?_⟩
      cases q with
      | un => trivial
      | fz d => exact z2
      | ow k => obtain ⟨b, e, _⟩ := z2; simp at e
  · have hl := hr'.len
    match m', hl with
    | [o2], _ =>
      obtain ⟨hb, ex⟩ := hr_back1 hr1 ha hr' rfl rfl
      have hF : Ex F (minus H1 a) := fun b u q => by
        have ne : b ≠ a := fun z => by rw [z, g3] at q; cases q
        rw [minus_ne ne]; exact hr1.fh b u q
      cases o' with
      | fz d => exact q _ _ _ _ _ (f _ rfl) hb ex ov
      | ow kk =>
        obtain ⟨b, e1, e2⟩ := ov
        cases kk with
        | zero => simp at e1; subst e1; exact q (.ow k) _ _ _ _ (f _ rfl) hb ex ⟨a, ha, e2⟩
        | succ kk => simp at e1
      | fr u =>
        obtain ⟨b, ho2, e1, b1, b2, b3, b4, b5⟩ := ov
        have ne : b ≠ a := fun z => b3 (by simp [z])
        have b2' : H1 b = none := by
          have b2 : minus H1 a b = none := b2
          rw [minus_ne ne] at b2; exact b2
        exact q (.fr u) _ _ _ _ (f _ rfl) hb ex ⟨b, ho2, e1, b1, Evl.fresh_back hr1.fh b2', hr1.newOut b2', b4, b5⟩
theorem we_callO (h : WA x tA r m fun ws m1 => ∃ k o ds ws', ws = .ow k :: ws' ∧ m1[k]? = some o ∧ plainW ws' = some ds ∧ ds.length + 1 = n ∧ p (.ow 0 :: ds.map .fz) [o] (CO1 Ω m1 k) (fun _ => False)) : WE x (tCall (lift x.K n p) [] E tA) r m Ω := fun F eo oa σ B H Q s hr z =>
  h F eo oa σ B H _ s hr fun ws m1 vs B1 H1 ⟨k, o, ds, ws', ew, hk, e1, hn, hp⟩ hr1 ex1 rp => by
    subst ew
    rw [List.append_nil]
    cases rp with
    | cons r0 rp' => exact lift_own hr1 hk r0 (plain_rep rp' e1) hn (fun _ z => z) hp fun o v m' B' H' f hb ex ov => z _ _ _ _ _ f hb (ex1.trans ex) ov

def flatD : D → Bool
  | .non => true | .bl _ => true | .int _ => true | .str _ => true | .ty _ => true | .fn _ => true | _ => false
theorem flat_rep {K : PySem.W.Frag} {B B' : Hp} {d : D} {v : V} (h : flatD d = true) (r : Rep K B d v) : Rep K B' d v := by
  cases r <;> first | exact .non | exact .bl | exact .int | exact .str | exact .ty | exact .fn | exact absurd h Bool.false_ne_true
theorem flat_repL {K : PySem.W.Frag} {B B' : Hp} : ∀ {ds : List D} {vs : List V}, ds.all flatD = true → RepL K B ds vs → RepL K B' ds vs
  | [], _, _, .nil => .nil
  | d :: ds, _, h, .cons r t => by
    rw [List.all_cons, Bool.and_eq_true] at h
    exact .cons (flat_rep h.1 r) (flat_repL h.2 t)
theorem flat_repF {K : PySem.W.Frag} {B B' : Hp} : ∀ {ds : List (Str × D)} {vs : List (Str × V)}, (ds.all fun e => flatD e.2) = true → RepF K B ds vs → RepF K B' ds vs
  | [], _, _, .nil => .nil
  | (s, d) :: ds, _, h, .cons r t => by
    rw [List.all_cons, Bool.and_eq_true] at h
    exact .cons (flat_rep h.1 r) (flat_repF h.2 t)
def nowAll (m : List OO) : List W → Option (List D)
  | [] => some []
  | w :: ws => match now m w, nowAll m ws with
    | some d, some ds => some (d :: ds)
    | _, _ => none
theorem rep_nowAll {F B H : Hp} {oa : List Addr} (hr : HR x F m oa B H) : ∀ {ws : List W} {vs : List V} {ds : List D}, Paired (WR x.K oa B) ws vs → nowAll m ws = some ds → RepL x.K H ds vs
  | [], _, ds, .nil, h => by cases h; exact .nil
  | w :: ws, _, ds, .cons r t, h => by
    unfold nowAll at h
    cases h1 : now m w with
    | none => simp only [h1] at h; cases h
    | some d =>
      cases h2 : nowAll m ws with
      | none => simp only [h1, h2] at h; cases h
      | some es =>
        simp only [h1, h2] at h
        cases h
        exact .cons (rep_now hr h1 r) (rep_nowAll hr t h2)
def COL (Ω : OV → List OO → Prop) (m : List OO) : OV → List OO → Prop
  | .fz d, _ => flatD d = true ∧ Ω (.fz d) m
  | .fr (.l ds), _ => ds.all flatD = true ∧ Ω (.fr (.l ds)) m
  | .fr _, _ => False
  | .ow _, _ => True
theorem we_callL (h : WA x tA r m fun ws m1 => ∃ ds, nowAll m1 ws = some ds ∧ ds.length = n ∧ p (ds.map .fz) [] (COL Ω m1) (fun e => x.er e ∧ (e.2.all fun f => flatD f.2) = true)) : WE x (tCall (lift x.K n p) [] x.E tA) r m Ω := fun F eo oa σ B H Q s hr z =>
  h F eo oa σ B H _ s hr fun ws m1 vs B1 H1 ⟨ds, e1, hn, hp⟩ hr1 ex1 rp => by
    rw [List.append_nil]
    have rl := rep_nowAll hr1 rp e1
    have same : ∀ {H2 : Hp}, Ex H1 H2 → HR x F m1 oa B1 H2 := fun {H2} e => ⟨hr1.bh.trans e, hr1.fh.trans e, hr1.bb, hr1.nf, hr1.len, hr1.nd, fun k o q => let ⟨a, ho, f1, f2, f3, f4, f5⟩ := hr1.ow k o q; ⟨a, ho, f1, f2, f3, e _ _ f4, f5⟩⟩
    refine ⟨H1, H1, ds.map .fz, [], [], COL Ω m1, _, by rw [← rl.length]; exact hn, by rw [List.length_map]; exact hn, hp, rep_slots rl, hr_nil (Ex.refl _), fun C fs d gs B2 H2 a1 a2 a3 a4 a5 a6 a7 a8 a9 => ?_, fun o m' v B' H' f hr' ov => ?_⟩
    · exact eo C fs d gs B1 H2 a1.1 hr1.bb (hr1.bh.trans a4) (hr1.fh.trans a4) hr1.nf (Evl.fresh_back hr1.bh a7) (Evl.fresh_back hr1.fh a7) a8 (flat_repF a1.2 a9)
    · have e : Ex H1 H' := hr'.fh
      cases o with
      | fz d => exact z _ _ _ _ _ f.2 (same e) ex1 (flat_rep f.1 ov)
      | ow k => obtain ⟨a, q, _⟩ := ov; simp at q
      | fr o =>
        cases o with
        | l ds =>
          obtain ⟨a, ho, q1, b1, b2, b3, b4, b5⟩ := ov
          refine z (.fr (.l ds)) _ _ _ _ f.2 (same e) ex1 ⟨a, ho, q1, Evl.fresh_back hr1.bh b2, Evl.fresh_back hr1.fh b2, hr1.newOut b2, b4, ?_⟩
          cases ho <;> first | exact flat_repL f.1 b5 | exact b5.elim
        | _ => exact f.elim

theorem we_make (h : WA x tA r m fun ws m1 => ∃ ds, plainW ws = some ds ∧ ds.length + 1 = n ∧ p (.ow 0 :: ds.map .fz) [.i C []] (fun o m' => ∃ fs, m' = [.i C fs] ∧ o = .fz .non ∧ Ω (.fr (.i C fs)) m1) x.er) : WE x (tMake C (lift x.K n p) [] x.E tA) r m Ω := fun F eo oa σ B H Q s hr z =>
  h F eo oa σ B H _ s hr fun ws m1 vs B1 H1 ⟨ds, e1, hn, hp⟩ hr1 ex1 rp => by
    intro a dx na nd ne
    rw [List.append_nil]
    have rl := plain_rep rp e1
    have hrA := (hr1.drop (o := .own a) nd)
    have na' : upd H1 dx (.own a) a = none := by rw [upd_ne (Ne.symm ne)]; exact na
    have hrB := (hrA.drop (o := .ins C dx []) na')
    have hB : B1 a = none := Evl.fresh_back hr1.bh na
    refine ⟨minus (upd (upd H1 dx (.own a)) a (.ins C dx [])) a, B1, .ow 0 :: ds.map .fz, [.i C []], [a], _, x.er, by rw [List.length_cons, ← rl.length]; exact hn, by rw [List.length_cons, List.length_map]; exact hn, hp, ?_, hr_one hrB.bh hB upd_same ⟨rfl, .nil⟩, ?_, fun o' m' v B' H' f hr' ov => ?_⟩
    · have s := rep_slots rl
      refine ⟨by simpa using s.len, fun i q e => ?_⟩
      cases i with
      | zero => simp at e; subst e; exact ⟨_, rfl, a, rfl, rfl⟩
      | succ i =>
        have e' : (ds.map Sl.fz)[i]? = some q := by simpa using e
        obtain ⟨o2, z1, z2⟩ := s.sl i q e'
        refine ⟨o2, by simpa using z1, ?_⟩
        cases q with
        | un => trivial
        | fz d => exact z2
        | ow k => obtain ⟨b, e, _⟩ := z2; simp at e
    · have e1 : Ex H1 (minus (upd (upd H1 dx (.own a)) a (.ins C dx [])) a) := fun b u q => by
        rw [minus_ne (ne_of_none q na), upd_ne (ne_of_none q na), upd_ne (ne_of_none q nd)]; exact q
      exact (er_call eo hr1).up e1
    · obtain ⟨fs, em, eo', om⟩ := f
      subst em eo'
      have e1 : Ex H1 (minus (upd (upd H1 dx (.own a)) a (.ins C dx [])) a) := fun b u q => by
        rw [minus_ne (ne_of_none q na), upd_ne (ne_of_none q na), upd_ne (ne_of_none q nd)]; exact q
      cases ov
      refine ⟨rfl, ?_⟩
      obtain ⟨b, ho, f1, f2, f3, f4, f5⟩ := hr'.ow 0 _ rfl
      cases f1
      have eB : Ex B1 B' := hr'.bb
      have hb : HR x F m1 oa B' H' := by
        refine ⟨hr'.bh, hr1.fh.trans (e1.trans hr'.fh), hr1.bb.trans eB, fun b o q => ?_, hr1.len, hr1.nd, fun k o q => ?_⟩
        · rcases hr'.nf b o q with z | z
          · exact hr1.nf b o z
          · exact .inr (Evl.fresh_back hr1.fh (Evl.fresh_back e1 z))
        · obtain ⟨c, hc, g1, g2, g3, g4, g5⟩ := hr1.ow k o q
          refine ⟨c, hc, g1, ?_, g3, hr'.fh _ _ (e1 _ _ g4), g5.mono eB⟩
          cases qq : B' c with
          | none => rfl
          | some u =>
            rcases hr'.nf c u qq with z | z
            · have z : B1 c = some u := z
              rw [g2] at z; cases z
            · rw [e1 _ _ g4] at z; cases z
      exact z (.fr (.i C fs)) _ _ _ _ om hb (ex1.trans eB) ⟨a, ho, rfl, f2, Evl.fresh_back hr1.fh na, hr1.newOut na, f4, f5⟩
theorem we_make0 (h : WA x tA r m fun ws m1 => ∃ ds, plainW ws = some ds ∧ ds.length + 1 = n ∧ p (.ow 0 :: ds.map .fz) [.i C []] (fun o m' => ∃ fs, m' = [.i C fs] ∧ o = .fz .non ∧ Ω (.fr (.i C fs)) m1) (fun _ => False)) : WE x (tMake C (lift x.K n p) [] E tA) r m Ω := fun F eo oa σ B H Q s hr z =>
  h F eo oa σ B H _ s hr fun ws m1 vs B1 H1 ⟨ds, e1, hn, hp⟩ hr1 ex1 rp => by
    intro a dx na nd ne
    rw [List.append_nil]
    have rl := plain_rep rp e1
    have hrA := (hr1.drop (o := .own a) nd)
    have na' : upd H1 dx (.own a) a = none := by rw [upd_ne (Ne.symm ne)]; exact na
    have hrB := (hrA.drop (o := .ins C dx []) na')
    have hB : B1 a = none := Evl.fresh_back hr1.bh na
    refine ⟨minus (upd (upd H1 dx (.own a)) a (.ins C dx [])) a, B1, .ow 0 :: ds.map .fz, [.i C []], [a], _, fun _ => False, by rw [List.length_cons, ← rl.length]; exact hn, by rw [List.length_cons, List.length_map]; exact hn, hp, ?_, hr_one hrB.bh hB upd_same ⟨rfl, .nil⟩, ?_, fun o' m' v B' H' f hr' ov => ?_⟩
    · have s := rep_slots rl
      refine ⟨by simpa using s.len, fun i q e => ?_⟩
      cases i with
      | zero => simp at e; subst e; exact ⟨_, rfl, a, rfl, rfl⟩
      | succ i =>
        have e' : (ds.map Sl.fz)[i]? = some q := by simpa using e
        obtain ⟨o2, z1, z2⟩ := s.sl i q e'
        refine ⟨o2, by simpa using z1, ?_⟩
        cases q with
        | un => trivial
        | fz d => exact z2
        | ow k => obtain ⟨b, e, _⟩ := z2; simp at e
    · exact er_none fun _ z => z
    · obtain ⟨fs, em, eo', om⟩ := f
      subst em eo'
      have e1 : Ex H1 (minus (upd (upd H1 dx (.own a)) a (.ins C dx [])) a) := fun b u q => by
        rw [minus_ne (ne_of_none q na), upd_ne (ne_of_none q na), upd_ne (ne_of_none q nd)]; exact q
      cases ov
      refine ⟨rfl, ?_⟩
      obtain ⟨b, ho, f1, f2, f3, f4, f5⟩ := hr'.ow 0 _ rfl
      cases f1
      have eB : Ex B1 B' := hr'.bb
      have hb : HR x F m1 oa B' H' := by
        refine ⟨hr'.bh, hr1.fh.trans (e1.trans hr'.fh), hr1.bb.trans eB, fun b o q => ?_, hr1.len, hr1.nd, fun k o q => ?_⟩
        · rcases hr'.nf b o q with z | z
          · exact hr1.nf b o z
          · exact .inr (Evl.fresh_back hr1.fh (Evl.fresh_back e1 z))
        · obtain ⟨c, hc, g1, g2, g3, g4, g5⟩ := hr1.ow k o q
          refine ⟨c, hc, g1, ?_, g3, hr'.fh _ _ (e1 _ _ g4), g5.mono eB⟩
          cases qq : B' c with
          | none => rfl
          | some u =>
            rcases hr'.nf c u qq with z | z
            · have z : B1 c = some u := z
              rw [g2] at z; cases z
            · rw [e1 _ _ g4] at z; cases z
      exact z (.fr (.i C fs)) _ _ _ _ om hb (ex1.trans eB) ⟨a, ho, rfl, f2, Evl.fresh_back hr1.fh na, hr1.newOut na, f4, f5⟩
end
end DL

set_option maxRecDepth 100000
set_option maxHeartbeats 4000000
namespace DL
open PySem L2
open Evl (Ex)
variable {x : X} {r : List Sl} {m : List OO} {te ta tb tc : TE} {tt tu tv : TT} {tA : TA} {ts tz ty tw : TS} {d : DE} {i j k : Nat} {F B H : Hp} {oa : List Addr}
variable {Φ : W → List OO → Prop} {Ω : OV → List OO → Prop} {Θ : Bool → List OO → Prop} {Γ : List W → List OO → Prop}
theorem rep_lst {w : W} {v : V} {xs : List D} (hr : HR x F m oa B H) (h : now m w = some (.lst xs)) (rr : WR x.K oa B w v) : ∃ a vs, v = .ref a ∧ H a = some (.lst vs) ∧ RepL x.K B xs vs := by
  cases w with
  | fz d =>
    cases h
    cases rr with
    | lst hB rl => exact ⟨_, _, rfl, hr.bh _ _ hB, rl⟩
  | ow k =>
    obtain ⟨a, e1, rfl⟩ := rr
    cases e : m[k]? with
    | none => simp only [now, e] at h; cases h
    | some o =>
      simp only [now, e] at h
      cases o with
      | l ys =>
        cases h
        obtain ⟨a', ho, e2, _, _, e5, e6⟩ := hr.ow k _ e
        rw [e1] at e2; cases e2
        cases ho <;> first | exact e6.elim | exact ⟨_, _, rfl, e5, e6⟩
      | _ => cases h
theorem rep_dic {w : W} {v : V} {xs : List (Key × D)} (hr : HR x F m oa B H) (h : now m w = some (.dic xs)) (rr : WR x.K oa B w v) : ∃ a vs, v = .ref a ∧ H a = some (.dK vs) ∧ RepK x.K B xs vs := by
  cases w with
  | fz d =>
    cases h
    cases rr with
    | dic hB rl => exact ⟨_, _, rfl, hr.bh _ _ hB, rl⟩
  | ow k =>
    obtain ⟨a, e1, rfl⟩ := rr
    cases e : m[k]? with
    | none => simp only [now, e] at h; cases h
    | some o =>
      simp only [now, e] at h
      cases o with
      | d ys =>
        cases h
        obtain ⟨a', ho, e2, _, _, e5, e6⟩ := hr.ow k _ e
        rw [e1] at e2; cases e2
        cases ho <;> first | exact e6.elim | exact ⟨_, _, rfl, e5, e6⟩
      | _ => cases h
theorem rep_obj {w : W} {v : V} {C : Addr} {xs : List (Str × D)} (hr : HR x F m oa B H) (h : now m w = some (.obj C xs)) (rr : WR x.K oa B w v) : ∃ a dx vs, v = .ref a ∧ H a = some (.ins C dx vs) ∧ RepF x.K B xs vs := by
  cases w with
  | fz d =>
    cases h
    cases rr with
    | obj hB rl => exact ⟨_, _, _, rfl, hr.bh _ _ hB, rl⟩
  | ow k =>
    obtain ⟨a, e1, rfl⟩ := rr
    cases e : m[k]? with
    | none => simp only [now, e] at h; cases h
    | some o =>
      simp only [now, e] at h
      cases o with
      | i C' ys =>
        cases h
        obtain ⟨a', ho, e2, _, _, e5, e6⟩ := hr.ow k _ e
        rw [e1] at e2; cases e2
        cases ho <;> first | exact e6.elim | exact ⟨_, _, _, rfl, by rw [e6.1]; exact e5, e6.2⟩
      | _ => cases h
theorem outFr {p : Addr} {o : OO} {ho : HO} (hr : HR x F m oa B H) (hp : H p = none) (h : ORep x.K B o ho) : OutR x F oa B (upd H p ho) (.fr o) (.ref p) :=
  ⟨p, ho, rfl, Evl.fresh_back hr.bh hp, Evl.fresh_back hr.fh hp, hr.newOut hp, upd_same, h⟩

theorem op_gtS {a b : Str} (q : Ω (.fz (.bl (decide (b.cps.toList < a.cps.toList)))) m) : OpE x (fun x y H Q => ∃ i j, x = .str i ∧ y = .str j ∧ Q (.bl (decide (j.cps.toList < i.cps.toList))) H) (.fz (.str a)) (.fz (.str b)) m Ω := fun F oa v1 v2 B H Q hr r1 r2 z => by
  cases r1; cases r2
  exact ⟨a, b, rfl, rfl, z _ _ _ _ _ q hr (Ex.refl B) .bl⟩
theorem op_inS {a : Nat} {b : Str} (q : Ω (.fz (.bl (decide (a ∈ b.cps.toList)))) m) : OpE x (fun x y H Q => ∃ (c : Nat) (z : Str), x = .str ⟨#[c]⟩ ∧ y = .str z ∧ Q (.bl (decide (c ∈ z.cps.toList))) H) (.fz (.str ⟨#[a]⟩)) (.fz (.str b)) m Ω := fun F oa v1 v2 B H Q hr r1 r2 z => by
  cases r1; cases r2
  exact ⟨a, b, rfl, rfl, z _ _ _ _ _ q hr (Ex.refl B) .bl⟩
theorem op_notInS {a : Nat} {b : Str} (q : Ω (.fz (.bl (!decide (a ∈ b.cps.toList)))) m) : OpE x (fun x y H Q => ∃ (c : Nat) (z : Str), x = .str ⟨#[c]⟩ ∧ y = .str z ∧ Q (.bl (!decide (c ∈ z.cps.toList))) H) (.fz (.str ⟨#[a]⟩)) (.fz (.str b)) m Ω := fun F oa v1 v2 B H Q hr r1 r2 z => by
  cases r1; cases r2
  exact ⟨a, b, rfl, rfl, z _ _ _ _ _ q hr (Ex.refl B) .bl⟩
theorem op_catL {w1 w2 : W} {xs ys : List D} (h1 : now m w1 = some (.lst xs)) (h2 : now m w2 = some (.lst ys)) (hl : xs.length + ys.length ≤ sizeLine) (q : Ω (.fr (.l (xs ++ ys))) m) : OpE x rCat w1 w2 m Ω := fun F oa v1 v2 B H Q hr r1 r2 z => by
  obtain ⟨a, vs, rfl, ha, ra⟩ := rep_lst hr h1 r1
  obtain ⟨b, us, rfl, hb, rb⟩ := rep_lst hr h2 r2
  exact ⟨a, b, vs, us, rfl, rfl, ha, hb, by rw [← ra.length, ← rb.length]; exact hl, fun p hp => z _ _ _ _ _ q (hr.drop hp) (Ex.refl B) (outFr hr hp (ra.append rb))⟩
theorem RepL.rep {K : PySem.W.Frag} {B : Hp} {xs : List D} {vs : List V} (h : RepL K B xs vs) : ∀ n : Nat, RepL K B (List.replicate n xs).flatten (List.replicate n vs).flatten
  | 0 => .nil
  | n + 1 => by
    rw [List.replicate_succ, List.replicate_succ, List.flatten_cons, List.flatten_cons]
    exact h.append (RepL.rep h n)
theorem op_repL {w1 : W} {xs : List D} {n : Int} (h1 : now m w1 = some (.lst xs)) (hn : -(2 ^ 63) ≤ n ∧ n < 2 ^ 63) (hl : xs.length * n.toNat ≤ sizeLine) (q : Ω (.fr (.l (List.replicate n.toNat xs).flatten)) m) : OpE x rRep w1 (.fz (.int n)) m Ω := fun F oa v1 v2 B H Q hr r1 r2 z => by
  obtain ⟨a, vs, rfl, ha, ra⟩ := rep_lst hr h1 r1
  cases r2
  exact ⟨a, n, vs, rfl, rfl, ha, hn.1, hn.2, by rw [← ra.length]; exact hl, fun p hp => z _ _ _ _ _ q (hr.drop hp) (Ex.refl B) (outFr hr hp (ra.rep _))⟩
theorem at_rep {K : PySem.W.Frag} {xs : List D} {vs : List V} {n : Int} {a : D} (rl : RepL K B xs vs) (ha : atI xs n = some a) : ∃ v, atI vs n = some v ∧ Rep K B a v := by
  unfold atI ixN at ha
  rw [rl.length] at ha
  obtain ⟨j, e1, e2⟩ := Option.bind_eq_some_iff.mp ha
  obtain ⟨v, e3, rv⟩ := rl.get' e2
  exact ⟨v, by unfold atI ixN; rw [e1]; exact e3, rv⟩
theorem op_ix {w1 : W} {xs : List D} {a : D} {n : Int} (h1 : now m w1 = some (.lst xs)) (ha : atI xs n = some a) (q : Ω (.fz a) m) : OpE x (rIxL x.K) w1 (.fz (.int n)) m Ω := fun F oa v1 v2 B H Q hr r1 r2 z => by
  obtain ⟨b, vs, rfl, hb, rb⟩ := rep_lst hr h1 r1
  cases r2
  obtain ⟨v, e, rv⟩ := at_rep rb ha
  exact ⟨b, vs, n, v, rfl, rfl, Evl.sq_of hb, e, z _ _ _ _ _ q hr (Ex.refl B) rv⟩
theorem op_ixSS {z : Str} {n : Int} {c : Nat} (hl : z.length ≤ sizeLine) (ha : atI z.cps.toList n = some c) (q : Ω (.fz (.str ⟨#[c]⟩)) m) : OpE x rIxS (.fz (.str z)) (.fz (.int n)) m Ω := op_ixS rfl rfl hl ha q
/-- data that == compares -/
def pyL (f : D → Option PyData) : List D → Option (List PyData)
  | [] => some []
  | d :: ds => match f d, pyL f ds with
    | some p, some ps => some (p :: ps)
    | _, _ => none
mutual
def pyOf : D → Option PyData
  | .non => some .none
  | .bl b => some (.bool b)
  | .int i => some (.int i)
  | .str s => some (.str s)
  | .lst xs => (pyAll xs).map .list
  | .tup xs => (pyAll xs).map .tuple
  | _ => none
def pyAll : List D → Option (List PyData)
  | [] => some []
  | d :: ds => match pyOf d, pyAll ds with
    | some p, some ps => some (p :: ps)
    | _, _ => none
end
mutual
theorem dp_of {K : PySem.W.Frag} {H : Hp} : ∀ {d : D} {v : V} {p : PyData}, Rep K H d v → pyOf d = some p → Dp K H v p
  | .non, _, _, .non, h => by rw [pyOf] at h; cases h; exact .non
  | .bl b, _, _, .bl, h => by rw [pyOf] at h; cases h; exact .bl b
  | .int b, _, _, .int, h => by rw [pyOf] at h; cases h; exact .int b
  | .str b, _, _, .str, h => by rw [pyOf] at h; cases h; exact .str b
  | .lst xs, _, _, .lst hB rl, h => by
    rw [pyOf] at h
    obtain ⟨ps, e1, e2⟩ := Option.map_eq_some_iff.mp h
    subst e2
    exact .lst (Evl.sq_of hB) (dpAll_of rl e1)
  | .tup xs, _, _, .tup hB rl, h => by
    rw [pyOf] at h
    obtain ⟨ps, e1, e2⟩ := Option.map_eq_some_iff.mp h
    subst e2
    exact .tup hB (dpAll_of rl e1)
  | .dic _, _, _, _, h => by rw [pyOf] at h <;> first | cases h | (intros; intro z; cases z)
  | .obj _ _, _, _, _, h => by rw [pyOf] at h <;> first | cases h | (intros; intro z; cases z)
  | .scr _, _, _, _, h => by rw [pyOf] at h <;> first | cases h | (intros; intro z; cases z)
  | .fn _, _, _, _, h => by rw [pyOf] at h <;> first | cases h | (intros; intro z; cases z)
  | .ty _, _, _, _, h => by rw [pyOf] at h <;> first | cases h | (intros; intro z; cases z)
theorem dpAll_of {K : PySem.W.Frag} {H : Hp} : ∀ {ds : List D} {vs : List V} {ps : List PyData}, RepL K H ds vs → pyAll ds = some ps → DpAll K H vs ps
  | [], _, _, .nil, h => by rw [pyAll] at h; cases h; exact .nil
  | d :: ds, _, _, .cons r rl, h => by
    rw [pyAll] at h
    cases h1 : pyOf d with
    | none => simp only [h1] at h; cases h
    | some p =>
      cases h2 : pyAll ds with
      | none => simp only [h1, h2] at h; cases h
      | some ps => simp only [h1, h2] at h; cases h; exact .cons (dp_of r h1) (dpAll_of rl h2)
end
theorem op_eqP {w1 w2 : W} {d1 d2 : D} {p1 p2 : PyData} (h1 : now m w1 = some d1) (h2 : now m w2 = some d2) (e1 : pyOf d1 = some p1) (e2 : pyOf d2 = some p2) (s1 : SeqAt.shaped p1 = true) (s2 : SeqAt.shaped p2 = true)
    (q : Ω (.fz (.bl (PyData.eqv p1 p2))) m) : OpE x (rEqD x.K) w1 w2 m Ω := fun F oa v1 v2 B H Q hr r1 r2 z =>
  ⟨p1, p2, dp_of (rep_now hr h1 r1) e1, dp_of (rep_now hr h2 r2) e2, s1, s2, z _ _ _ _ _ q hr (Ex.refl B) .bl⟩
theorem op_neP {w1 w2 : W} {d1 d2 : D} {p1 p2 : PyData} (h1 : now m w1 = some d1) (h2 : now m w2 = some d2) (e1 : pyOf d1 = some p1) (e2 : pyOf d2 = some p2) (s1 : SeqAt.shaped p1 = true) (s2 : SeqAt.shaped p2 = true)
    (q : Ω (.fz (.bl (!PyData.eqv p1 p2))) m) : OpE x (rNeD x.K) w1 w2 m Ω := fun F oa v1 v2 B H Q hr r1 r2 z =>
  ⟨p1, p2, dp_of (rep_now hr h1 r1) e1, dp_of (rep_now hr h2 r2) e2, s1, s2, z _ _ _ _ _ q hr (Ex.refl B) .bl⟩

theorem we_fld {f : Str} (h : WV x ta r m fun w m1 => ∃ C fs v, now m1 w = some (.obj C fs) ∧ Cls x.K C ∧ NoAttr x.K C f ∧ fs.lookup f = some v ∧ Ω (.fz v) m1) : WE x (tFld x.K ta f) r m Ω := fun F eo oa σ B H Q s hr z =>
  h F eo oa σ B H _ s hr fun w m1 v B1 H1 ⟨C, fs, u, e1, c, n, l, q⟩ hr1 ex1 r1 => by
    obtain ⟨a, dx, vs, rfl, ha, rf⟩ := rep_obj hr1 e1 r1
    obtain ⟨y, e2, ry⟩ := (RepF.look rf).1 l
    exact ⟨a, C, dx, vs, y, rfl, ha, c, n, e2, z _ _ _ _ _ q hr1 ex1 ry⟩
theorem we_prop {C : Addr} {f : Str} {E : XK} (h : WV x ta r m fun w m1 => ∃ fs v, now m1 w = some (.obj C fs) ∧ fs.lookup f = some v ∧ Ω (.fz v) m1) : WE x (tProp C (getSp C f) [] E ta) r m Ω := fun F eo oa σ B H Q s hr z =>
  h F eo oa σ B H _ s hr fun w m1 v B1 H1 ⟨fs, u, e1, l, q⟩ hr1 ex1 r1 => by
    obtain ⟨a, dx, vs, rfl, ha, rf⟩ := rep_obj hr1 e1 r1
    obtain ⟨y, e2, ry⟩ := (RepF.look rf).1 l
    exact ⟨a, dx, vs, rfl, ha, a, dx, vs, y, rfl, ha, e2, z _ _ _ _ _ q hr1 ex1 ry⟩
def putD (f : Str) (v : D) : List (Str × D) → List (Str × D)
  | [] => [(f, v)]
  | (g, w) :: r => if g = f then (g, v) :: r else (g, w) :: putD f v r
theorem RepF.put {K : PySem.W.Frag} {f : Str} {dv : D} {v : V} (h : Rep K B dv v) : ∀ {ds : List (Str × D)} {vs : List (Str × V)}, RepF K B ds vs → RepF K B (putD f dv ds) (putF f v vs)
  | _, _, .nil => .cons h .nil
  | (g, _) :: _, _, .cons r t => by
    unfold putD putF
    by_cases e : g = f
    · rw [if_pos e, if_pos e]; exact .cons h t
    · rw [if_neg e, if_neg e]; exact .cons r (RepF.put h t)
/-- self.f = e, self owned -/
theorem ws_fld {f : Str} (h : WV x tb r m fun w m1 => ∃ dv, w = .fz dv ∧ WV x ta r m1 fun w2 m2 => ∃ k C fs, w2 = .ow k ∧ m2[k]? = some (.i C fs) ∧ Cls x.K C ∧ NoAttr x.K C f ∧ fs.length < 1000 ∧ d.nx r (m2.set k (.i C (putD f dv fs)))) :
    WS x (sFld x.K ta tb f) r m d := fun F eo oa0 more σ Bs B H D s hr hb ok =>
  h F eo _ σ B H _ s hr fun w m1 v B1 H1 ⟨dv, ew, h2⟩ hr1 e1 r1 => h2 F eo _ σ B1 H1 _ (s.mono e1) hr1 fun w2 m2 v2 B2 H2 ⟨k, C, fs, ew2, em, c, n, hl, q⟩ hr2 e2 r2 => by
    subst ew ew2
    obtain ⟨a, ha, rfl⟩ := r2
    obtain ⟨a', ho, f1, f2, f3, f4, f5⟩ := hr2.ow k _ em
    rw [ha] at f1; cases f1
    cases ho <;> first | exact f5.elim | skip
    rename_i C' dx gs
    obtain ⟨eC, rf⟩ := f5
    subst eC
    refine ⟨a, C, dx, gs, rfl, f4, c, n, by rw [← rf.length]; exact hl, ?_⟩
    exact ok.nx _ _ _ _ _ _ q (s.mono (e1.trans e2)) (hr2.put (o := .i C (putD f dv fs)) ha ⟨rfl, RepF.put (Rep.mono e2 r1) rf⟩) (hb.trans (e1.trans e2))
/-- xs[i] = e, xs owned -/
theorem ws_putL (h : WV x tc r m fun w m1 => ∃ dv, w = .fz dv ∧ WV x ta r m1 fun w1 m2 => ∃ k, w1 = .ow k ∧ WV x tb r m2 fun w2 m3 => ∃ n xs j, w2 = .fz (.int n) ∧ m3[k]? = some (.l xs) ∧ ixN xs.length n = some j ∧ d.nx r (m3.set k (.l (xs.set j dv)))) :
    WS x (tAsg tc (gSub ta tb rSetL)) r m d := fun F eo oa0 more σ Bs B H D s hr hb ok =>
  h F eo _ σ B H _ s hr fun w m1 v B1 H1 ⟨dv, ew, h2⟩ hr1 e1 r1 => h2 F eo _ σ B1 H1 _ (s.mono e1) hr1 fun w1 m2 v2 B2 H2 ⟨k, ew2, h3⟩ hr2 e2 r2 =>
    h3 F eo _ σ B2 H2 _ (s.mono (e1.trans e2)) hr2 fun w2 m3 v3 B3 H3 ⟨n, xs, j, ew3, em, hj, q⟩ hr3 e3 r3 => by
      subst ew ew2 ew3
      obtain ⟨a, ha, rfl⟩ := r2
      cases r3
      obtain ⟨a', ho, f1, f2, f3, f4, f5⟩ := hr3.ow k _ em
      rw [ha] at f1; cases f1
      cases ho <;> first | exact f5.elim | skip
      rename_i vs
      have rl : RepL x.K B3 xs vs := f5
      refine ⟨a, vs, n, j, rfl, rfl, f4, by rw [← rl.length]; exact hj, ?_⟩
      exact ok.nx _ _ _ _ _ _ q (s.mono ((e1.trans e2).trans e3)) (hr3.put (o := .l (xs.set j dv)) ha (RepL.set (Rep.mono (e2.trans e3) r1) j rl)) (hb.trans ((e1.trans e2).trans e3))
theorem ws_dead (h : False) : WS x tNever r m d := h.elim
theorem ws_deadL (h : False) : WS x tNever r m d := h.elim

theorem we_sl11 {rs : V → Option Int → Option Int → Hp → VK → Prop} (h : WV x ta r m fun w m1 => WV x tb r m1 fun w1 m2 => ∃ lo, w1 = .fz (.int lo) ∧ WV x tc r m2 fun w2 m3 => ∃ hi, w2 = .fz (.int hi) ∧
    ∀ (F : Hp) (oa : List Addr) (v : V) (B H : Hp) (Q : VK), HR x F m3 oa B H → WR x.K oa B w v → (∀ o m' v B' H', Ω o m' → HR x F m' oa B' H' → Ex B B' → OutR x F oa B' H' o v → Q v H') → rs v (some lo) (some hi) H Q) :
    WE x (tSl rs ta (tPart tb) (tPart tc)) r m Ω := fun F eo oa σ B H Q s hr z =>
  h F eo oa σ B H _ s hr fun w m1 v B1 H1 h1 hr1 e1 r1 => h1 F eo oa σ B1 H1 _ (s.mono e1) hr1 fun w1 m2 v1 B2 H2 ⟨lo, ew1, h2⟩ hr2 e2 r2 => by
    subst ew1
    cases r2
    exact ⟨lo, rfl, h2 F eo oa σ B2 H2 _ (s.mono (e1.trans e2)) hr2 fun w2 m3 v2 B3 H3 ⟨hi, ew2, h3⟩ hr3 e3 r3 => by
      subst ew2
      cases r3
      exact ⟨hi, rfl, h3 F oa v B3 H3 Q hr3 ((r1.mono e2).mono e3) fun o m' v B' H' f hr' e ov => z o m' v B' H' f hr' (((e1.trans e2).trans e3).trans e) ov⟩⟩
theorem we_sl01 {rs : V → Option Int → Option Int → Hp → VK → Prop} (h : WV x ta r m fun w m1 => WV x tc r m1 fun w2 m3 => ∃ hi, w2 = .fz (.int hi) ∧
    ∀ (F : Hp) (oa : List Addr) (v : V) (B H : Hp) (Q : VK), HR x F m3 oa B H → WR x.K oa B w v → (∀ o m' v B' H', Ω o m' → HR x F m' oa B' H' → Ex B B' → OutR x F oa B' H' o v → Q v H') → rs v none (some hi) H Q) :
    WE x (tSl rs ta tNoPart (tPart tc)) r m Ω := fun F eo oa σ B H Q s hr z =>
  h F eo oa σ B H _ s hr fun w m1 v B1 H1 h1 hr1 e1 r1 => h1 F eo oa σ B1 H1 _ (s.mono e1) hr1 fun w2 m3 v2 B3 H3 ⟨hi, ew2, h3⟩ hr3 e3 r3 => by
    subst ew2
    cases r3
    exact ⟨hi, rfl, h3 F oa v B3 H3 Q hr3 (r1.mono e3) fun o m' v B' H' f hr' e ov => z o m' v B' H' f hr' ((e1.trans e3).trans e) ov⟩
theorem we_sl10 {rs : V → Option Int → Option Int → Hp → VK → Prop} (h : WV x ta r m fun w m1 => WV x tb r m1 fun w2 m3 => ∃ lo, w2 = .fz (.int lo) ∧
    ∀ (F : Hp) (oa : List Addr) (v : V) (B H : Hp) (Q : VK), HR x F m3 oa B H → WR x.K oa B w v → (∀ o m' v B' H', Ω o m' → HR x F m' oa B' H' → Ex B B' → OutR x F oa B' H' o v → Q v H') → rs v (some lo) none H Q) :
    WE x (tSl rs ta (tPart tb) tNoPart) r m Ω := fun F eo oa σ B H Q s hr z =>
  h F eo oa σ B H _ s hr fun w m1 v B1 H1 h1 hr1 e1 r1 => h1 F eo oa σ B1 H1 _ (s.mono e1) hr1 fun w2 m3 v2 B3 H3 ⟨hi, ew2, h3⟩ hr3 e3 r3 => by
    subst ew2
    cases r3
    exact ⟨hi, rfl, h3 F oa v B3 H3 Q hr3 (r1.mono e3) fun o m' v B' H' f hr' e ov => z o m' v B' H' f hr' ((e1.trans e3).trans e) ov⟩
def cutD {α : Type} (xs : List α) (lo hi : Option Int) : List α := (xs.drop (HT.sIx xs.length 0 lo)).take (HT.sIx xs.length xs.length hi - HT.sIx xs.length 0 lo)
theorem cut_rep {K : PySem.W.Frag} {xs : List D} {vs : List V} (rl : RepL K B xs vs) (lo hi : Option Int) : RepL K B (cutD xs lo hi) (cutV vs lo hi) := by
  unfold cutD cutV
  rw [rl.length]
  exact (rl.drop _).take _
theorem slS {z : Str} {lo hi : Option Int} (hl : z.length ≤ sizeLine) (q : Ω (.fz (.str (cutS z lo hi))) m) :
    ∀ (F : Hp) (oa : List Addr) (v : V) (B H : Hp) (Q : VK), HR x F m oa B H → WR x.K oa B (.fz (.str z)) v → (∀ o m' v B' H', Ω o m' → HR x F m' oa B' H' → Ex B B' → OutR x F oa B' H' o v → Q v H') → rSlS v lo hi H Q := fun F oa v B H Q hr r1 k => by
  cases r1
  exact ⟨z, rfl, hl, k _ _ _ _ _ q hr (Ex.refl B) .str⟩
theorem slL {w : W} {xs : List D} {lo hi : Option Int} (h : now m w = some (.lst xs)) (q : Ω (.fr (.l (cutD xs lo hi))) m) :
    ∀ (F : Hp) (oa : List Addr) (v : V) (B H : Hp) (Q : VK), HR x F m oa B H → WR x.K oa B w v → (∀ o m' v B' H', Ω o m' → HR x F m' oa B' H' → Ex B B' → OutR x F oa B' H' o v → Q v H') → rSlL x.K v lo hi H Q := fun F oa v B H Q hr r1 k => by
  obtain ⟨a, vs, rfl, ha, rl⟩ := rep_lst hr h r1
  exact ⟨a, vs, rfl, Evl.sq_of ha, fun p hp => k _ _ _ _ _ q (hr.drop hp) (Ex.refl B) (outFr hr hp (cut_rep rl lo hi))⟩
theorem slScr {ns : List Int} {lo hi : Option Int} (q : Ω (.fr (.l ((cutD ns lo hi).map D.int))) m) :
    ∀ (F : Hp) (oa : List Addr) (v : V) (B H : Hp) (Q : VK), HR x F m oa B H → WR x.K oa B (.fz (.scr ns)) v → (∀ o m' v B' H', Ω o m' → HR x F m' oa B' H' → Ex B B' → OutR x F oa B' H' o v → Q v H') → rSlL x.K v lo hi H Q := fun F oa v B H Q hr r1 k => by
  cases r1 with
  | scr hB =>
    refine ⟨_, _, rfl, Evl.ex_l hr.bh hB, fun p hp => k _ _ _ _ _ q (hr.drop hp) (Ex.refl B) (outFr hr hp ?_)⟩
    have e : cutV (ns.map V.int) lo hi = (cutD ns lo hi).map V.int := by
      unfold cutV cutD
      rw [List.length_map, List.map_take, List.map_drop]
    rw [e]
    exact RepL.ints' _
theorem slT {xs : List D} {lo hi : Option Int} (hn : ¬ (HT.sIx xs.length 0 lo = 0 ∧ HT.sIx xs.length xs.length hi = xs.length)) (q : Ω (.fz (.tup (cutD xs lo hi))) m) :
    ∀ (F : Hp) (oa : List Addr) (v : V) (B H : Hp) (Q : VK), HR x F m oa B H → WR x.K oa B (.fz (.tup xs)) v → (∀ o m' v B' H', Ω o m' → HR x F m' oa B' H' → Ex B B' → OutR x F oa B' H' o v → Q v H') → rSlT x.K v lo hi H Q := fun F oa v B H Q hr r1 k => by
  cases r1 with
  | tup hB rl =>
    refine ⟨_, _, rfl, Evl.ex_t hr.bh hB, by rw [← rl.length]; exact hn, fun p hp => ?_⟩
    have hb := Evl.fresh_back hr.bh hp
    exact k _ _ _ _ _ q (hr.lay hp) (Ex.new hb) (.tup (Evl.st_of upd_same) ((cut_rep rl lo hi).mono (Ex.new hb)))

theorem we_m1 {rc : V → List V → Hp → VK → Prop} (h : WV x ta r m fun w m1 => ∃ z, w = .fz (.str z) ∧ WV x tb r m1 fun w2 m2 => ∀ (F : Hp) (oa : List Addr) (v2 : V) (B H : Hp) (Q : VK), HR x F m2 oa B H → WR x.K oa B w2 v2 →
    (∀ o m' v B' H', Ω o m' → HR x F m' oa B' H' → Ex B B' → OutR x F oa B' H' o v → Q v H') → rc (.str z) [v2] H Q) : WE x (tM1 rc ta tb) r m Ω := fun F eo oa σ B H Q s hr z =>
  h F eo oa σ B H _ s hr fun w m1 v B1 H1 ⟨y, ew, h1⟩ hr1 e1 r1 => by
    subst ew
    cases r1
    exact ⟨⟨y, rfl⟩, h1 F eo oa σ B1 H1 _ (s.mono e1) hr1 fun w2 m2 v2 B2 H2 h2 hr2 e2 r2 => h2 F oa v2 B2 H2 Q hr2 r2 fun o m' v B' H' f hr' e ov => z o m' v B' H' f hr' ((e1.trans e2).trans e) ov⟩
abbrev rJoin (K : PySem.W.Frag) : V → List V → Hp → VK → Prop := fun x xs H Q => ∃ a p, ∃ ys : List Str, x = .str a ∧ xs = [.ref p] ∧ (SqL K H p (ys.map V.str) ∨ SqT K H p (ys.map V.str)) ∧ (ys.map (·.length)).sum + ys.length * a.length ≤ 16777216 ∧ Q (.str (Txt.join a ys)) H
abbrev rSIndex : V → List V → Hp → VK → Prop := fun x xs H Q => ∃ a b i rest, x = .str a ∧ xs = [.str b] ∧ Builtin.Str.occurrences a b 0 a.length 1 = i :: rest ∧ Q (.int (i : Nat)) H
theorem mJoin {z : Str} {w : W} {ys : List Str} (h : now m w = some (.lst (ys.map D.str))) (hl : (ys.map (·.length)).sum + ys.length * z.length ≤ 16777216) (q : Ω (.fz (.str (Txt.join z ys))) m) :
    ∀ (F : Hp) (oa : List Addr) (v2 : V) (B H : Hp) (Q : VK), HR x F m oa B H → WR x.K oa B w v2 → (∀ o m' v B' H', Ω o m' → HR x F m' oa B' H' → Ex B B' → OutR x F oa B' H' o v → Q v H') → rJoin x.K (.str z) [v2] H Q := fun F oa v2 B H Q hr r1 k => by
  obtain ⟨a, vs, rfl, ha, rl⟩ := rep_lst hr h r1
  rw [rl.strs] at ha
  exact ⟨z, a, ys, rfl, rfl, .inl (Evl.sq_of ha), hl, k _ _ _ _ _ q hr (Ex.refl B) .str⟩
theorem mSIndex {z y : Str} {n : Nat} {rest : List Nat} (h : Builtin.Str.occurrences z y 0 z.length 1 = n :: rest) (q : Ω (.fz (.int n)) m) :
    ∀ (F : Hp) (oa : List Addr) (v2 : V) (B H : Hp) (Q : VK), HR x F m oa B H → WR x.K oa B (.fz (.str y)) v2 → (∀ o m' v B' H', Ω o m' → HR x F m' oa B' H' → Ex B B' → OutR x F oa B' H' o v → Q v H') → rSIndex (.str z) [v2] H Q := fun F oa v2 B H Q hr r1 k => by
  cases r1
  exact ⟨z, y, n, rest, rfl, rfl, h, k _ _ _ _ _ q hr (Ex.refl B) .int⟩
end DL

set_option maxRecDepth 100000
set_option maxHeartbeats 4000000
namespace L2
open PySem PySem.Spec PyProof.Rows
def tCallR (sp : Sp) (E : XK) (t : TA) : TE := fun σ H Q => t σ H fun vs H1 => sp vs H1 Q E
def tCallS1 (K : PySem.W.Frag) (sp : Sp) (E : XK) (te : TE) : TE := fun σ H Q => te σ H fun y H1 => ∃ a xs, y = V.ref a ∧ (SqT K H1 a xs ∨ SqL K H1 a xs) ∧ sp xs H1 Q E
section
variable {X : Cx} {CX : CXT} {k : Nat} {f : Addr} {sp : Sp} {E : XK} {x : Str} {e : Expr} {es : List Expr} {t : TA} {p pos : Pos}
theorem pe_callR (F : FnR X.prog X.w X.K X.mg X.base CX k f sp) (hr : Room k X.A) (hg : Gl X x) (hm : X.mg x = some (.ref f)) (hk : PySem.W.keepIn X.K (.ref f) = true) (hx : Passes CX X E) (ha : PA X (e :: es) t) (hd : (x == ("__debug__" : Str)) = false := by decide)
    (he : starEach (e :: es) X.env = (false, eval e X.env) :: starEach es X.env := by rfl) (hpl : (backTo pos (starEach es X.env)).any (·.1) = false := by rfl) :
    PE X (.Call (.Name x p) (e :: es) [] pos) (tCallR sp E t) := by
  refine ⟨fun pins s σ H Q I h => ?_⟩
  refine wpAny_Call_Name_kw (ld_glob I hg hm ?_ hd)
  refine PySem.W.callWith_K (h₀ := X.base) I.ok.mod.kin hk (thn (ha.run pos pins s σ H _ I h) fun us s1 ⟨vs, H1, I1, r, q⟩ => ⟨I1.kIn, ?_⟩) he hpl
  exact wpAny_call (run_fnR F hr hx I1 r q)
end
end L2
namespace DL
open PySem L2
open Evl (Ex)
variable {x : X} {r : List Sl} {m : List OO} {te ta tb tc tq : TE} {tt tu tv : TT} {tA : TA} {ts tz ty tw : TS} {d : DE} {i j k n : Nat} {F B H : Hp} {oa : List Addr} {g : TG} {wi : TI} {E : XK} {p : DSp} {C : Addr}
variable {Φ : W → List OO → Prop} {Ω : OV → List OO → Prop} {Θ : Bool → List OO → Prop} {Γ : List W → List OO → Prop} {Λ : Nat → (Nat → D) → List OO → Prop}

def CbE (x : X) (rc : List V → Hp → VK → Prop) (ws : List W) (m : List OO) (Ω : OV → List OO → Prop) : Prop := ∀ (F : Hp) (oa : List Addr) (vs : List V) (B H : Hp) (Q : VK), HR x F m oa B H → Paired (WR x.K oa B) ws vs →
  (∀ o m' v B' H', Ω o m' → HR x F m' oa B' H' → Ex B B' → OutR x F oa B' H' o v → Q v H') → rc vs H Q
theorem we_cbE {rc : List V → Hp → VK → Prop} (h : WA x tA r m fun ws m1 => CbE x rc ws m1 Ω) : WE x (tCB rc tA) r m Ω := we_cb h
abbrev rLenS : List V → Hp → VK → Prop := fun xs H Q => ∃ z, xs = [.str z] ∧ z.length ≤ sizeLine ∧ Q (.int z.length) H
abbrev rLenQ (K : PySem.W.Frag) : List V → Hp → VK → Prop := fun xs H Q => ∃ p ys, xs = [.ref p] ∧ (SqL K H p ys ∨ SqT K H p ys) ∧ Q (.int ys.length) H
abbrev rMax2 : List V → Hp → VK → Prop := fun xs H Q => ∃ i j, xs = [.int i, .int j] ∧ Q (.int (if j > i then j else i)) H
abbrev rMin2 : List V → Hp → VK → Prop := fun xs H Q => ∃ i j, xs = [.int i, .int j] ∧ Q (.int (if j < i then j else i)) H
abbrev rInt1 : List V → Hp → VK → Prop := fun xs H Q => (∃ i, xs = [.int i] ∧ Q (.int i) H) ∨ ∃ k, xs = [.bl k] ∧ Q (.int (if k then 1 else 0)) H
theorem cb_lenS {z : Str} (hl : z.length ≤ sizeLine) (q : Ω (.fz (.int z.length)) m) : CbE x rLenS [.fz (.str z)] m Ω := fun F oa vs B H Q hr rp k => by
  cases rp with
  | cons a b => cases a; cases b; exact ⟨z, rfl, hl, k _ _ _ _ _ q hr (Ex.refl B) .int⟩
theorem cb_lenL {w : W} {xs : List D} (h : now m w = some (.lst xs)) (q : Ω (.fz (.int xs.length)) m) : CbE x (rLenQ x.K) [w] m Ω := fun F oa vs B H Q hr rp k => by
  cases rp with
  | cons a b =>
    cases b
    obtain ⟨p, us, rfl, ha, rl⟩ := rep_lst hr h a
    refine ⟨p, us, rfl, .inl (Evl.sq_of ha), k _ _ _ _ _ q hr (Ex.refl B) ?_⟩
    rw [← rl.length]; exact .int
theorem cb_lenT {xs : List D} (q : Ω (.fz (.int xs.length)) m) : CbE x (rLenQ x.K) [.fz (.tup xs)] m Ω := fun F oa vs B H Q hr rp k => by
  cases rp with
  | cons a b =>
    cases b
    cases a with
    | tup hB rl =>
      refine ⟨_, _, rfl, .inr (Evl.ex_t hr.bh hB), k _ _ _ _ _ q hr (Ex.refl B) ?_⟩
      rw [← rl.length]; exact .int
theorem cb_lenScr {xs : List Int} (q : Ω (.fz (.int xs.length)) m) : CbE x (rLenQ x.K) [.fz (.scr xs)] m Ω := fun F oa vs B H Q hr rp k => by
  cases rp with
  | cons a b =>
    cases b
    cases a with
    | scr hB =>
      refine ⟨_, _, rfl, .inl (Evl.ex_l hr.bh hB), k _ _ _ _ _ q hr (Ex.refl B) ?_⟩
      rw [List.length_map]; exact .int
theorem cb_max2 {a b : Int} (q : Ω (.fz (.int (if b > a then b else a))) m) : CbE x rMax2 [.fz (.int a), .fz (.int b)] m Ω := fun F oa vs B H Q hr rp k => by
  cases rp with
  | cons h1 h2 => cases h2 with
    | cons h2 h3 => cases h1; cases h2; cases h3; exact ⟨a, b, rfl, k _ _ _ _ _ q hr (Ex.refl B) .int⟩
theorem cb_min2 {a b : Int} (q : Ω (.fz (.int (if b < a then b else a))) m) : CbE x rMin2 [.fz (.int a), .fz (.int b)] m Ω := fun F oa vs B H Q hr rp k => by
  cases rp with
  | cons h1 h2 => cases h2 with
    | cons h2 h3 => cases h1; cases h2; cases h3; exact ⟨a, b, rfl, k _ _ _ _ _ q hr (Ex.refl B) .int⟩
theorem cb_intB {b : Bool} (q : Ω (.fz (.int (if b then 1 else 0))) m) : CbE x rInt1 [.fz (.bl b)] m Ω := fun F oa vs B H Q hr rp k => by
  cases rp with
  | cons h1 h2 => cases h1; cases h2; exact .inr ⟨b, rfl, k _ _ _ _ _ q hr (Ex.refl B) .int⟩
theorem cb_any {w : W} {bs : List Bool} (h : now m w = some (.lst (bs.map D.bl))) (q : Ω (.fz (.bl (bs.any id))) m) : CbE x (rAny x.K) [w] m Ω := fun F oa vs B H Q hr rp k => by
  cases rp with
  | cons a b =>
    cases b
    obtain ⟨p, us, rfl, ha, rl⟩ := rep_lst hr h a
    rw [rl.bls] at ha
    exact ⟨p, bs, rfl, Evl.sq_of ha, k _ _ _ _ _ q hr (Ex.refl B) .bl⟩
theorem cb_all {w : W} {bs : List Bool} (h : now m w = some (.lst (bs.map D.bl))) (q : Ω (.fz (.bl (bs.all id))) m) : CbE x (rAll x.K) [w] m Ω := fun F oa vs B H Q hr rp k => by
  cases rp with
  | cons a b =>
    cases b
    obtain ⟨p, us, rfl, ha, rl⟩ := rep_lst hr h a
    rw [rl.bls] at ha
    exact ⟨p, bs, rfl, Evl.sq_of ha, k _ _ _ _ _ q hr (Ex.refl B) .bl⟩
theorem cb_sum {w : W} {ns : List Int} (h : now m w = some (.lst (ns.map D.int))) (q : Ω (.fz (.int ns.sum)) m) : CbE x (rSum x.K) [w] m Ω := fun F oa vs B H Q hr rp k => by
  cases rp with
  | cons a b =>
    cases b
    obtain ⟨p, us, rfl, ha, rl⟩ := rep_lst hr h a
    rw [rl.ints] at ha
    exact ⟨p, ns, rfl, Evl.sq_of ha, k _ _ _ _ _ q hr (Ex.refl B) .int⟩
theorem cb_maxS {z : Str} (hne : 0 < z.cps.size) (q : ∀ c, c ∈ z.cps.toList → (∀ d ∈ z.cps.toList, d ≤ c) → Ω (.fz (.str ⟨#[c]⟩)) m) : CbE x rMaxS [.fz (.str z)] m Ω := fun F oa vs B H Q hr rp k => by
  cases rp with
  | cons h1 h2 => cases h1; cases h2; exact ⟨z, rfl, hne, fun c h1 h2 => k _ _ _ _ _ (q c h1 h2) hr (Ex.refl B) .str⟩
/-- what isinstance asks of an own class -/
structure IsiC (K : PySem.W.Frag) (C : Addr) : Prop where
  cl : Cls K C
  ca : PySem.W.findIn K (.ref C) "__class__" = some (some (.builtin "object.__class__"))
  cn : PySem.W.specialIn K (.builtin "object.__class__") "__get__" = some (some (.builtin "getset_descriptor.__get__"))
  ct : PySem.W.takesIn K (.builtin "object.__class__") = some true
  cm : PySem.W.mroIn K C (.type "object") = some true
inductive TyD (K : PySem.W.Frag) : D → Value → Prop
  | non : TyD K .non (.type "NoneType")
  | bl {b : Bool} : TyD K (.bl b) (.type "bool")
  | int {i : Int} : TyD K (.int i) (.type "int")
  | str {s : Str} : TyD K (.str s) (.type "str")
  | lst {xs : List D} : TyD K (.lst xs) (.type "list")
  | tup {xs : List D} : TyD K (.tup xs) (.type "tuple")
  | dic {xs : List (Key × D)} : TyD K (.dic xs) (.type "dict")
  | obj {C : Addr} {fs : List (Str × D)} : IsiC K C → TyD K (.obj C fs) (.ref C)
theorem tyd_x {K : PySem.W.Frag} {H : Hp} {dv : D} {v : V} {t : Value} (rr : Rep K H dv v) (h : TyD K dv t) : TyX K H v t := by
  cases h with
  | non => cases rr; exact .base .non
  | bl => cases rr; exact .base (.bl _)
  | int => cases rr; exact .base (.int _)
  | str => cases rr; exact .base (.str _)
  | lst => cases rr with
    | lst hB rl => exact .base (.lst hB)
  | tup => cases rr with
    | tup hB rl =>
      rcases hB with (h | ⟨o, h⟩) | ⟨o, its, nn, h1, h2, _⟩
      · exact .base (.tup h)
      · exact .fTuple h
      · exact .kTuple h1 h2
  | dic => cases rr with
    | dic hB rl => exact .base (.dK hB)
  | obj c => cases rr with
    | obj hB rl => exact .base (.ins hB c.cl c.ca c.cn c.ct c.cm)
inductive ClD : D → Value → Prop
  | ty {n : String} : ClD (.ty n) (.type n)
  | own {C : Addr} : ClD (.fn C) (.ref C)
theorem cb_isi {w : W} {dv cd : D} {t u : Value} {b : Bool} (h : now m w = some dv) (ht : TyD x.K dv t) (hc : ClD cd u) (hk : PySem.W.kitOne x.K t u = some b) (q : Ω (.fz (.bl b)) m) : CbE x (rIsi x.K) [w, .fz cd] m Ω := fun F oa vs B H Q hr rp k => by
  cases rp with
  | cons h1 h2 => cases h2 with
    | cons h2 h3 =>
      cases h3
      have rv := rep_now hr h h1
      cases hc with
      | ty => cases h2; exact ⟨_, _, t, _, b, rfl, .ty _, tyd_x rv ht, hk, k _ _ _ _ _ q hr (Ex.refl B) .bl⟩
      | own => cases h2; exact ⟨_, _, t, _, b, rfl, .own _, tyd_x rv ht, hk, k _ _ _ _ _ q hr (Ex.refl B) .bl⟩

theorem lift_none {F B1 H1 : Hp} {m1 : List OO} {ds : List D} {vs : List V} {Q : VK} (hr1 : HR x F m1 oa B1 H1) (rl : RepL x.K B1 ds vs) (hn : ds.length = n)
    (hp : p (ds.map .fz) [] (CO Ω m1) (fun _ => False)) (q : ∀ o v B' H', Ω o m1 → HR x F m1 oa B' H' → Ex B1 B' → OutR x F oa B' H' o v → Q v H') : lift x.K n p vs H1 Q E :=
  lift_plain hr1 rl hn (er_none fun _ z => z) hp q
theorem op_ownEq {fs gs : List (Str × D)} (hp : p [.fz (.obj C fs), .fz (.obj C gs)] [] (CO Ω m) (fun _ => False)) : OpE x (rOwnEq C (lift x.K 2 p) E) (.fz (.obj C fs)) (.fz (.obj C gs)) m Ω := fun F oa v1 v2 B H Q hr r1 r2 z => by
  have q : lift x.K 2 p [v1, v2] H Q E := lift_none (ds := [.obj C fs, .obj C gs]) hr (.cons r1 (.cons r2 .nil)) rfl hp fun o v B' H' f hr' e ov => z _ _ _ _ _ f hr' e ov
  cases r1 with
  | obj h1 f1 => cases r2 with
    | obj h2 f2 => exact ⟨_, _, _, _, _, _, rfl, rfl, hr.bh _ _ h1, hr.bh _ _ h2, q⟩
theorem op_ownNe {fs gs : List (Str × D)} (hp : p [.fz (.obj C fs), .fz (.obj C gs)] [] (CO (fun o m' => ∃ c, o = .fz (.bl c) ∧ Ω (.fz (.bl (!c))) m') m) (fun _ => False)) : OpE x (rOwnNe C (lift x.K 2 p) E) (.fz (.obj C fs)) (.fz (.obj C gs)) m Ω := fun F oa v1 v2 B H Q hr r1 r2 z => by
  have q : lift x.K 2 p [v1, v2] H (fun v H' => ∃ c, v = .bl c ∧ Q (.bl (!c)) H') E := lift_none (ds := [.obj C fs, .obj C gs]) hr (.cons r1 (.cons r2 .nil)) rfl hp fun o v B' H' ⟨c, e1, f⟩ hr' e ov => by
    subst e1
    cases ov
    exact ⟨c, rfl, z _ _ _ _ _ f hr' e .bl⟩
  cases r1 with
  | obj h1 f1 => cases r2 with
    | obj h2 f2 => exact ⟨_, _, _, _, _, _, rfl, rfl, hr.bh _ _ h1, hr.bh _ _ h2, q⟩
theorem cb_lenOwn {fs : List (Str × D)} (hp : p [.fz (.obj C fs)] [] (CO (fun o m' => ∃ c : Int, o = .fz (.int c) ∧ (0 ≤ c ∧ c < 2 ^ 63) ∧ Ω (.fz (.int c)) m') m) (fun _ => False)) : CbE x (rLenOwn C (lift x.K 1 p) E) [.fz (.obj C fs)] m Ω := fun F oa vs B H Q hr rp z => by
  cases rp with
  | cons r1 r2 =>
    cases r2
    have q : lift x.K 1 p [_] H (fun v H' => ∃ i : Int, v = .int i ∧ (0 ≤ i ∧ i < 2 ^ 63) ∧ Q v H') E := lift_none (ds := [.obj C fs]) hr (.cons r1 .nil) rfl hp fun o v B' H' ⟨c, e1, hc, f⟩ hr' e ov => by
      subst e1
      cases ov
      exact ⟨c, rfl, hc, z _ _ _ _ _ f hr' e .int⟩
    cases r1 with
    | obj h1 f1 => exact ⟨_, _, _, rfl, hr.bh _ _ h1, q⟩
theorem cb_reprOwn {fs : List (Str × D)} (hp : p [.fz (.obj C fs)] [] (CO (fun o m' => ∃ c : Str, o = .fz (.str c) ∧ Ω (.fz (.str c)) m') m) (fun _ => False)) : CbE x (rReprOwn C (lift x.K 1 p) E) [.fz (.obj C fs)] m Ω := fun F oa vs B H Q hr rp z => by
  cases rp with
  | cons r1 r2 =>
    cases r2
    have q : lift x.K 1 p [_] H (fun v H' => ∃ i : Str, v = .str i ∧ Q v H') E := lift_none (ds := [.obj C fs]) hr (.cons r1 .nil) rfl hp fun o v B' H' ⟨c, e1, f⟩ hr' e ov => by
      subst e1
      cases ov
      exact ⟨c, rfl, z _ _ _ _ _ f hr' e .str⟩
    cases r1 with
    | obj h1 f1 => exact ⟨_, _, _, rfl, hr.bh _ _ h1, q⟩

def spStar (K : PySem.W.Frag) (n : Nat) (p : DSp) : Sp := fun vs H Q E => ∃ ws rest, vs = ws ++ rest ∧ ws.length = n ∧ rest.length ≤ sizeLine ∧ ∀ q, H q = none → lift K (n + 1) p (ws ++ [V.ref q]) (upd H q (.tup rest)) Q E
theorem star_plain {F B1 H1 : Hp} {m1 : List OO} {E' : XK} {Ψ : Er → Prop} {ds1 ds2 : List D} {vs : List V} {Q : VK} (hr1 : HR x F m1 oa B1 H1) (rl : RepL x.K B1 (ds1 ++ ds2) vs) (hn : ds1.length = n) (hl : ds2.length ≤ sizeLine)
    (eo : ∀ B2 H2, Ex B1 B2 → HR x F m1 oa B2 H2 → ErOk ⟨x.K, B2, E', Ψ⟩ H2)
    (hp : p (ds1.map .fz ++ [.fz (.tup ds2)]) [] (CO Ω m1) Ψ) (q : ∀ o v B' H', Ω o m1 → HR x F m1 oa B' H' → Ex B1 B' → OutR x F oa B' H' o v → Q v H') : spStar x.K n p vs H1 Q E' := by
  have hvl := rl.length
  rw [List.length_append] at hvl
  have r1 : RepL x.K B1 ds1 (vs.take n) := by
    have := rl.take n
    rw [← hn, List.take_left] at this
    rw [← hn]; exact this
  have r2 : RepL x.K B1 ds2 (vs.drop n) := by
    have := rl.drop n
    rw [← hn, List.drop_left] at this
    rw [← hn]; exact this
  refine ⟨vs.take n, vs.drop n, (List.take_append_drop n vs).symm, by rw [List.length_take]; omega, by rw [← r2.length]; exact hl, fun a ha => ?_⟩
  have hb := Evl.fresh_back hr1.bh ha
  have hr2 := hr1.lay (o := .tup (vs.drop n)) ha
  have e := Ex.new (o := .tup (vs.drop n)) hb
  refine lift_plain (ds := ds1 ++ [.tup ds2]) hr2 ((r1.mono e).append (.cons (.tup (Evl.st_of upd_same) (r2.mono e)) .nil)) (by rw [List.length_append, hn] <;> rfl) (eo _ _ e hr2) (by rw [List.map_append]; exact hp) fun o v B' H' f hr' ex ov => q o v B' H' f hr' (e.trans ex) ov
theorem we_callR (h : WA x tA r m fun ws m1 => ∃ ds1 ds2, plainW ws = some (ds1 ++ ds2) ∧ ds1.length = n ∧ ds2.length ≤ sizeLine ∧ p (ds1.map .fz ++ [.fz (.tup ds2)]) [] (CO Ω m1) x.er) : WE x (tCallR (spStar x.K n p) x.E tA) r m Ω := fun F eo oa σ B H Q s hr z =>
  h F eo oa σ B H _ s hr fun ws m1 vs B1 H1 ⟨ds1, ds2, e1, hn, hl, hp⟩ hr1 ex1 rp =>
    star_plain hr1 (plain_rep rp e1) hn hl (fun B2 H2 e hr2 => er_call eo hr2) hp fun o v B' H' f hb ex ov => z _ _ _ _ _ f hb (ex1.trans ex) ov
theorem we_callR0 (h : WA x tA r m fun ws m1 => ∃ ds1 ds2, plainW ws = some (ds1 ++ ds2) ∧ ds1.length = n ∧ ds2.length ≤ sizeLine ∧ p (ds1.map .fz ++ [.fz (.tup ds2)]) [] (CO Ω m1) (fun _ => False)) : WE x (tCallR (spStar x.K n p) E tA) r m Ω := fun F eo oa σ B H Q s hr z =>
  h F eo oa σ B H _ s hr fun ws m1 vs B1 H1 ⟨ds1, ds2, e1, hn, hl, hp⟩ hr1 ex1 rp =>
    star_plain hr1 (plain_rep rp e1) hn hl (fun B2 H2 e hr2 => er_none fun _ z => z) hp fun o v B' H' f hb ex ov => z _ _ _ _ _ f hb (ex1.trans ex) ov
/-- f( *e), e a list -/
theorem we_callS1 (h : WV x ta r m fun w m1 => ∃ ds, now m1 w = some (.lst ds) ∧ ds.length ≤ sizeLine ∧ p [.fz (.tup ds)] [] (CO Ω m1) x.er) : WE x (tCallS1 x.K (spStar x.K 0 p) x.E ta) r m Ω := fun F eo oa σ B H Q s hr z =>
  h F eo oa σ B H _ s hr fun w m1 v B1 H1 ⟨ds, e1, hl, hp⟩ hr1 ex1 r1 => by
    obtain ⟨a, vs, rfl, ha, rl⟩ := rep_lst hr1 e1 r1
    exact ⟨a, vs, rfl, .inr (Evl.sq_of ha), star_plain (ds1 := []) hr1 rl rfl hl (fun B2 H2 e hr2 => er_call eo hr2) hp fun o v B' H' f hb ex ov => z _ _ _ _ _ f hb (ex1.trans ex) ov⟩

theorem we_callS10 (h : WV x ta r m fun w m1 => ∃ ds, now m1 w = some (.lst ds) ∧ ds.length ≤ sizeLine ∧ p [.fz (.tup ds)] [] (CO Ω m1) (fun _ => False)) : WE x (tCallS1 x.K (spStar x.K 0 p) E ta) r m Ω := fun F eo oa σ B H Q s hr z =>
  h F eo oa σ B H _ s hr fun w m1 v B1 H1 ⟨ds, e1, hl, hp⟩ hr1 ex1 r1 => by
    obtain ⟨a, vs, rfl, ha, rl⟩ := rep_lst hr1 e1 r1
    exact ⟨a, vs, rfl, .inr (Evl.sq_of ha), star_plain (ds1 := []) hr1 rl rfl hl (fun B2 H2 e hr2 => er_none fun _ z => z) hp fun o v B' H' f hb ex ov => z _ _ _ _ _ f hb (ex1.trans ex) ov⟩

def keyD : D → Option Key
  | .int i => some (.inl i)
  | .str s => some (.inr s)
  | _ => none
def valK (kvs : List (Key × D)) (k : Key) : Option D := (kvs.find? fun kv => decide (kv.1 = k)).map (·.2)
theorem key_rep {K : PySem.W.Frag} {dv : D} {v : V} {kk : Key} (h : keyD dv = some kk) (rr : Rep K B dv v) : v = kV kk := by
  cases rr <;> first | (cases h; rfl) | cases h
theorem valK_rep {K : PySem.W.Frag} {kk : Key} : ∀ {ds : List (Key × D)} {vs : List (Key × V)} {dv : D}, RepK K B ds vs → valK ds kk = some dv → ∃ v, valV vs kk = some v ∧ Rep K B dv v
  | [], _, dv, .nil, h => by cases h
  | (k1, d1) :: ds, (_, v1) :: vs, dv, .cons r t, h => by
    by_cases e : k1 = kk
    · have : valK ((k1, d1) :: ds) kk = some d1 := by simp [valK, List.find?_cons, e]
      rw [this] at h; cases h
      exact ⟨v1, by simp [valV, List.find?_cons, e], r⟩
    · have : valK ((k1, d1) :: ds) kk = valK ds kk := by simp [valK, List.find?_cons, e]
      rw [this] at h
      obtain ⟨v, h1, h2⟩ := valK_rep t h
      exact ⟨v, by simpa [valV, List.find?_cons, e] using h1, h2⟩
theorem we_dget (h : WV x ta r m fun w m1 => ∃ kvs, now m1 w = some (.dic kvs) ∧ WV x tb r m1 fun w2 m2 => ∃ kd kk dv, w2 = .fz kd ∧ keyD kd = some kk ∧ now m2 w = some (.dic kvs) ∧ valK kvs kk = some dv ∧ Ω (.fz dv) m2) : WE x (tDGet ta tb) r m Ω := fun F eo oa σ B H Q s hr z =>
  h F eo oa σ B H _ s hr fun w m1 v B1 H1 ⟨kvs, e0, h1⟩ hr1 e1 r1 => h1 F eo oa σ B1 H1 _ (s.mono e1) hr1 fun w2 m2 v2 B2 H2 ⟨kd, kk, dv, ew, ek, en, ev, q⟩ hr2 e2 r2 => by
    subst ew
    obtain ⟨a, vs, rfl, ha, rk⟩ := rep_dic hr2 en (r1.mono e2)
    rw [key_rep ek r2]
    obtain ⟨u, hu, ru⟩ := valK_rep rk ev
    exact ⟨a, u, rfl, hu ▸ DGet.k ha, z _ _ _ _ _ q hr2 (e1.trans e2) ru⟩
theorem RepK.snoc {K : PySem.W.Frag} {kk : Key} {dv : D} {v : V} (h : Rep K B dv v) : ∀ {ds : List (Key × D)} {vs : List (Key × V)}, RepK K B ds vs → RepK K B (ds ++ [(kk, dv)]) (vs ++ [(kk, v)])
  | _, _, .nil => .cons h .nil
  | _, _, .cons r t => .cons r (RepK.snoc h t)
theorem RepK.any {K : PySem.W.Frag} {kk : Key} : ∀ {ds : List (Key × D)} {vs : List (Key × V)}, RepK K B ds vs → (vs.any fun e => decide (e.1 = kk)) = (ds.any fun e => decide (e.1 = kk))
  | _, _, .nil => rfl
  | (k1, _) :: _, (_, _) :: _, .cons r t => by rw [List.any_cons, List.any_cons, RepK.any t]
theorem RepK.length {K : PySem.W.Frag} : ∀ {ds : List (Key × D)} {vs : List (Key × V)}, RepK K B ds vs → ds.length = vs.length
  | _, _, .nil => rfl
  | _, _, .cons _ r => by rw [List.length_cons, List.length_cons, r.length]
theorem dc_it {J : It} {G : Hp → Prop} {Y : Nat → Hp → V → Hp → Prop} (w : Walk J n G Y) {vs : List Nat} {σ : L2.St} {H1 : Hp} {Dl : Addr} {Qd : Hp → Prop} {tk tv : TE} (Pv : Nat → Hp → Prop) (h0 : Pv 0 (upd H1 Dl (.dK []))) (hG : ∀ i H, i ≤ n → Pv i H → G H)
    (hs : ∀ i x H H', i < n → Pv i H → Y i H x H' → g x (L2.wipe σ vs) H' fun σ2 H2 => L2.wipe σ2 vs = L2.wipe σ vs ∧ tt σ2 H2 fun b H3 =>
      if b = true then tk σ2 H3 fun y H4 => tv σ2 H4 fun z H5 => ∃ kvs k, y = kV k ∧ H5 Dl = some (.dK kvs) ∧ kvs.length < sizeLine ∧ Pv (i + 1) (upd H5 Dl (.dK (putK kvs k z))) else Pv (i + 1) H3) (hd : ∀ H, Pv n H → Qd H) :
    ∃ W : Nat → Nat → Hp → Prop, (∃ m, W 0 m (upd H1 Dl (.dK []))) ∧ ∀ i m H, W i m H →
      (J.stop i H ∧ Qd H) ∨ (J.go i H ∧ ∃ Nx : Hp → Prop, (∀ H', Nx H' → ∃ m', m' < m ∧ W (i + 1) m' H') ∧ ∀ x H', J.yld i H x H' → g x (L2.wipe σ vs) H' fun σ2 H2 => L2.wipe σ2 vs = L2.wipe σ vs ∧ tt σ2 H2 fun b H3 =>
        if b = true then tk σ2 H3 fun y H4 => tv σ2 H4 fun z H5 => ∃ kvs k, y = kV k ∧ H5 Dl = some (.dK kvs) ∧ kvs.length < sizeLine ∧ Nx (upd H5 Dl (.dK (putK kvs k z))) else Nx H3) := by
  refine ⟨fun i m H => m = n - i ∧ i ≤ n ∧ Pv i H, ⟨n, by simp, Nat.zero_le _, h0⟩, ?_⟩
  rintro i m H ⟨rfl, hi, p⟩
  have q := hG i H hi p
  by_cases hlt : i < n
  · exact .inr ⟨w.goes i H hlt q, Pv (i + 1), fun H' p' => ⟨n - (i + 1), by omega, rfl, hlt, p'⟩, fun x H' y => hs i x H H' hlt p (w.yields i H x H' hlt q y)⟩
  · have e : i = n := by omega
    subst e
    exact .inl ⟨w.stops H q, hd H p⟩
/-- a dict comprehension, all keys different -/
theorem we_dc {vs : List Nat} {tk tv : TE} (hg : OnlyIn g vs) (h : WI x wi r m fun n f m1 => n ≤ sizeLine ∧ ∃ I : Nat → List (Key × D) → List OO → Prop, I 0 [] m1 ∧ (∀ i acc m2, i < n → acc.length ≤ i → I i acc m2 → WG x g (f i) (wipeS r vs) fun r2 =>
      WT x tt r2 m2 fun b m3 => (b = true → WV x tk r2 m3 fun w m4 => ∃ kd kk, w = .fz kd ∧ keyD kd = some kk ∧ (acc.any fun e => decide (e.1 = kk)) = false ∧ WV x tv r2 m4 fun w2 m5 => ∃ d, w2 = .fz d ∧ I (i + 1) (acc ++ [(kk, d)]) m5) ∧ (b = false → I (i + 1) acc m3)) ∧ ∀ acc m2, I n acc m2 → Ω (.fr (.d acc)) m2) :
    WE x (tDc wi g tt tk tv vs) r m Ω := fun F eo oa σ B H Q s hr q => by
  refine h F eo _ σ B H _ s hr fun n f m1 B1 H1 J G Y ⟨hn, I, i0, hI, hE⟩ hr1 e1 w hG hY => ?_
  intro Dl hD
  have hB : B1 Dl = none := Evl.fresh_back hr1.bh hD
  have h00 : x.B0 Dl = none := Evl.fresh_back hr1.bb hB
  have hF : F Dl = none := Evl.fresh_back hr1.fh hD
  have hO : Dl ∉ oa := hr1.newOut hD
  have s1 := s.mono e1
  refine dc_it w (fun i H' => ∃ acc m' vs' B', I i acc m' ∧ acc.length ≤ i ∧ HR x F m' oa B' H' ∧ Ex B1 B' ∧ B' Dl = none ∧ H' Dl = some (.dK vs') ∧ RepK x.K B' acc vs') ⟨[], m1, [], B1, i0, Nat.le_refl _, hr1.drop hD, Ex.refl _, hB, upd_same, .nil⟩ (fun i H' _ p => ?_) (fun i u H2 H3 hi p y => ?_) fun H' p => ?_
  · obtain ⟨_, _, _, B', _, _, hr', e, _⟩ := p
    exact hG _ (e.trans hr'.bh)
  · obtain ⟨acc, m', vs', B2, p1, p2, p3, p4, p5, p6, p7⟩ := p
    have p3' := p3.frame p5 hF hO p6
    obtain ⟨B3, hr3, e3, eH, rv⟩ := hY i u _ m' _ B2 H2 H3 hi p3' p4 y
    have eo' : ErOk x (upd F Dl (.dK vs')) := eo.up (Ex.new hF)
    have fd : (upd F Dl (.dK vs')) Dl = some (.dK vs') := upd_same
    refine hg u σ H3 (fun σ2 H2 => tt σ2 H2 _) _ ?_ fun σ2 hw z => ⟨hw, z⟩
    refine hI i acc m' hi p2 p1 oa (L2.wipe σ vs) B3 H3 u _ ((s1.mono (p4.trans e3)).wipe vs) hr3.bh rv fun r2 σ2 qq s2 => ?_
    refine qq _ eo' oa σ2 B3 H3 _ s2 hr3 fun b m3 B4 H4 ⟨h1, h2⟩ hr4 e4 => ?_
    cases b with
    | true =>
      refine (show tk σ2 H4 _ from ?_)
      refine h1 rfl _ eo' oa σ2 B4 H4 _ (s2.mono e4) hr4 fun w2 m4 v B5 H5 ⟨kd, kk, ew, ek, hnew, h5⟩ hr5 e5 wv => ?_
      refine h5 _ eo' oa σ2 B5 H5 _ (s2.mono (e4.trans e5)) hr5 fun w3 m5 v3 B6 H6 ⟨dd, ew3, i6⟩ hr6 e6 wv3 => ?_
      subst ew ew3
      have n6 := hr6.notB fd h00
      have ekv := key_rep ek wv
      have rk := p7.mono (((e3.trans e4).trans e5).trans e6)
      refine ⟨vs', kk, ekv, hr6.fh _ _ fd, ?_, acc ++ [(kk, dd)], m5, vs' ++ [(kk, v3)], B6, i6, ?_, (hr6.unframe (Ex.new hF)).loose n6 hF hO, (((p4.trans e3).trans e4).trans e5).trans e6, n6, ?_, ?_⟩
      · rw [← p7.length]; exact Nat.lt_of_lt_of_le (Nat.lt_of_le_of_lt p2 hi) hn
      · rw [List.length_append]; exact Nat.succ_le_succ p2
      · have : putK vs' kk v3 = vs' ++ [(kk, v3)] := by
          unfold putK
          rw [if_neg (by rw [rk.any, hnew]; exact Bool.false_ne_true)]
        rw [this]; exact upd_same
      · exact RepK.snoc wv3 rk
    | false =>
      refine (show ∃ acc m' vs' B', _ from ?_)
      have n4 := hr4.notB fd h00
      exact ⟨acc, m3, vs', B4, h2 rfl, Nat.le_succ_of_le p2, hr4.unframe (Ex.new hF), (p4.trans e3).trans e4, n4, hr4.fh _ _ fd, p7.mono (e3.trans e4)⟩
  · obtain ⟨acc, m', vs', B2, p1, p2, p3, p4, p5, p6, p7⟩ := p
    exact q _ _ _ _ _ (hE acc m' p1) p3 (e1.trans p4) ⟨Dl, _, rfl, p5, hF, hO, p6, p7⟩

theorem wi_enumS_gen {v : V} {T : Src} {f : Nat → D} {m1 : List OO} {R : It → Hp → Prop} {B1 H1 : Hp} (hat : T.at_ H1) (keep : ∀ H2, Ex B1 H2 → T.at_ H2) (hv : ∀ (i : Nat) (u : V), T.val i u → ∀ B2, Ex B1 B2 → Rep x.K B2 (f i) u)
    (q : ∀ (J : It) (G : Hp → Prop) (Y : Nat → Hp → V → Hp → Prop), Walk J T.n G Y → (∀ H2, Ex B1 H2 → G H2) →
      (∀ (i : Nat) (v : V) (F2 : Hp) (m2 : List OO) (oa2 : List Addr) (B2 H2 H3 : Hp), i < T.n → HR x F2 m2 oa2 B2 H2 → Ex B1 B2 → Y i H2 v H3 → ∃ B3, HR x F2 m2 oa2 B3 H3 ∧ Ex B2 B3 ∧ Ex H2 H3 ∧ Rep x.K B3 (.tup [.int i, f i]) v) → R J H1) : R (Ien T) H1 :=
  q _ _ _ walk_enumS keep fun i u F2 m2 oa2 B2 H2 H3 hi hr2 e2 y => by
    obtain ⟨t, v1, rfl, ht, eH, h1⟩ := y
    subst eH
    have hn := Evl.fresh_back hr2.bh ht
    exact ⟨_, hr2.lay ht, Ex.new hn, Ex.new ht, .tup (Evl.st_of upd_same) (.cons .int (.cons ((hv i v1 h1 B2 e2).mono (Ex.new hn)) .nil))⟩
theorem wi_enumT (h : WA x tA r m fun ws m1 => ∃ xs : List D, ws = [.fz (.tup xs)] ∧ Λ xs.length (fun i => .tup [.int i, xs.getD i .non]) m1) : WI x (iEnumS (SrcV x.K) tA) r m Λ := fun F eo oa σ B H R s hr q =>
  h F eo _ σ B H _ s hr fun ws m1 vs B1 H1 ⟨xs, ew, hl⟩ hr1 e1 wv => by
    subst ew
    cases wv with
    | cons a b =>
      cases b
      cases a with
      | tup hB rl =>
        rename_i a vs
        refine ⟨.ref a, srcT x.K a vs, rfl, .inr (.inr ⟨a, vs, rfl, rfl⟩), Evl.ex_t hr1.bh hB, wi_enumS_gen (x := x) (B1 := B1) (f := fun i => xs.getD i .non) (v := .ref a) (m1 := m1) (Evl.ex_t hr1.bh hB) (fun H2 e => Evl.ex_t e hB) (fun i u hu B2 e2 => ?_) fun J G Y w hG hY => ?_⟩
        · obtain ⟨dd, e3, rv⟩ := rl.get hu
          have e4 : xs.getD i .non = dd := by rw [List.getD_eq_getElem?_getD, e3] <;> rfl
          rw [e4]; exact rv.mono e2
        · exact q _ _ _ _ _ J G Y (by show Λ vs.length _ _; rw [← rl.length]; exact hl) hr1 e1 w hG hY
theorem wi_enumL (h : WA x tA r m fun ws m1 => ∃ xs : List D, ws = [.fz (.lst xs)] ∧ Λ xs.length (fun i => .tup [.int i, xs.getD i .non]) m1) : WI x (iEnumS (SrcV x.K) tA) r m Λ := fun F eo oa σ B H R s hr q =>
  h F eo _ σ B H _ s hr fun ws m1 vs B1 H1 ⟨xs, ew, hl⟩ hr1 e1 wv => by
    subst ew
    cases wv with
    | cons a b =>
      cases b
      cases a with
      | lst hB rl =>
        rename_i a vs
        refine ⟨.ref a, srcL x.K a vs, rfl, .inr (.inl ⟨a, vs, rfl, rfl⟩), Evl.sq_of (hr1.bh _ _ hB), wi_enumS_gen (x := x) (B1 := B1) (f := fun i => xs.getD i .non) (v := .ref a) (m1 := m1) (Evl.sq_of (hr1.bh _ _ hB)) (fun H2 e => Evl.sq_of (e _ _ hB)) (fun i u hu B2 e2 => ?_) fun J G Y w hG hY => ?_⟩
        · obtain ⟨dd, e3, rv⟩ := rl.get hu
          have e4 : xs.getD i .non = dd := by rw [List.getD_eq_getElem?_getD, e3] <;> rfl
          rw [e4]; exact rv.mono e2
        · exact q _ _ _ _ _ J G Y (by show Λ vs.length _ _; rw [← rl.length]; exact hl) hr1 e1 w hG hY
theorem wi_enumZ (h : WA x tA r m fun ws m1 => ∃ z : Str, ws = [.fz (.str z)] ∧ Λ z.cps.size (fun i => .tup [.int i, .str ⟨#[z.cps.toList.getD i 0]⟩]) m1) : WI x (iEnumS (SrcV x.K) tA) r m Λ := fun F eo oa σ B H R s hr q =>
  h F eo _ σ B H _ s hr fun ws m1 vs B1 H1 ⟨z, ew, hl⟩ hr1 e1 wv => by
    subst ew
    cases wv with
    | cons a b =>
      cases b
      cases a
      refine ⟨.str z, srcS z, rfl, .inl ⟨z, rfl, rfl⟩, trivial, wi_enumS_gen (x := x) (B1 := B1) (T := srcS z) (f := fun i => .str ⟨#[z.cps.toList.getD i 0]⟩) (v := .str z) (m1 := m1) trivial (fun _ _ => trivial) (fun i u hu B2 e2 => ?_) fun J G Y w hG hY => ?_⟩
      · obtain ⟨c, hc, rfl⟩ := hu
        have e4 : z.cps.toList.getD i 0 = c := by rw [List.getD_eq_getElem?_getD, Array.getElem?_toList, hc] <;> rfl
        show Rep x.K B2 (.str ⟨#[z.cps.toList.getD i 0]⟩) _
        rw [e4]; exact .str
      · exact q _ _ _ _ _ J G Y hl hr1 e1 w hG hY
theorem wg_unl {is : List Nat} {vs : List D} {r' : List Sl} {Ψ : List Sl → Prop} {n : Nat} (hs : setAll r is vs = some r') (hn : vs.length = n) (h : Ψ r') : WG x (gUnl x.K n (gNames is)) (.lst vs) r Ψ := fun oa σ B H u Q s e rv q => by
  cases rv with
  | lst hB rl => exact ⟨_, _, rfl, Evl.sq_of (e _ _ hB), by rw [← rl.length]; exact hn, gNames_run is vs _ r r' σ s rl hs fun σ' s' => q r' σ' h s'⟩

theorem HR.openP {F B H : Hp} (h : HR x F m oa B H) (hk : m[k]? = some .pl) : ∃ a b, PoolOk a b ∧ HR x F (m.set k (.l [.int a, .int b])) oa B H := by
  obtain ⟨a, ho, e1, e2, e3, e4, e5⟩ := h.ow k _ hk
  cases ho <;> first | exact e5.elim | skip
  obtain ⟨p1, q1, rfl, ok⟩ := (show ∃ p q, _ = [V.int p, V.int q] ∧ PoolOk p q from e5)
  have hlt : k < m.length := (List.getElem?_eq_some_iff.mp hk).1
  refine ⟨p1, q1, ok, h.bh, h.fh, h.bb, h.nf, by rw [List.length_set]; exact h.len, h.nd, fun j o e => ?_⟩
  by_cases hkj : k = j
  · subst hkj
    rw [List.getElem?_set_self hlt] at e
    cases e
    exact ⟨a, _, e1, e2, e3, e4, .cons .int (.cons .int .nil)⟩
  · rw [List.getElem?_set_ne hkj] at e
    exact h.ow j o e
theorem HR.closeP {F B H : Hp} {a b : Int} (h : HR x F m oa B H) (hk : m[k]? = some (.l [.int a, .int b])) (ok : PoolOk a b) : HR x F (m.set k .pl) oa B H := by
  have hlt : k < m.length := (List.getElem?_eq_some_iff.mp hk).1
  refine ⟨h.bh, h.fh, h.bb, h.nf, by rw [List.length_set]; exact h.len, h.nd, fun j o e => ?_⟩
  by_cases hkj : k = j
  · subst hkj
    rw [List.getElem?_set_self hlt] at e
    cases e
    obtain ⟨a', ho, e1, e2, e3, e4, e5⟩ := h.ow k _ hk
    cases ho <;> first | exact e5.elim | skip
    rename_i vs
    have rl : RepL x.K B [.int a, .int b] vs := e5
    refine ⟨a', _, e1, e2, e3, e4, ?_⟩
    cases rl with
    | cons r1 r2 => cases r2 with
      | cons r2 r3 => cases r3; cases r1; cases r2; exact ⟨a, b, rfl, ok⟩
  · rw [List.getElem?_set_ne hkj] at e
    exact h.ow j o e
theorem ws_open (hk : m[k]? = some .pl) (h : ∀ a b, PoolOk a b → WS x ts r (m.set k (.l [.int a, .int b])) d) : WS x ts r m d := fun F eo oa0 more σ Bs B H D s hr hb ok => by
  obtain ⟨a, b, po, hr'⟩ := hr.openP hk
  exact h a b po F eo oa0 more σ Bs B H D s hr' hb ok
/-- the pool is shut again where the def ends -/
def shutR (k : Nat) (rt : OV → List OO → Prop) : OV → List OO → Prop := fun o m' => ∃ a b, m'[k]? = some (.l [.int a, .int b]) ∧ PoolOk a b ∧ rt o (m'.set k .pl)
theorem ws_shut (h : WS x ts r m { d with rt := shutR k d.rt }) : WS x ts r m d := fun F eo oa0 more σ Bs B H D s hr hb ok =>
  h F eo oa0 more σ Bs B H D s hr hb ⟨ok.nx, fun o m mo v B' H' ⟨a, b, e1, e2, e3⟩ hr' ov hb' => ok.rt o _ mo v B' H' e3 (hr'.closeP e1 e2) ov hb', ok.bk, ok.ct⟩
/-- a new list of two ints is a pool -/
theorem ws_newP (h : WE x te r m fun o m' => ∃ a b, o = .fr (.l [.int a, .int b]) ∧ PoolOk a b ∧ d.rt (.fr .pl) m') : WS x (tRet te) r m d := ws_ret (fun F eo oa σ B H Q s hr z => h F eo oa σ B H _ s hr fun o m' v B' H' ⟨a, b, e0, ok, q⟩ hr' e ov => by
  subst e0
  obtain ⟨p1, ho, rfl, b1, b2, b3, b4, b5⟩ := ov
  cases ho <;> first | exact b5.elim | skip
  rename_i vs
  have rl : RepL x.K B' [.int a, .int b] vs := b5
  refine z (.fr .pl) m' _ _ _ q hr' e ⟨p1, _, rfl, b1, b2, b3, b4, ?_⟩
  cases rl with
  | cons r1 r2 => cases r2 with
    | cons r2 r3 => cases r3; cases r1; cases r2; exact ⟨a, b, rfl, ok⟩)
end DL

set_option maxRecDepth 100000
set_option maxHeartbeats 4000000
namespace DL
open PySem PySem.Spec PyProof.Rows L2
open Evl (Ex)
abbrev iAdd : R2 := rI0 fun i j => .int (i + j)
abbrev iSub : R2 := rI0 fun i j => .int (i - j)
abbrev iMul : R2 := rI CMul fun i j => .int (i * j)
abbrev iMod : R2 := rI (fun _ j => 0 < j) fun i j => .int (i % j)
abbrev iDiv : R2 := rI CDiv fun i j => .int (i / j)
abbrev iPow : R2 := rI CPow fun i j => .int (i ^ j.toNat)
abbrev bLt : R2 := rI0 fun i j => .bl (decide (i < j))
abbrev bLte : R2 := rI0 fun i j => .bl (decide (i ≤ j))
abbrev bGt : R2 := rI0 fun i j => .bl (decide (j < i))
abbrev bGte : R2 := rI0 fun i j => .bl (decide (j ≤ i))
abbrev bLe := bLte
abbrev bGe := bGte
abbrev rAddS : R2 := fun x y H Q => ∃ i j, x = .str i ∧ y = .str j ∧ i.length + j.length ≤ sizeLine ∧ Q (.str (i ++ j)) H
abbrev sGt : R2 := fun x y H Q => ∃ i j, x = .str i ∧ y = .str j ∧ Q (.bl (decide (j.cps.toList < i.cps.toList))) H
abbrev rInC : R2 := fun x y H Q => ∃ (c : Nat) (z : Str), x = .str ⟨#[c]⟩ ∧ y = .str z ∧ Q (.bl (decide (c ∈ z.cps.toList))) H
abbrev rNotInC : R2 := fun x y H Q => ∃ (c : Nat) (z : Str), x = .str ⟨#[c]⟩ ∧ y = .str z ∧ Q (.bl (!decide (c ∈ z.cps.toList))) H
abbrev rIsN : R2 := fun x y H Q => y = .non ∧ Q (.bl (decide (x = .non))) H
abbrev rNotN : R2 := fun x y H Q => y = .non ∧ Q (.bl (!decide (x = .non))) H
section
variable {P : Program} {w : World} {K : PySem.W.Frag} {mg : Str → Option Value} {base : Heap}
theorem fn_dlS {nm qual pv : Str} {st : Stmt} {f : Addr} {fd : FuncData} {N ps : List Str} {k : Nat} (p : DSp) (Fn : Fun K nm qual st f fd) (S : FnScope N (ps ++ [pv]) (defScope st))
    (hb : ∀ us rest : List Value, us.length = ps.length → bindArgs fd ⟨us ++ rest, []⟩ = (newTuple rest >>= fun t => pure (ps.zip us ++ [(pv, t)])))
    (hbody : ∀ (cdv : Value) (A : Around) (outer : List Env) (s : Shared) (H : Hp) (E : XK), Room k (A.deeper (envOfC qual (defScope st) s.heap.objs.size f cdv)) →
      ∃ t, PSs (cxOf (L2.CX P w) P w K mg base N qual (defScope st) f cdv A outer s H E) (defBody st) t ∧
        ∀ (B0 : Hp) (r : List Sl) (m : List OO) (Φ : OV → List OO → Prop) (Ψ : Er → Prop), p r m Φ Ψ → r.length = ps.length + 1 → WS ⟨K, B0, E, Ψ⟩ t (r ++ List.replicate (N.length - (ps.length + 1)) .un) m (rets m.length Φ)) :
    FnR P w K mg base (L2.CX P w) (k + 1) f (spStar K ps.length p) := by
  obtain ⟨oc, od, kV, doc, pm, an, cdv, ct, osl, rfl, lk, hcd⟩ := Fn.ex
  refine StX.fn_star (sp := lift K (ps.length + 1) p) lk hcd S StX.cxUp hb fun A outer s H vs Q E hr h => ?_
  obtain ⟨F, B, r, m, oa, Φ, Ψ, hv, hl, hp, hs, hh, eo, q⟩ := h
  obtain ⟨t, ht, hw⟩ := hbody cdv A outer s H E hr
  refine ⟨t, ht, ?_⟩
  have s0 := sr_start hs (N.length - (ps.length + 1))
  have es : L2.start N vs = vs.map some ++ List.replicate (N.length - (ps.length + 1)) none := by unfold L2.start; rw [hv]
  rw [es]
  refine hw B r m Φ Ψ hp hl F eo oa [] _ B B H _ (by rw [List.append_nil]; exact s0) (by rw [List.append_nil]; exact hh) (Ex.refl B) ⟨fun r' m' mo σ' B' H' z s' hr' _ => ?_, fun o m' mo v B' H' z hr' ov _ => ?_, fun _ _ _ _ _ _ z => z.elim, fun _ _ _ _ _ _ z => z.elim⟩
  · have ht := hr'.take
    rw [hh.len] at ht
    exact q (.fz .non) _ _ _ _ z ht .non
  · have ht := hr'.take
    rw [hh.len] at ht
    cases o with
    | fz d => exact q (.fz d) _ _ _ _ z ht ov
    | fr o =>
      obtain ⟨a, ho, e1, b1, b2, b3, b4, b5⟩ := ov
      exact q (.fr o) _ _ _ _ z ht ⟨a, ho, e1, b1, b2, fun hm => b3 (List.mem_append_left _ hm), b4, b5⟩
    | ow kk =>
      obtain ⟨a, e1, e2⟩ := ov
      rcases z with ⟨hk, z⟩ | ⟨hk, o, e3, z⟩
      · exact q (.ow kk) _ _ _ _ z ht ⟨a, by rw [List.getElem?_append_left (by rw [hh.len]; exact hk)] at e1; exact e1, e2⟩
      · obtain ⟨a', ho, f1, f2, f3, f4, f5⟩ := hr'.ow kk o e3
        rw [e1] at f1; cases f1
        refine q (.fr o) _ _ _ _ z ht ⟨a, ho, e2, f2, f3, fun hm => ?_, f4, f5⟩
        rw [List.getElem?_append_right (by rw [hh.len]; exact hk)] at e1
        exact (List.nodup_append.mp hr'.nd).2.2 a hm a (List.mem_of_getElem? e1) rfl
end
def st (l : List Nat) : Str := ⟨l.toArray⟩
theorem st_l (l : List Nat) : (st l).cps.toList = l := rfl
theorem st_size (l : List Nat) : (st l).cps.size = l.length := List.size_toArray
theorem st_len (l : List Nat) : (st l).length = l.length := List.size_toArray
theorem st_app (l l' : List Nat) : st l ++ st l' = st (l ++ l') := by
  show (⟨l.toArray ++ l'.toArray⟩ : Str) = ⟨(l ++ l').toArray⟩
  rw [List.append_toArray]
theorem st_inj {l l' : List Nat} (h : st l = st l') : l = l' := by
  have := congrArg (fun z : Str => z.cps.toList) h
  exact this
theorem st_dec (l l' : List Nat) : decide (st l = st l') = decide (l = l') := by
  by_cases h : l = l'
  · subst h; simp
  · rw [decide_eq_false h, decide_eq_false fun e => h (st_inj e)]
theorem st_cut (l : List Nat) (lo hi : Option Int) : cutS (st l) lo hi = st (cutD l lo hi) := by
  unfold cutS cutD
  rw [st_l, st_len] <;> rfl
theorem tl_st (l : List Nat) : TL.tl (st l) = l := rfl
theorem st_join (ls : List (List Nat)) : Txt.join Str.empty (ls.map st) = st ls.flatten := by
  rw [TL.join_eq]
  have e : ∀ ls : List (List Nat), TL.joinL [] ls = ls.flatten := fun ls => by
    induction ls with
    | nil => rfl
    | cons a r ih =>
      cases r with
      | nil => simp [TL.joinL]
      | cons b r => simp only [TL.joinL, List.nil_append, ih, List.flatten_cons]
  have h : TL.tl (Str.join Str.empty (ls.map st)) = ls.flatten := by
    rw [TL.tl_join]
    have h2 : (ls.map st).map TL.tl = ls := by rw [List.map_map]; exact List.map_id' ls
    rw [h2]
    exact e ls
  have h3 : st (TL.tl (Str.join Str.empty (ls.map st))) = Str.join Str.empty (ls.map st) := rfl
  rw [← h3, h]
theorem st1 (c : Nat) : (⟨#[c]⟩ : Str) = st [c] := rfl
end DL
namespace DL
open PySem PySem.Spec PyProof.Rows L2
open Evl (Ex)
def pLaw : DSp := fun r m Φ Ψ => ∃ ns, r = [.fz (.scr ns)] ∧ m = [] ∧ ns.length ≤ 63 ∧ Φ (.fz (.bl true)) []
theorem law_start {K : PySem.W.Frag} {H : Hp} {a : Addr} {ns : List Int} (hl : ns.length ≤ 63) (hS : SqL K H a (ns.map V.int)) : lift K 1 pLaw [.ref a] H (fun v _ => v = .bl true) fun _ _ _ => False :=
  ⟨H, H, [.fz (.scr ns)], [], [], fun o m => o = .fz (.bl true), fun _ => False, rfl, rfl, ⟨ns, rfl, rfl, hl, rfl⟩,
    ⟨rfl, fun i s e => by
      cases i with
      | zero => simp at e; subst e; exact ⟨_, rfl, _, rfl, .scr hS⟩
      | succ i => simp at e⟩, hr_nil (Ex.refl H), er_none fun _ z => z, fun o m' v B' H' e hr' ov => by subst e; cases ov; rfl⟩
theorem cx_none {P : Program} {w : World} {H : Hp} {s : Shared} {e : Value} {s' : Shared} (h : L2.CX P w [] H s (fun _ _ _ => False) e s') : False := by
  obtain ⟨_, _, _, _, _, _, _, _, _, _, _, _, z⟩ := h
  exact z.elim
end DL
namespace DL
open PySem PySem.Spec PyProof.Rows L2
theorem raw0 {P : Program} {w : World} {K : PySem.W.Frag} {mg : Str → Option Value} {base : Heap} {CX : CXT} {k : Nat} {f : Addr} {sp : Sp} {fd : FuncData} {ps : List Str} (F : FnOk P w K mg base CX k f fd ps sp) (hb : Binds K fd ps []) : FnR P w K mg base CX k f sp :=
  (FnOk.raw F hb .nil).imp fun vs H Q E h => by rw [List.append_nil]; exact h
end DL

set_option maxRecDepth 100000
set_option maxHeartbeats 4000000
namespace DL
open PySem L2
open Evl (Ex)
variable {m : List OO}
theorem fz {Φ : W → List OO → Prop} {d : D} (h : Φ (.fz d) m) : FZ Φ (.fz d) m := h
theorem fzr {Φ : W → List OO → Prop} {o : OO} (hn : o ≠ .pl) (h : Φ (.fz o.toD) m) : FZ Φ (.fr o) m := ⟨hn, h⟩
theorem fzl {Φ : W → List OO → Prop} {xs : List D} (h : Φ (.fz (.lst xs)) m) : FZ Φ (.fr (.l xs)) m := And.intro (fun z => by cases z) h
theorem fzd {Φ : W → List OO → Prop} {xs : List (Key × D)} (h : Φ (.fz (.dic xs)) m) : FZ Φ (.fr (.d xs)) m := And.intro (fun z => by cases z) h
theorem fzi {Φ : W → List OO → Prop} {C : Addr} {xs : List (Str × D)} (h : Φ (.fz (.obj C xs)) m) : FZ Φ (.fr (.i C xs)) m := And.intro (fun z => by cases z) h
theorem uf {Φ : OV → List OO → Prop} {d : D} (h : Φ (.fz d) m) : UF Φ (.fz d) m := h
theorem ufo {Φ : OV → List OO → Prop} {k : Nat} (h : Φ (.ow k) m) : UF Φ (.ow k) m := h
theorem exB {b : Bool} {P : Bool → Prop} (h : P b) : ∃ c, W.fz (D.bl b) = .fz (.bl c) ∧ P c := ⟨b, rfl, h⟩
theorem exO {b : Bool} {P : Bool → Prop} (h : P b) : ∃ c, OV.fz (D.bl b) = .fz (.bl c) ∧ P c := ⟨b, rfl, h⟩
theorem exS {b : Str} {P : Str → Prop} (h : P b) : ∃ c, W.fz (D.str b) = .fz (.str c) ∧ P c := ⟨b, rfl, h⟩
theorem exI {b : Int} {P : Int → Prop} (h : P b) : ∃ c, W.fz (D.int b) = .fz (.int c) ∧ P c := ⟨b, rfl, h⟩
theorem exD {b : D} {P : D → Prop} (h : P b) : ∃ c, W.fz b = .fz c ∧ P c := ⟨b, rfl, h⟩
theorem rtz {n : Nat} {Φ : OV → List OO → Prop} {d : D} (h : Φ (.fz d) (m.take n)) : (rets n Φ).rt (.fz d) m := h
theorem weVar {x : X} {r : List Sl} {i : Nat} {v : D} {Φ : OV → List OO → Prop} (h : r[i]? = some (.fz v)) (q : Φ (.fz v) m) : WE x (tVar i) r m Φ := we_of (wv_var h q)
theorem weVarO {x : X} {r : List Sl} {i k : Nat} {Φ : OV → List OO → Prop} (h : r[i]? = some (.ow k)) (q : Φ (.ow k) m) : WE x (tVar i) r m Φ := we_of (wv_varO h q)
theorem weInt {x : X} {r : List Sl} {n : Int} {Φ : OV → List OO → Prop} (q : Φ (.fz (.int n)) m) : WE x (tC (.int n)) r m Φ := we_of (wv_int q)
theorem weStr {x : X} {r : List Sl} {n : Str} {Φ : OV → List OO → Prop} (q : Φ (.fz (.str n)) m) : WE x (tC (.str n)) r m Φ := we_of (wv_str q)
theorem weBl {x : X} {r : List Sl} {n : Bool} {Φ : OV → List OO → Prop} (q : Φ (.fz (.bl n)) m) : WE x (tC (.bl n)) r m Φ := we_of (wv_bl q)
theorem weNon {x : X} {r : List Sl} {Φ : OV → List OO → Prop} (q : Φ (.fz .non) m) : WE x (tC .non) r m Φ := we_of (wv_non q)
theorem co {Ω : OV → List OO → Prop} {d : D} {m' : List OO} (h : Ω (.fz d) m) : CO Ω m (.fz d) m' := h
theorem cor {Ω : OV → List OO → Prop} {o : OO} {m' : List OO} (h : Ω (.fr o) m) : CO Ω m (.fr o) m' := h
theorem sz {n : Nat} (h : n ≤ 16777216) : n ≤ sizeLine := by rw [sizeLine_eq]; exact h
theorem abc : ("ABCDEF" : Str) = st [65, 66, 67, 68, 69, 70] := by decide +kernel
theorem emp : ("" : Str) = Str.empty := by decide +kernel
theorem abc_ix {n : Nat} (h : n < 6) : atI ([65, 66, 67, 68, 69, 70] : List Nat) (n : Int) = some (65 + n) := by
  match n, h with
  | 0, _ => decide +kernel
  | 1, _ => decide +kernel
  | 2, _ => decide +kernel
  | 3, _ => decide +kernel
  | 4, _ => decide +kernel
  | 5, _ => decide +kernel
theorem abc_index {c : Nat} (h1 : 65 ≤ c) (h2 : c < 71) : ∃ rest, Builtin.Str.occurrences ("ABCDEF" : Str) (st [c]) 0 ("ABCDEF" : Str).length 1 = (c - 65) :: rest := by
  have : c = 65 ∨ c = 66 ∨ c = 67 ∨ c = 68 ∨ c = 69 ∨ c = 70 := by omega
  rcases this with rfl | rfl | rfl | rfl | rfl | rfl
  · exact ⟨[], by decide +kernel⟩
  · exact ⟨[], by decide +kernel⟩
  · exact ⟨[], by decide +kernel⟩
  · exact ⟨[], by decide +kernel⟩
  · exact ⟨[], by decide +kernel⟩
  · exact ⟨[], by decide +kernel⟩
theorem abc_mem {c : Nat} (h1 : 65 ≤ c) (h2 : c < 71) : c ∈ ([65, 66, 67, 68, 69, 70] : List Nat) := by
  have : c = 65 ∨ c = 66 ∨ c = 67 ∨ c = 68 ∨ c = 69 ∨ c = 70 := by omega
  rcases this with rfl | rfl | rfl | rfl | rfl | rfl <;> decide
theorem abc_cut {n : Nat} (h : n ≤ 6) : cutS ("ABCDEF" : Str) none (some (n : Int)) = st ((List.range n).map (65 + ·)) := by
  match n, h with
  | 0, _ => decide +kernel
  | 1, _ => decide +kernel
  | 2, _ => decide +kernel
  | 3, _ => decide +kernel
  | 4, _ => decide +kernel
  | 5, _ => decide +kernel
  | 6, _ => decide +kernel
theorem getD_mem {l : List Nat} {i : Nat} (h : i < l.length) : l.getD i 0 ∈ l := by
  rw [List.getD_eq_getElem?_getD, List.getElem?_eq_getElem h]; exact List.getElem_mem h
theorem mapGetD {α : Type} (g : Nat → α) (l : List Nat) : (List.range l.length).map (fun i => g (l.getD i 0)) = l.map g := by
  apply List.ext_getElem?
  intro i
  by_cases h : i < l.length
  · rw [List.getElem?_map, List.getElem?_map, List.getElem?_range h, List.getElem?_eq_getElem h]
    show some (g (l.getD i 0)) = some (g l[i])
    rw [List.getD_eq_getElem?_getD, List.getElem?_eq_getElem h] <;> rfl
  · rw [List.getElem?_eq_none (by simpa using h), List.getElem?_eq_none (by simpa using h)]
theorem flat1 (l : List Nat) : (l.map fun c => [c]).flatten = l := by
  induction l with
  | nil => rfl
  | cons a r ih => rw [List.map_cons, List.flatten_cons, ih] <;> rfl
theorem joinM (ls : List (List Nat)) : Txt.join ("" : Str) (ls.map st) = st ls.flatten := by rw [emp]; exact st_join ls
theorem join1 (l : List Nat) : Txt.join ("" : Str) (l.map fun c => st [c]) = st l := by
  have h := joinM (l.map fun c => [c])
  rw [flat1, List.map_map] at h
  exact h
theorem lenM (ls : List (List Nat)) (h : ls.flatten.length ≤ 16777216) : ((ls.map st).map (·.length)).sum + (ls.map st).length * ("" : Str).length ≤ 16777216 := by
  have e : ("" : Str).length = 0 := by decide +kernel
  rw [e, Nat.mul_zero, Nat.add_zero, List.map_map]
  have e2 : (ls.map ((fun z : Str => z.length) ∘ st)) = ls.map List.length := by
    apply List.map_congr_left
    intro a _
    exact st_len a
  rw [e2, ← List.length_flatten]
  exact h
theorem len1 (l : List Nat) (h : l.length ≤ 16777216) : ((l.map fun c => st [c]).map (·.length)).sum + (l.map fun c => st [c]).length * ("" : Str).length ≤ 16777216 := by
  have h2 := lenM (l.map fun c => [c]) (by rw [flat1]; exact h)
  have e3 : (l.map fun c => [c]).map st = l.map fun c => st [c] := by rw [List.map_map] <;> rfl
  rw [e3] at h2
  exact h2
theorem at0 {α : Type} {a : α} {xs : List α} : atI (a :: xs) (0 : Int) = some a := by
  have h : ixN (a :: xs).length (0 : Int) = some 0 := by
    unfold ixN
    rw [if_pos (by omega), if_pos (by rw [List.length_cons]; omega)] <;> rfl
  unfold atI
  rw [h] <;> rfl
theorem atN {α : Type} {xs : List α} {n : Nat} {a : α} (e : xs[n]? = some a) : atI xs (n : Int) = some a := by
  have hl := (List.getElem?_eq_some_iff.mp e).1
  have h : ixN xs.length (n : Int) = some n := by
    unfold ixN
    rw [if_pos (by omega), if_pos (by omega)] <;> rfl
  unfold atI
  rw [h]
  exact e
theorem valK_range {g : Nat → D} {n k : Nat} (h : k < n) : valK ((List.range n).map fun j => ((Sum.inr (st [65 + j]) : Key), g j)) (.inr (st [65 + k])) = some (g k) := by
  induction n with
  | zero => omega
  | succ n ih =>
    unfold valK at ih ⊢
    rw [List.range_succ, List.map_append, List.find?_append]
    by_cases hk : k < n
    · have := ih hk
      cases e : List.find? (fun kv : Key × D => decide (kv.1 = .inr (st [65 + k]))) ((List.range n).map fun j => ((Sum.inr (st [65 + j]) : Key), g j)) with
      | none => rw [e] at this; cases this
      | some y => rw [e] at this; exact this
    · have hk2 : k = n := by omega
      subst hk2
      have : List.find? (fun kv : Key × D => decide (kv.1 = .inr (st [65 + k]))) ((List.range k).map fun j => ((Sum.inr (st [65 + j]) : Key), g j)) = none := by
        rw [List.find?_eq_none]
        intro y hy
        obtain ⟨j, hj, rfl⟩ := List.mem_map.mp hy
        have hj := List.mem_range.mp hj
        simp only [decide_eq_true_eq]
        intro z
        have z := st_inj (Sum.inr.inj z)
        simp at z
        omega
      rw [this]
      simp
theorem any_range {g : Nat → D} {n : Nat} : (((List.range n).map fun j => ((Sum.inr (st [65 + j]) : Key), g j)).any fun e => decide (e.1 = .inr (st [65 + n]))) = false := by
  rw [List.any_eq_false]
  intro y hy
  obtain ⟨j, hj, rfl⟩ := List.mem_map.mp hy
  have hj := List.mem_range.mp hj
  simp only [decide_eq_true_eq]
  intro z
  have z := st_inj (Sum.inr.inj z)
  simp at z
  omega
theorem wg_eq {x : X} {g : TG} {v v' : D} {r : List Sl} {Ψ : List Sl → Prop} (e : v = v') (h : WG x g v' r Ψ) : WG x g v r Ψ := e ▸ h
def tCallO (sp : Sp) (dvs : List V) (E : XK) (t : TA) : TE := tCall sp dvs E t
def tAsgO (te : TE) (g : TG) : TS := tAsg te g
section
variable {x : X} {r : List Sl} {te : TE} {tA : TA} {ts : TS} {d : DE} {i k n : Nat} {E : XK} {p : DSp} {Ω : OV → List OO → Prop} {Φ : W → List OO → Prop}
theorem we_callOx (h : WA x tA r m fun ws m1 => ∃ k o ds ws', ws = .ow k :: ws' ∧ m1[k]? = some o ∧ plainW ws' = some ds ∧ ds.length + 1 = n ∧ p (.ow 0 :: ds.map .fz) [o] (CO1 Ω m1 k) (fun _ => False)) : WE x (tCallO (lift x.K n p) [] E tA) r m Ω := we_callO h
theorem ws_setOx (h : WE x te r m (OWN i r d.nx)) : WS x (tAsgO te (gName i)) r m d := ws_setO h
theorem own_ {nx : List Sl → List OO → Prop} {o : OO} (h : nx (r.set i (.ow m.length)) (m ++ [o])) : OWN i r nx (.fr o) m := h
theorem co1 {dv : D} {o : OO} {m' : List OO} (e : m.set k o = m') (h : Ω (.fz dv) m') : CO1 Ω m k (.fz dv) [o] := fun o' z => by
  cases z; rw [e]; exact h
/-- owned things from the k-th on are forgotten -/
def cleanS (k : Nat) (r : List Sl) : List Sl := r.map fun s => match s with
  | .ow j => if j < k then .ow j else .un
  | s => s
theorem sr_clean {K : PySem.W.Frag} {oa mo : List Addr} {σ : L2.St} {B : Hp} (s : SR K r (oa ++ mo) σ B) : SR K (cleanS oa.length r) oa σ B := by
  refine ⟨by rw [cleanS, List.length_map]; exact s.len, fun i q e => ?_⟩
  rw [cleanS, List.getElem?_map] at e
  obtain ⟨q0, e1, e2⟩ := Option.map_eq_some_iff.mp e
  obtain ⟨o, e3, e4⟩ := s.sl i q0 e1
  refine ⟨o, e3, ?_⟩
  cases q0 with
  | un => cases e2; trivial
  | fz d => cases e2; exact e4
  | ow j =>
    by_cases h : j < oa.length
    · have e2 : (if j < oa.length then Sl.ow j else .un) = q := e2
      rw [if_pos h] at e2
      cases e2
      obtain ⟨a, f1, f2⟩ := e4
      exact ⟨a, by rw [List.getElem?_append_left h] at f1; exact f1, f2⟩
    · have e2 : (if j < oa.length then Sl.ow j else .un) = q := e2
      rw [if_neg h] at e2
      cases e2
      trivial
theorem ws_cut (h : WS x ts r m { nx := fun r' m' => d.nx (cleanS m.length r') (m'.take m.length), rt := d.rt, bk := fun r' m' => d.bk (cleanS m.length r') (m'.take m.length), ct := fun r' m' => d.ct (cleanS m.length r') (m'.take m.length) }) : WS x ts r m d := fun F eo oa0 more σ Bs B H D s hr hb ok => by
  have hl := hr.len
  have hc := h F eo (oa0 ++ more) [] σ Bs B H D (by rw [List.append_nil]; exact s) (by rw [List.append_nil]; exact hr) hb
  rw [← hl] at hc
  refine hc ⟨fun r' m' mo σ' B' H' q s' hr' hb' => ?_, fun o m' mo v B' H' q hr' ov hb' => ?_, fun r' m' mo σ' B' H' q s' hr' hb' => ?_, fun r' m' mo σ' B' H' q s' hr' hb' => ?_⟩
  · exact ok.nx _ _ more _ _ _ q (sr_clean s') hr'.take hb'
  · rw [List.append_assoc] at hr' ov
    exact ok.rt _ _ _ _ _ _ q hr' ov hb'
  · exact ok.bk _ _ more _ _ _ q (sr_clean s') hr'.take hb'
  · exact ok.ct _ _ more _ _ _ q (sr_clean s') hr'.take hb'
end
end DL

set_option maxRecDepth 100000
set_option maxHeartbeats 4000000
namespace DL
open PySem PySem.Spec PyProof.Rows L2
open Evl (Ex)
local macro_rules | `(tactic| walk_at "dl") => `(tactic| (repeat (first
    | with_reducible refine ws_seq ?_
    | with_reducible refine ws_ret ?_
    | with_reducible refine ws_retN ?_
    | with_reducible refine ws_if ?_
    | with_reducible refine ws_set ?_
    | with_reducible refine ws_drop ?_
    | with_reducible refine ws_next ?_
    | with_reducible refine wt_test ?_
    | with_reducible refine wt_B ?_
    | with_reducible refine wt_not ?_
    | with_reducible refine wt_and ?_
    | with_reducible refine wt_or ?_
    | with_reducible refine wt_yes ?_
    | ((with_reducible apply wv_var); rfl)
    | ((with_reducible apply wv_varO); rfl)
    | with_reducible refine wv_int ?_
    | with_reducible refine wv_str ?_
    | with_reducible refine wv_bl ?_
    | with_reducible refine wv_non ?_
    | with_reducible refine wv_ty ?_
    | with_reducible refine wv_fn ?_
    | with_reducible refine wv_of ?_
    | with_reducible refine we_op ?_
    | with_reducible refine we_chain ?_
    | with_reducible refine we_andV ?_
    | with_reducible refine we_orV ?_
    | with_reducible refine we_notV ?_
    | with_reducible refine we_if ?_
    | with_reducible refine we_lst ?_
    | with_reducible refine we_tup ?_
    | with_reducible refine we_cbE ?_
    | with_reducible refine we_fld ?_
    | with_reducible refine we_prop ?_
    | with_reducible refine we_call0 ?_
    | with_reducible refine we_callOx ?_
    | with_reducible refine ws_setOx ?_
    | with_reducible refine own_ ?_
    | with_reducible refine we_callR0 ?_
    | with_reducible refine we_callS10 ?_
    | with_reducible refine we_make0 ?_
    | with_reducible refine we_m1 ?_
    | with_reducible refine we_sl11 ?_
    | with_reducible refine we_sl10 ?_
    | with_reducible refine we_sl01 ?_
    | ((with_reducible apply weVar); rfl)
    | ((with_reducible apply weVarO); rfl)
    | with_reducible refine weInt ?_
    | with_reducible refine weStr ?_
    | with_reducible refine weBl ?_
    | with_reducible refine weNon ?_
    | with_reducible refine wa_cons ?_
    | with_reducible refine wa_nil ?_
    | with_reducible refine fz ?_
    | with_reducible refine uf ?_
    | with_reducible refine op_b0 ?_
    | with_reducible refine op_i0 ?_
    | with_reducible refine op_eqI ?_
    | with_reducible refine op_neI ?_
    | with_reducible refine op_eqS ?_
    | with_reducible refine op_neS ?_
    | with_reducible refine op_notInS ?_
    | with_reducible refine op_inS ?_
    | with_reducible refine op_gtS ?_
    | with_reducible refine co ?_
    | with_reducible refine cor ?_
    | with_reducible refine fzl ?_
    | with_reducible refine fzi ?_
    | with_reducible refine fzd ?_
    | with_reducible refine exO ?_
    | with_reducible refine exB ?_
    | with_reducible refine exS ?_
    | with_reducible refine exI ?_)))
/-- the class of the turns -/
structure TurnsC (K : PySem.W.Frag) (C : Addr) : Prop where
  cl : Cls K C
  na_own_text : NoAttr K C "own_text"
  na_own_players : NoAttr K C "own_players"
  isi : IsiC K C
theorem kit_same {K : PySem.W.Frag} {t : Value} : PySem.W.kitOne K t t = some true := by
  unfold PySem.W.kitOne
  rw [if_pos (beq_self_eq_true t)]
def tf (l : List Nat) (n : Nat) : List (Str × D) := [("own_text", .str (st l)), ("own_players", .int n)]
def tu (C : Addr) (l : List Nat) (n : Nat) : D := .obj C (tf l n)
def TOk (l : List Nat) (n : Nat) : Prop := (∀ c ∈ l, 65 ≤ c ∧ c < 65 + n) ∧ 1 ≤ l.length ∧ l.length ≤ 2000 ∧ 2 ≤ n ∧ n ≤ 6
def pIsInt : DSp := fun r m Φ Ψ => ∃ i, r = [.fz (.int i)] ∧ m = [] ∧ Φ (.fz (.bl true)) []
def pInRange : DSp := fun r m Φ Ψ => ∃ v a b, r = [.fz (.int v), .fz (.int a), .fz (.int b)] ∧ m = [] ∧ Φ (.fz (.bl (decide (a ≤ v ∧ v ≤ b)))) []
def pCheckNumber : DSp := fun r m Φ Ψ => ∃ v a b, r = [.fz (.int v), .fz (.int a), .fz (.int b)] ∧ m = [] ∧ a ≤ v ∧ v ≤ b ∧ Φ (.fz .non) []
def pCheckLength : DSp := fun r m Φ Ψ => ∃ v, r = [.fz (.int v)] ∧ m = [] ∧ v ≤ 2000 ∧ Φ (.fz .non) []
def pInit (C : Addr) : DSp := fun r m Φ Ψ => ∃ l n, r = [.ow 0, .fz (.str (st l)), .fz (.int (n : Nat))] ∧ m = [.i C []] ∧ TOk l n ∧ Φ (.fz .non) [.i C (tf l n)]
def pEq (C : Addr) : DSp := fun r m Φ Ψ => ∃ l n l' n', r = [.fz (tu C l n), .fz (tu C l' n')] ∧ m = [] ∧ Φ (.fz (.bl (decide (l = l' ∧ n = n')))) []
def pLen (C : Addr) : DSp := fun r m Φ Ψ => ∃ l n, r = [.fz (tu C l n)] ∧ m = [] ∧ l.length ≤ 2000 ∧ Φ (.fz (.int l.length)) []
def pCheckTurns (C : Addr) : DSp := fun r m Φ Ψ => ∃ l n, r = [.fz (tu C l n)] ∧ m = [] ∧ Φ (.fz .non) []
def tus (C : Addr) (n : Nat) (ls : List (List Nat)) : List D := ls.map fun l => tu C l n
def pCheckFactors (C : Addr) : DSp := fun r m Φ Ψ => ∃ ls n, r = [.fz (.tup (tus C n ls))] ∧ m = [] ∧ ls ≠ [] ∧ Φ (.fz .non) []
/-- a letter plus a letter -/
def plus (n c d : Nat) : Nat := 65 + ((c - 65) + (d - 65)) % n
def shift (n c : Nat) (l : List Nat) : List Nat := l.map fun d => plus n c d
def prod (n : Nat) (l l' : List Nat) : List Nat := l.flatMap fun c => shift n c l'
def Let (n : Nat) (l : List Nat) : Prop := ∀ c ∈ l, 65 ≤ c ∧ c < 65 + n
def pRaised : DSp := fun r m Φ Ψ => ∃ l c n, r = [.fz (.str (st l)), .fz (.str (st [c])), .fz (.int (n : Nat))] ∧ m = [] ∧ 1 ≤ n ∧ n ≤ 6 ∧ Let n l ∧ 65 ≤ c ∧ c < 65 + n ∧ l.length ≤ 2000 ∧ Φ (.fz (.str (st (shift n c l)))) []
def pProd2 (C : Addr) : DSp := fun r m Φ Ψ => ∃ l l' n, r = [.fz (tu C l n), .fz (tu C l' n)] ∧ m = [] ∧ TOk l n ∧ TOk l' n ∧ l.length * l'.length ≤ 2000 ∧ Φ (.fr (.i C (tf (prod n l l') n))) []
def prods (n : Nat) : List Nat → List (List Nat) → List Nat
  | l, [] => l
  | l, l' :: ls => prods n (prod n l l') ls
def lens : List (List Nat) → Nat
  | [] => 1
  | l :: ls => l.length * lens ls
def pProduct (C : Addr) : DSp := fun r m Φ Ψ => ∃ l ls n, r = [.fz (.tup (tus C n (l :: ls)))] ∧ m = [] ∧ (∀ x ∈ l :: ls, TOk x n) ∧ lens (l :: ls) ≤ 2000 ∧ ls.length ≤ 3000 ∧ Φ (.fz (tu C (prods n l ls) n)) []
def pPower (C : Addr) : DSp := fun r m Φ Ψ => ∃ l n, ∃ e : Nat, r = [.fz (tu C l n), .fz (.int e)] ∧ m = [] ∧ TOk l n ∧ 1 ≤ e ∧ e ≤ 2000 ∧ l.length ^ e ≤ 2000 ∧ Φ (.fz (tu C (prods n l (List.replicate (e - 1) l)) n)) []
def pHand : DSp := fun r m Φ Ψ => ∃ ns, ∃ k : Nat, r = [.fz (.scr ns), .fz (.int k)] ∧ m = [] ∧ k ≤ 1000 ∧ ns.length ≤ 63 ∧ Φ (.fr .pl) []
def pDraw : DSp := fun r m Φ Ψ => ∃ n : Int, r = [.ow 0, .fz (.int n)] ∧ m = [.pl] ∧ 1 ≤ n ∧ n < 1000000000 ∧ ∀ v, 0 ≤ v → v < n → Φ (.fz (.int v)) [.pl]
def pText : DSp := fun r m Φ Ψ => ∃ n k : Nat, r = [.ow 0, .fz (.int n), .fz (.int k)] ∧ m = [.pl] ∧ 1 ≤ n ∧ n ≤ 6 ∧ 1 ≤ k ∧ k ≤ 1000 ∧ ∀ l, Let n l → 1 ≤ l.length → l.length ≤ k → Φ (.fz (.str (st l))) [.pl]
def pLawProd : DSp := fun r m Φ Ψ => ∃ l l' n, r = [.fz (.str (st l)), .fz (.str (st l')), .fz (.int (n : Nat))] ∧ m = [] ∧ 1 ≤ n ∧ n ≤ 6 ∧ Let n l ∧ Let n l' ∧ l.length * l'.length ≤ 4000 ∧ l.length ≤ 4000 ∧ l'.length ≤ 4000 ∧ Φ (.fz (.str (st (prod n l l')))) []
theorem shift_len {n c : Nat} {l : List Nat} : (shift n c l).length = l.length := by rw [shift, List.length_map]
theorem prod_len (n : Nat) (l l' : List Nat) : (prod n l l').length = l.length * l'.length := by
  induction l with
  | nil => rw [List.length_nil, Nat.zero_mul] <;> rfl
  | cons a r ih =>
    show (shift n a l' ++ prod n r l').length = _
    rw [List.length_append, ih, shift_len, List.length_cons, Nat.add_mul, Nat.one_mul, Nat.add_comm]
theorem plus_let {n c d : Nat} (hn : 1 ≤ n) : 65 ≤ plus n c d ∧ plus n c d < 65 + n := by
  unfold plus
  have := Nat.mod_lt ((c - 65) + (d - 65)) (show 0 < n by omega)
  omega
theorem prod_let {n : Nat} {l l' : List Nat} (hn : 1 ≤ n) : Let n (prod n l l') := fun x hx => by
  obtain ⟨c, _, hc⟩ := List.mem_flatMap.mp hx
  obtain ⟨d, _, rfl⟩ := List.mem_map.mp hc
  exact plus_let hn
theorem lens_append (a b : List (List Nat)) : lens (a ++ b) = lens a * lens b := by
  induction a with
  | nil => rw [List.nil_append, show lens [] = 1 from rfl, Nat.one_mul]
  | cons x r ih =>
    show x.length * lens (r ++ b) = x.length * lens r * lens b
    rw [ih, Nat.mul_assoc]
theorem lens_take {ls : List (List Nat)} {i : Nat} {l : List Nat} (h : ls[i]? = some l) : lens (ls.take (i + 1)) = lens (ls.take i) * l.length := by
  have e : ls.take (i + 1) = ls.take i ++ [l] := by
    rw [List.take_add_one, h] <;> rfl
  rw [e, lens_append]
  show _ * (l.length * 1) = _
  rw [Nat.mul_one]
theorem tus_len {C : Addr} {n : Nat} {ls : List (List Nat)} : (tus C n ls).length = ls.length := by rw [tus, List.length_map]
theorem cut1 {C : Addr} {n : Nat} {l : List Nat} {ls : List (List Nat)} : cutD (tus C n (l :: ls)) (some 1) none = tus C n ls := by
  unfold cutD
  have e1 : HT.sIx (tus C n (l :: ls)).length 0 (some 1) = 1 := by
    refine (HT.sIx_nat _ 0 1).trans ?_
    rw [tus, List.length_map, List.length_cons]
    omega
  rw [e1]
  show ((tus C n ls).take ((tus C n (l :: ls)).length - 1)) = _
  rw [List.take_of_length_le]
  rw [tus, tus, List.length_map, List.length_map, List.length_cons]
  omega
theorem prods_len {n : Nat} : ∀ {l : List Nat} {ls : List (List Nat)}, (prods n l ls).length = l.length * lens ls
  | l, [] => by show l.length = l.length * 1; rw [Nat.mul_one]
  | l, x :: r => by
    show (prods n (prod n l x) r).length = l.length * (x.length * lens r)
    rw [prods_len, prod_len, Nat.mul_assoc]
theorem prods_snoc {n : Nat} {x : List Nat} : ∀ {l : List Nat} {ls : List (List Nat)}, prods n l (ls ++ [x]) = prod n (prods n l ls) x
  | l, [] => rfl
  | l, y :: r => prods_snoc (l := prod n l y) (ls := r)
theorem lens_pos : ∀ {ls : List (List Nat)}, (∀ x ∈ ls, 1 ≤ x.length) → 1 ≤ lens ls
  | [], _ => Nat.le_refl 1
  | x :: r, h => Nat.mul_pos (h x (List.mem_cons_self ..)) (lens_pos fun y hy => h y (List.mem_cons_of_mem _ hy))
theorem prods_ok {n : Nat} {l : List Nat} {ls : List (List Nat)} (hl : TOk l n) (h : ∀ x ∈ ls, TOk x n) (hz : (prods n l ls).length ≤ 2000) : TOk (prods n l ls) n := by
  obtain ⟨a, b, c, d, e⟩ := hl
  refine ⟨?_, by rw [prods_len]; exact Nat.mul_pos b (lens_pos fun x hx => (h x hx).2.1), hz, d, e⟩
  have : ∀ {l : List Nat} {ls : List (List Nat)}, Let n l → Let n (prods n l ls) := by
    intro l ls
    induction ls generalizing l with
    | nil => exact fun h => h
    | cons x r ih => exact fun _ => ih (prod_let (by omega))
  exact this a
theorem rep_flat {α : Type} {a : α} : ∀ {n : Nat}, (List.replicate n [a]).flatten = List.replicate n a
  | 0 => rfl
  | n + 1 => by rw [List.replicate_succ, List.flatten_cons, rep_flat, List.replicate_succ] <;> rfl
theorem lens_rep {l : List Nat} {e : Nat} (h : 1 ≤ e := by assumption) : lens (l :: List.replicate (e - 1) l) = l.length ^ e := by
  have : ∀ k, lens (List.replicate k l) = l.length ^ k := fun k => by
    induction k with
    | zero => rfl
    | succ k ih =>
      show l.length * lens (List.replicate k l) = _
      rw [ih, Nat.pow_succ, Nat.mul_comm]
  show l.length * lens (List.replicate (e - 1) l) = _
  rw [this, Nat.mul_comm, ← Nat.pow_succ, Nat.succ_eq_add_one, Nat.sub_add_cancel h]
theorem plus_sub {n c d : Nat} : plus n c d - 65 = ((c - 65) + (d - 65)) % n := by unfold plus; omega
theorem plus_assoc {n a b c : Nat} : plus n (plus n a b) c = plus n a (plus n b c) := by
  show 65 + ((plus n a b - 65) + (c - 65)) % n = 65 + ((a - 65) + (plus n b c - 65)) % n
  rw [plus_sub, plus_sub, Nat.mod_add_mod, Nat.add_mod_mod, Nat.add_assoc]
theorem shift_shift {n a c : Nat} {l : List Nat} : shift n (plus n a c) l = shift n a (shift n c l) := by
  rw [shift, shift, shift, List.map_map]
  apply List.map_congr_left
  intro d _
  exact plus_assoc
theorem shift_app {n a : Nat} {l l' : List Nat} : shift n a (l ++ l') = shift n a l ++ shift n a l' := by rw [shift, shift, shift, List.map_append]
theorem prod_app {n : Nat} {l l' c : List Nat} : prod n (l ++ l') c = prod n l c ++ prod n l' c := by rw [prod, prod, prod, List.flatMap_append]
theorem shift_prod {n a : Nat} {b c : List Nat} : prod n (shift n a b) c = shift n a (prod n b c) := by
  induction b with
  | nil => rfl
  | cons x r ih =>
    show shift n (plus n a x) c ++ prod n (shift n a r) c = shift n a (shift n x c ++ prod n r c)
    rw [shift_app, ih, shift_shift]
theorem prod_assoc {n : Nat} {a b c : List Nat} : prod n (prod n a b) c = prod n a (prod n b c) := by
  induction a with
  | nil => rfl
  | cons x r ih =>
    show prod n (shift n x b ++ prod n r b) c = shift n x (prod n b c) ++ prod n r (prod n b c)
    rw [prod_app, ih, shift_prod]
theorem shift_unit {n : Nat} {l : List Nat} (h : Let n l) : shift n 65 l = l := by
  rw [shift]
  have : ∀ d ∈ l, plus n 65 d = d := fun d hd => by
    have := h d hd
    unfold plus
    rw [Nat.sub_self, Nat.zero_add, Nat.mod_eq_of_lt (by omega)]
    omega
  rw [List.map_congr_left this]
  exact List.map_id' l
theorem prod_unitL {n : Nat} {l : List Nat} (h : Let n l) : prod n [65] l = l := by
  show shift n 65 l ++ [] = l
  rw [List.append_nil, shift_unit h]
theorem prod_unitR {n : Nat} {l : List Nat} (h : Let n l) : prod n l [65] = l := by
  induction l with
  | nil => rfl
  | cons x r ih =>
    show [plus n x 65] ++ prod n r [65] = x :: r
    rw [ih fun y hy => h y (List.mem_cons_of_mem _ hy)]
    have hx := h x (List.mem_cons_self ..)
    unfold plus
    rw [Nat.sub_self, Nat.add_zero, Nat.mod_eq_of_lt (by omega)]
    show (65 + (x - 65)) :: r = _
    rw [show 65 + (x - 65) = x from by omega]
theorem up_to {a b i j : Nat} (h : a ≤ i) (h' : b ≤ j) : a * b ≤ i * j := Nat.mul_le_mul h h'
theorem pow_le5 {a i : Nat} (h : a ≤ 5) (hi : i < 3) : a ^ (i + 1) ≤ 125 := by
  have h1 : a ^ (i + 1) ≤ 5 ^ (i + 1) := Nat.pow_le_pow_left h _
  have h2 : 5 ^ (i + 1) ≤ 5 ^ 3 := Nat.pow_le_pow_right (by omega) (by omega)
  omega
theorem strOk_st {n : Nat} {l : List Nat} (h : Let n l) (hn : n ≤ 6) : PyData.strOk (st l) = true := by
  unfold PyData.strOk st
  rw [List.all_toArray, List.all_eq_true]
  intro c hc
  have := h c hc
  exact decide_eq_true (by omega)
def t_is_integer (K : PySem.W.Frag)  : TS :=
  (tRet (tAndV (tCB (rIsi K) (tCons (tVar 0) (tCons (tC (.ty "int")) tNil))) (tNotV (tCB (rIsi K) (tCons (tVar 0) (tCons (tC (.ty "bool")) tNil))))))
def t_in_range (K : PySem.W.Frag)  : TS :=
  (tRet (tAndV (tCall (lift K 1 pIsInt) [] E0 (tCons (tVar 0) tNil)) (tChain bLe bLe (tVar 1) (tVar 0) (tVar 2))))
def t_check_number (K : PySem.W.Frag)  : TS :=
  (tIfS (tNot (tB (tCall (lift K 3 pInRange) [] E0 (tCons (tVar 0) (tCons (tVar 1) (tCons (tVar 2) tNil)))))) tNever tNext)
def t_check_length (K : PySem.W.Frag)  : TS :=
  (tIfS (tTest (tOp bGt (tVar 0) (tC (.int 2000)))) tNever tNext)
def t_init_Turns (K : PySem.W.Frag)  : TS :=
  (tSeq (tIfS (tOr (tNot (tB (tCB (rIsi K) (tCons (tVar 1) (tCons (tC (.ty "str")) tNil))))) (tOr (tNot (tTest (tChain bLe bLe (tC (.int 1)) (tCB rLenS (tCons (tVar 1) tNil)) (tC (.int 2000))))) (tB (tCB (rAny K) (tCons (tLc (iStr (tVar 1)) (gName 3) tYes (tOp rNotInC (tVar 3) (tC (.str "ABCDEF"))) [3]) tNil))))) tNever tNext)
  (tSeq (tIfS (tOr (tNot (tB (tCall (lift K 3 pInRange) [] E0 (tCons (tVar 2) (tCons (tC (.int 2)) (tCons (tCB rLenS (tCons (tC (.str "ABCDEF")) tNil)) tNil)))))) (tTest (tOp sGt (tCB rMaxS (tCons (tVar 1) tNil)) (tOp rIxS (tC (.str "ABCDEF")) (tOp iSub (tVar 2) (tC (.int 1))))))) tNever tNext)
  (tSeq (sFld K (tVar 0) (tVar 1) "own_text")
  (sFld K (tVar 0) (tVar 2) "own_players"))))
def t_eq_Turns (K : PySem.W.Frag) (C_Turns : Addr) : TS :=
  (tSeq (tIfS (tNot (tB (tCB (rIsi K) (tCons (tVar 1) (tCons (tC (.ref C_Turns)) tNil))))) (tRet (tC (.bl false))) tNext)
  (tRet (tAndV (tOp rEq (tFld K (tVar 0) "own_text") (tFld K (tVar 1) "own_text")) (tOp rEq (tFld K (tVar 0) "own_players") (tFld K (tVar 1) "own_players")))))
def t_len_Turns (K : PySem.W.Frag)  : TS :=
  (tRet (tCB rLenS (tCons (tFld K (tVar 0) "own_text") tNil)))
def t_check_turns (K : PySem.W.Frag) (C_Turns : Addr) : TS :=
  (tIfS (tNot (tB (tCB (rIsi K) (tCons (tVar 0) (tCons (tC (.ref C_Turns)) tNil))))) tNever tNext)
def t_check_factors (K : PySem.W.Frag) (C_Turns : Addr) : TS :=
  (tSeq (tIfS (tTest (tOp rEq (tCB (rLenQ K) (tCons (tVar 0) tNil)) (tC (.int 0)))) tNever tNext)
  (tFor (iEnumS (SrcV K) (tCons (tVar 0) tNil)) (gTup K 2 (gNames [1, 2])) (tIfS (tOr (tNot (tB (tCB (rIsi K) (tCons (tVar 2) (tCons (tC (.ref C_Turns)) tNil))))) (tTest (tOp rNe (tProp C_Turns (getSp C_Turns "own_players") [] E0 (tVar 2)) (tProp C_Turns (getSp C_Turns "own_players") [] E0 (tOp (rIxT K) (tVar 0) (tC (.int 0))))))) tNever tNext)))
def t_raised (K : PySem.W.Frag)  : TS :=
  (tSeq (tAsg (tM1 rSIndex (tC (.str "ABCDEF")) (tVar 1)) (gName 3))
  (tRet (tM1 (rJoin K) (tC (.str "")) (tLc (iStr (tVar 0)) (gName 4) tYes (tOp rIxS (tC (.str "ABCDEF")) (tOp iMod (tOp iAdd (tM1 rSIndex (tC (.str "ABCDEF")) (tVar 4)) (tVar 3)) (tVar 2))) [4]))))
def t_product_of_two (K : PySem.W.Frag) (C_Turns : Addr) : TS :=
  (tSeq (tAsg (tDc (iStr (tSl rSlS (tC (.str "ABCDEF")) tNoPart (tPart (tProp C_Turns (getSp C_Turns "own_players") [] E0 (tVar 0))))) (gName 3) tYes (tVar 3) (tCall (lift K 3 pRaised) [] E0 (tCons (tProp C_Turns (getSp C_Turns "own_text") [] E0 (tVar 1)) (tCons (tVar 3) (tCons (tProp C_Turns (getSp C_Turns "own_players") [] E0 (tVar 0)) tNil)))) [3]) (gName 2))
  (tRet (tMake C_Turns (lift K 3 (pInit C_Turns)) [] E0 (tCons (tM1 (rJoin K) (tC (.str "")) (tLc (iStr (tProp C_Turns (getSp C_Turns "own_text") [] E0 (tVar 0))) (gName 4) tYes (tDGet (tVar 2) (tVar 4)) [4])) (tCons (tProp C_Turns (getSp C_Turns "own_players") [] E0 (tVar 0)) tNil)))))
def t_product (K : PySem.W.Frag) (C_Turns : Addr) : TS :=
  (tSeq (tDrop (tCall (lift K 1 (pCheckFactors C_Turns)) [] E0 (tCons (tVar 0) tNil)))
  (tSeq (tAsg (tC (.int 1)) (gName 1))
  (tSeq (tFor (iTup K (tVar 0)) (gName 2) (tAug 1 (tCB (rLenOwn C_Turns (lift K 1 (pLen C_Turns)) E0) (tCons (tVar 2) tNil)) iMul))
  (tSeq (tDrop (tCall (lift K 1 pCheckLength) [] E0 (tCons (tVar 1) tNil)))
  (tSeq (tAsg (tOp (rIxT K) (tVar 0) (tC (.int 0))) (gName 3))
  (tSeq (tFor (iTup K (tSl (rSlT K) (tVar 0) (tPart (tC (.int 1))) tNoPart)) (gName 2) (tAsg (tCall (lift K 2 (pProd2 C_Turns)) [] E0 (tCons (tVar 3) (tCons (tVar 2) tNil))) (gName 3)))
  (tRet (tVar 3))))))))
def t_power (K : PySem.W.Frag) (C_Turns : Addr) : TS :=
  (tSeq (tDrop (tCall (lift K 1 (pCheckTurns C_Turns)) [] E0 (tCons (tVar 0) tNil)))
  (tSeq (tDrop (tCall (lift K 3 pCheckNumber) [] E0 (tCons (tVar 1) (tCons (tC (.int 1)) (tCons (tC (.int 2000)) tNil)))))
  (tSeq (tAsg (tC (.int 1)) (gName 2))
  (tSeq (tFor (iRng1 (tCons (tVar 1) tNil)) (gName 3) (tAug 2 (tCB (rLenOwn C_Turns (lift K 1 (pLen C_Turns)) E0) (tCons (tVar 0) tNil)) iMul))
  (tSeq (tDrop (tCall (lift K 1 pCheckLength) [] E0 (tCons (tVar 2) tNil)))
  (tSeq (tAsg (tOp rRep (tLst (tCons (tVar 0) tNil)) (tVar 1)) (gName 4))
  (tRet (tCallS1 K (spStar K 0 (pProduct C_Turns)) E0 (tVar 4)))))))))
def t__law_hand (K : PySem.W.Frag)  : TS :=
  (tSeq (tAsg (tOp (rIxL K) (tOp rCat (tSl (rSlL K) (tVar 0) (tPart (tVar 1)) (tPart (tOp iAdd (tVar 1) (tC (.int 1))))) (tLst (tCons (tC (.int 0)) tNil))) (tC (.int 0))) (gName 2))
  (tSeq (tAsg (tOp iMod (tOp iMul (tOp iAdd (tOp iAdd (tOp iMod (tVar 2) (tC (.int 2147483647))) (tOp iMul (tC (.int 7919)) (tVar 1))) (tC (.int 1))) (tC (.int 48271))) (tC (.int 2147483629))) (gName 3))
  (tRet (tLst (tCons (tOp iMul (tCB rInt1 (tCons (tOp bGe (tVar 2) (tOp iPow (tC (.int 10)) (tC (.int 18)))) tNil)) (tVar 2)) (tCons (tVar 3) tNil))))))
def t__law_draw (K : PySem.W.Frag)  : TS :=
  (tSeq (tIfS (tTest (tOp bGt (tOp (rIxL K) (tVar 0) (tC (.int 0))) (tC (.int 0)))) (tSeq (tAsg (tOp iMod (tOp (rIxL K) (tVar 0) (tC (.int 0))) (tVar 1)) (gName 2))
  (tSeq (tAsg (tOp iDiv (tOp (rIxL K) (tVar 0) (tC (.int 0))) (tVar 1)) (gSub (tVar 0) (tC (.int 0)) rSetL))
  (tRet (tVar 2)))) tNext)
  (tSeq (tAsg (tOp iMod (tOp iAdd (tOp iMul (tOp (rIxL K) (tVar 0) (tC (.int 1))) (tC (.int 48271))) (tC (.int 11))) (tC (.int 2147483647))) (gSub (tVar 0) (tC (.int 1)) rSetL))
  (tRet (tOp iMod (tOp iDiv (tOp iMod (tOp iMul (tOp (rIxL K) (tVar 0) (tC (.int 1))) (tOp (rIxL K) (tVar 0) (tC (.int 1)))) (tC (.int 2147483629))) (tC (.int 64))) (tVar 1)))))
def t__law_text (K : PySem.W.Frag)  : TS :=
  (tSeq (tAsg (tSl rSlS (tC (.str "ABCDEF")) tNoPart (tPart (tVar 1))) (gName 3))
  (tRet (tM1 (rJoin K) (tC (.str "")) (tLc (iRng1 (tCons (tOp iAdd (tC (.int 1)) (tCallO (lift K 2 pDraw) [] E0 (tCons (tVar 0) (tCons (tVar 2) tNil)))) tNil)) (gName 4) tYes (tOp rIxS (tVar 3) (tCallO (lift K 2 pDraw) [] E0 (tCons (tVar 0) (tCons (tVar 1) tNil)))) [4]))))
def t__law_product (K : PySem.W.Frag)  : TS :=
  (tSeq (tAsg (tC (.str "ABCDEF")) (gName 3))
  (tSeq (tAsg (tC (.str "")) (gName 4))
  (tSeq (tFor (iStr (tVar 0)) (gName 5) (tFor (iStr (tVar 1)) (gName 6) (tSeq (tAsg (tOp iAdd (tM1 rSIndex (tVar 3) (tVar 5)) (tM1 rSIndex (tVar 3) (tVar 6))) (gName 7))
  (tAsg (tOp rAddS (tVar 4) (tOp rIxS (tVar 3) (tOp iMod (tVar 7) (tVar 2)))) (gName 4)))))
  (tRet (tVar 4)))))
def t_law (K : PySem.W.Frag) (C_Turns : Addr) : TS :=
  (tSeq (tFor (iRng1 (tCons (tCB rMax2 (tCons (tC (.int 2)) (tCons (tCB rMin2 (tCons (tCB (rLenQ K) (tCons (tVar 0) tNil)) (tCons (tC (.int 16)) tNil))) tNil))) tNil)) (gName 1) (tSeq (tAsgO (tCall (lift K 2 pHand) [] E0 (tCons (tVar 0) (tCons (tVar 1) tNil))) (gName 2))
  (tSeq (tAsg (tOp iAdd (tC (.int 2)) (tCallO (lift K 2 pDraw) [] E0 (tCons (tVar 2) (tCons (tC (.int 5)) tNil)))) (gName 3))
  (tSeq (tAsg (tLc (iRng1 (tCons (tC (.int 3)) tNil)) (gName 13) tYes (tCallO (lift K 3 pText) [] E0 (tCons (tVar 2) (tCons (tVar 3) (tCons (tC (.int 5)) tNil)))) [13]) (gName 4))
  (tSeq (tAsg (tLc (iList K (tVar 4)) (gName 14) tYes (tMake C_Turns (lift K 3 (pInit C_Turns)) [] E0 (tCons (tVar 14) (tCons (tVar 3) tNil))) [14]) (gUnl K 3 (gNames [5, 6, 7])))
  (tSeq (tAsg (tCall (lift K 3 pLawProd) [] E0 (tCons (tOp (rIxL K) (tVar 4) (tC (.int 0))) (tCons (tOp (rIxL K) (tVar 4) (tC (.int 1))) (tCons (tVar 3) tNil)))) (gName 8))
  (tSeq (tAsg (tCall (lift K 3 pLawProd) [] E0 (tCons (tVar 8) (tCons (tOp (rIxL K) (tVar 4) (tC (.int 2))) (tCons (tVar 3) tNil)))) (gName 9))
  (tSeq (tIfS (tOr (tTest (tOp (rOwnNe C_Turns (lift K 2 (pEq C_Turns)) E0) (tCallR (spStar K 0 (pProduct C_Turns)) E0 (tCons (tVar 5) tNil)) (tVar 5))) (tTest (tOp (rOwnNe C_Turns (lift K 2 (pEq C_Turns)) E0) (tCallR (spStar K 0 (pProduct C_Turns)) E0 (tCons (tVar 5) (tCons (tVar 6) tNil))) (tMake C_Turns (lift K 3 (pInit C_Turns)) [] E0 (tCons (tVar 8) (tCons (tVar 3) tNil)))))) (tRet (tC (.bl false))) tNext)
  (tSeq (tIfS (tOr (tTest (tOp (rOwnNe C_Turns (lift K 2 (pEq C_Turns)) E0) (tCallR (spStar K 0 (pProduct C_Turns)) E0 (tCons (tVar 5) (tCons (tVar 6) (tCons (tVar 7) tNil)))) (tMake C_Turns (lift K 3 (pInit C_Turns)) [] E0 (tCons (tVar 9) (tCons (tVar 3) tNil))))) (tTest (tOp rNe (tProp C_Turns (getSp C_Turns "own_text") [] E0 (tCallR (spStar K 0 (pProduct C_Turns)) E0 (tCons (tVar 5) (tCons (tCallR (spStar K 0 (pProduct C_Turns)) E0 (tCons (tVar 6) (tCons (tVar 7) tNil))) tNil)))) (tVar 9)))) (tRet (tC (.bl false))) tNext)
  (tSeq (tAsg (tMake C_Turns (lift K 3 (pInit C_Turns)) [] E0 (tCons (tC (.str "A")) (tCons (tVar 3) tNil))) (gName 10))
  (tSeq (tIfS (tOr (tTest (tOp (rOwnNe C_Turns (lift K 2 (pEq C_Turns)) E0) (tCallR (spStar K 0 (pProduct C_Turns)) E0 (tCons (tVar 10) (tCons (tVar 5) tNil))) (tVar 5))) (tTest (tOp (rOwnNe C_Turns (lift K 2 (pEq C_Turns)) E0) (tCallR (spStar K 0 (pProduct C_Turns)) E0 (tCons (tVar 5) (tCons (tVar 10) (tCons (tVar 10) tNil)))) (tVar 5)))) (tRet (tC (.bl false))) tNext)
  (tSeq (tAsg (tOp (rIxL K) (tVar 4) (tC (.int 0))) (gName 11))
  (tSeq (tFor (iRng2 (tCons (tC (.int 1)) (tCons (tC (.int 4)) tNil))) (gName 12) (tSeq (tIfS (tTest (tOp (rOwnNe C_Turns (lift K 2 (pEq C_Turns)) E0) (tCall (lift K 2 (pPower C_Turns)) [] E0 (tCons (tVar 5) (tCons (tVar 12) tNil))) (tMake C_Turns (lift K 3 (pInit C_Turns)) [] E0 (tCons (tVar 11) (tCons (tVar 3) tNil))))) (tRet (tC (.bl false))) tNext)
  (tAsg (tCall (lift K 3 pLawProd) [] E0 (tCons (tVar 11) (tCons (tOp (rIxL K) (tVar 4) (tC (.int 0))) (tCons (tVar 3) tNil)))) (gName 11))))
  (tIfS (tTest (tOp (rNeD K) (tLst (tCons (tProp C_Turns (getSp C_Turns "own_text") [] E0 (tVar 5)) (tCons (tProp C_Turns (getSp C_Turns "own_text") [] E0 (tVar 6)) (tCons (tProp C_Turns (getSp C_Turns "own_text") [] E0 (tVar 7)) tNil)))) (tVar 4))) (tRet (tC (.bl false))) tNext))))))))))))))
  (tRet (tC (.bl true))))
theorem ws_is_integer {K : PySem.W.Frag} {B0 : Hp} {E : XK} {r : List Sl} {m : List OO} {Φ : OV → List OO → Prop} {Ψ : Er → Prop} (hp : pIsInt r m Φ Ψ) (hl : r.length = 1) : WS ⟨K, B0, E, Ψ⟩ (t_is_integer K) (r ++ List.replicate 0 .un) m (rets m.length Φ) := by
  obtain ⟨i, rfl, rfl, q⟩ := hp
  unfold t_is_integer
  walk_at "dl"
  refine cb_isi rfl .int .ty (kit_ty (r := true) (by decide +kernel)) ?_
  walk_at "dl"
  refine ⟨fun _ => ?_, fun z => by cases z⟩
  walk_at "dl"
  refine cb_isi rfl .int .ty (kit_ty (r := false) (by decide +kernel)) ?_
  walk_at "dl"
  exact q
theorem ws_in_range {K : PySem.W.Frag} {B0 : Hp} {E : XK} {r : List Sl} {m : List OO} {Φ : OV → List OO → Prop} {Ψ : Er → Prop} (hp : pInRange r m Φ Ψ) (hl : r.length = 3) : WS ⟨K, B0, E, Ψ⟩ (t_in_range K) (r ++ List.replicate 0 .un) m (rets m.length Φ) := by
  obtain ⟨v, a, b, rfl, rfl, q⟩ := hp
  unfold t_in_range
  walk_at "dl"
  refine ⟨_, rfl, rfl, v, rfl, rfl, ?_⟩
  walk_at "dl"
  refine ⟨fun _ => ?_, fun z => by cases z⟩
  walk_at "dl"
  refine ⟨fun h1 => ?_, fun h1 => ?_⟩
  · walk_at "dl"
    have e : decide (v ≤ b) = decide (a ≤ v ∧ v ≤ b) := by simp [of_decide_eq_true h1]
    rw [e]; exact q
  · have e : false = decide (a ≤ v ∧ v ≤ b) := by simp [of_decide_eq_false h1]
    walk_at "dl"
    rw [e]; exact q
theorem ws_check_number {K : PySem.W.Frag} {B0 : Hp} {E : XK} {r : List Sl} {m : List OO} {Φ : OV → List OO → Prop} {Ψ : Er → Prop} (hp : pCheckNumber r m Φ Ψ) (hl : r.length = 3) : WS ⟨K, B0, E, Ψ⟩ (t_check_number K) (r ++ List.replicate 0 .un) m (rets m.length Φ) := by
  obtain ⟨v, a, b, rfl, rfl, h1, h2, q⟩ := hp
  unfold t_check_number
  walk_at "dl"
  refine ⟨_, rfl, rfl, v, a, b, rfl, rfl, ?_⟩
  walk_at "dl"
  refine ⟨fun z => ?_, fun z => ?_⟩
  · simp [h1, h2] at z
  · walk_at "dl"
    exact q
theorem ws_check_length {K : PySem.W.Frag} {B0 : Hp} {E : XK} {r : List Sl} {m : List OO} {Φ : OV → List OO → Prop} {Ψ : Er → Prop} (hp : pCheckLength r m Φ Ψ) (hl : r.length = 1) : WS ⟨K, B0, E, Ψ⟩ (t_check_length K) (r ++ List.replicate 0 .un) m (rets m.length Φ) := by
  obtain ⟨v, rfl, rfl, h1, q⟩ := hp
  unfold t_check_length
  walk_at "dl"
  refine ⟨fun z => ?_, fun z => ?_⟩
  · have := of_decide_eq_true z
    omega
  · walk_at "dl"
    exact q
theorem ws_init_Turns {K : PySem.W.Frag} {C : Addr} (T : TurnsC K C) {B0 : Hp} {E : XK} {r : List Sl} {m : List OO} {Φ : OV → List OO → Prop} {Ψ : Er → Prop} (hp : (pInit C) r m Φ Ψ) (hl : r.length = 3) : WS ⟨K, B0, E, Ψ⟩ (t_init_Turns K) (r ++ List.replicate 1 .un) m (rets m.length Φ) := by
  obtain ⟨l, n, rfl, rfl, ⟨ha, hb, hc, hd, he⟩, q⟩ := hp
  have hlen : (st l).length ≤ sizeLine := by rw [st_len]; exact sz (by omega)
  unfold t_init_Turns
  walk_at "dl"
  refine cb_isi rfl .str .ty (kit_ty (r := true) (by decide +kernel)) ?_
  walk_at "dl"
  refine ⟨fun z => absurd z (by decide), fun _ => ?_⟩
  walk_at "dl"
  refine cb_lenS hlen ?_
  walk_at "dl"
  refine ⟨fun h1 => ?_, fun h1 => ?_⟩
  · walk_at "dl"
    refine ⟨fun h2 => ?_, fun h2 => ?_⟩
    · rw [st_len] at h2; simp at h2; omega
    walk_at "dl"
    refine we_lc only1 (wi_str (wv_var rfl ⟨_, rfl, ?_⟩))
    refine lcMap (fun i => .bl false) (by rw [st_size]; exact sz (by omega)) (fun i hi => wg_name ?_) ?_
    · rw [st_size] at hi
      walk_at "dl"
      refine ⟨?_, rfl⟩
      have h3 := ha _ (getD_mem hi)
      have h4 : ((st l).cps.toList.getD i 0) ∈ (("ABCDEF" : Str).cps.toList) := by
        rw [abc]; exact abc_mem h3.1 (by rw [st_l]; omega)
      rw [decide_eq_true h4] <;> rfl
    walk_at "dl"
    refine cb_any (bs := (List.range (st l).cps.size).map fun _ => false) (by rw [List.map_map]; rfl) ?_
    walk_at "dl"
    have e : ((List.range (st l).cps.size).map fun _ => false).any id = false := by simp
    rw [e]
    refine ⟨fun z => absurd z (by decide), fun _ => ?_⟩
    walk_at "dl"
    refine cb_lenS (sz (by decide)) ?_
    walk_at "dl"
    refine ⟨_, rfl, rfl, n, 2, 6, rfl, rfl, ?_⟩
    walk_at "dl"
    refine ⟨fun z => ?_, fun _ => ?_⟩
    · simp at z; omega
    walk_at "dl"
    refine cb_maxS (by rw [st_size]; omega) fun c hc1 hc2 => ?_
    walk_at "dl"
    have e6 : ((n : Int) - 1) = ((n - 1 : Nat) : Int) := by omega
    rw [abc, e6]
    refine op_ixSS (sz (by decide)) (abc_ix (by omega)) ?_
    walk_at "dl"
    refine ⟨fun z => ?_, fun _ => ?_⟩
    · have h7 : [65 + (n - 1)] < [c] := of_decide_eq_true z
      have h8 := ha c hc1
      cases h7 with
      | rel h7 => omega
      | cons h7 => cases h7
    walk_at "dl"
    refine ws_fld ?_
    walk_at "dl"
    refine ⟨_, rfl, ?_⟩
    walk_at "dl"
    refine ⟨0, C, [], rfl, rfl, T.cl, T.na_own_text, by decide, ?_⟩
    refine ws_fld ?_
    walk_at "dl"
    refine ⟨_, rfl, ?_⟩
    walk_at "dl"
    refine ⟨0, C, _, rfl, rfl, T.cl, T.na_own_players, (by show 1 < 1000; decide), ?_⟩
    exact q
  · rw [st_len] at h1; simp at h1; omega
theorem ws_eq_Turns {K : PySem.W.Frag} {C : Addr} (T : TurnsC K C) {B0 : Hp} {E : XK} {r : List Sl} {m : List OO} {Φ : OV → List OO → Prop} {Ψ : Er → Prop} (hp : (pEq C) r m Φ Ψ) (hl : r.length = 2) : WS ⟨K, B0, E, Ψ⟩ (t_eq_Turns K C) (r ++ List.replicate 0 .un) m (rets m.length Φ) := by
  obtain ⟨l, n, l', n', rfl, rfl, q⟩ := hp
  unfold t_eq_Turns
  walk_at "dl"
  refine cb_isi rfl (.obj T.isi) .own kit_same ?_
  walk_at "dl"
  refine ⟨fun z => absurd z (by decide), fun _ => ?_⟩
  walk_at "dl"
  refine ⟨C, _, _, rfl, T.cl, T.na_own_text, rfl, ?_⟩
  walk_at "dl"
  refine ⟨C, _, _, rfl, T.cl, T.na_own_text, rfl, ?_⟩
  walk_at "dl"
  refine ⟨fun h1 => ?_, fun h1 => ?_⟩
  · walk_at "dl"
    refine ⟨C, _, _, rfl, T.cl, T.na_own_players, rfl, ?_⟩
    walk_at "dl"
    refine ⟨C, _, _, rfl, T.cl, T.na_own_players, rfl, ?_⟩
    walk_at "dl"
    rw [st_dec] at h1
    have h2 := of_decide_eq_true h1
    have e : decide ((n : Int) = n') = decide (l = l' ∧ n = n') := by
      rw [decide_eq_decide]
      exact ⟨fun z => ⟨h2, by omega⟩, fun z => by omega⟩
    rw [e]; exact q
  · rw [st_dec] at h1
    have h2 := of_decide_eq_false h1
    have e : false = decide (l = l' ∧ n = n') := by simp [h2]
    rw [e]; exact q
theorem ws_len_Turns {K : PySem.W.Frag} {C : Addr} (T : TurnsC K C) {B0 : Hp} {E : XK} {r : List Sl} {m : List OO} {Φ : OV → List OO → Prop} {Ψ : Er → Prop} (hp : (pLen C) r m Φ Ψ) (hl : r.length = 1) : WS ⟨K, B0, E, Ψ⟩ (t_len_Turns K) (r ++ List.replicate 0 .un) m (rets m.length Φ) := by
  obtain ⟨l, n, rfl, rfl, h1, q⟩ := hp
  unfold t_len_Turns
  walk_at "dl"
  refine ⟨C, _, _, rfl, T.cl, T.na_own_text, rfl, ?_⟩
  walk_at "dl"
  refine cb_lenS (by rw [st_len]; exact sz (by omega)) ?_
  rw [st_len]
  exact q
theorem ws_check_turns {K : PySem.W.Frag} {C : Addr} (T : TurnsC K C) {B0 : Hp} {E : XK} {r : List Sl} {m : List OO} {Φ : OV → List OO → Prop} {Ψ : Er → Prop} (hp : (pCheckTurns C) r m Φ Ψ) (hl : r.length = 1) : WS ⟨K, B0, E, Ψ⟩ (t_check_turns K C) (r ++ List.replicate 0 .un) m (rets m.length Φ) := by
  obtain ⟨l, n, rfl, rfl, q⟩ := hp
  unfold t_check_turns
  walk_at "dl"
  refine cb_isi rfl (.obj T.isi) .own kit_same ?_
  walk_at "dl"
  refine ⟨fun z => absurd z (by decide), fun _ => ?_⟩
  walk_at "dl"
  exact q
theorem ws_check_factors {K : PySem.W.Frag} {C : Addr} (T : TurnsC K C) {B0 : Hp} {E : XK} {r : List Sl} {m : List OO} {Φ : OV → List OO → Prop} {Ψ : Er → Prop} (hp : (pCheckFactors C) r m Φ Ψ) (hl : r.length = 1) : WS ⟨K, B0, E, Ψ⟩ (t_check_factors K C) (r ++ List.replicate 2 .un) m (rets m.length Φ) := by
  obtain ⟨ls, n, rfl, rfl, hne, q⟩ := hp
  unfold t_check_factors
  walk_at "dl"
  refine cb_lenT ?_
  walk_at "dl"
  refine ⟨fun h => ?_, fun _ => ?_⟩
  · have h := of_decide_eq_true h
    rw [tus, List.length_map] at h
    exact ws_dead (hne (List.length_eq_zero_iff.mp (by omega)))
  walk_at "dl"
  refine ws_for (wi_enumT (wa_cons (wv_var rfl (wa_nil ⟨_, rfl, ?_⟩))))
  refine ⟨fun i r' m' => ∃ a b, r' = [.fz (.tup (tus C n ls)), a, b] ∧ m' = [], ⟨_, _, rfl, rfl⟩, ?_, ?_⟩
  · rintro i r' m' hi ⟨a, b, rfl, rfl⟩
    have e : ∃ l, (tus C n ls).getD i .non = tu C l n := by
      rw [tus, List.length_map] at hi
      exact ⟨ls[i], by rw [tus, List.getD_eq_getElem?_getD, List.getElem?_map, List.getElem?_eq_getElem hi] <;> rfl⟩
    obtain ⟨l, e⟩ := e
    obtain ⟨l0, ls', rfl⟩ := List.exists_cons_of_ne_nil hne
    show WG _ _ (D.tup [_, (tus C n (l0 :: ls')).getD i .non]) _ _
    rw [e]
    refine wg_tup rfl rfl ?_
    walk_at "dl"
    refine cb_isi rfl (.obj T.isi) .own kit_same ?_
    walk_at "dl"
    refine ⟨fun z => absurd z (by decide), fun _ => ?_⟩
    walk_at "dl"
    refine ⟨_, _, rfl, rfl, ?_⟩
    walk_at "dl"
    refine op_ixT (a := tu C l0 n) at0 ?_
    walk_at "dl"
    refine ⟨_, _, rfl, rfl, ?_⟩
    walk_at "dl"
    refine ⟨fun z => ?_, fun _ => ?_⟩
    · simp at z
    walk_at "dl"
    exact ⟨_, _, rfl, rfl⟩
  · rintro r' m' ⟨a, b, rfl, rfl⟩
    exact q
theorem ws_raised {K : PySem.W.Frag} {B0 : Hp} {E : XK} {r : List Sl} {m : List OO} {Φ : OV → List OO → Prop} {Ψ : Er → Prop} (hp : pRaised r m Φ Ψ) (hl : r.length = 3) : WS ⟨K, B0, E, Ψ⟩ (t_raised K) (r ++ List.replicate 2 .un) m (rets m.length Φ) := by
  obtain ⟨l, c, n, rfl, rfl, hn1, hn6, hl, hc1, hc2, hlen, q⟩ := hp
  have hs : (st l).length ≤ sizeLine := by rw [st_len]; exact sz (by omega)
  unfold t_raised
  walk_at "dl"
  obtain ⟨rest, e⟩ := abc_index hc1 (by omega)
  refine mSIndex e ?_
  walk_at "dl"
  refine we_lc only1 (wi_str (wv_var rfl ⟨_, rfl, ?_⟩))
  refine lcMap (fun i => .str (st [plus n c (l.getD i 0)])) (by rw [st_size]; exact sz (by omega)) (fun i hi => wg_name ?_) ?_
  · rw [st_size] at hi
    have hd := hl _ (getD_mem hi)
    walk_at "dl"
    obtain ⟨rest', e'⟩ := abc_index (c := l.getD i 0) hd.1 (by omega)
    refine mSIndex e' ?_
    walk_at "dl"
    refine op_i (by omega) ?_
    walk_at "dl"
    have e6 : ((((l.getD i 0 - 65 : Nat) : Int) + ((c - 65 : Nat) : Int)) % (n : Int)) = ((((c - 65) + (l.getD i 0 - 65)) % n : Nat) : Int) := by
      rw [Int.natCast_emod, Int.natCast_add, Int.add_comm]
    rw [e6, abc]
    refine op_ixSS (sz (by decide)) (abc_ix (by have := Nat.mod_lt ((c - 65) + (l.getD i 0 - 65)) (show 0 < n by omega); omega)) ?_
    walk_at "dl"
    exact ⟨rfl, rfl⟩
  · walk_at "dl"
    have e1 : (List.range (st l).cps.size).map (fun i => D.str (st [plus n c (l.getD i 0)])) = ((shift n c l).map fun d => st [d]).map D.str := by
      rw [st_size, mapGetD (fun d => D.str (st [plus n c d])), shift, List.map_map, List.map_map] <;> rfl
    refine mJoin (ys := (shift n c l).map fun d => st [d]) (by rw [e1]; rfl) (len1 _ (by rw [shift, List.length_map]; omega)) ?_
    rw [join1]
    exact q
theorem ws_product_of_two {K : PySem.W.Frag} {C : Addr} (T : TurnsC K C) {B0 : Hp} {E : XK} {r : List Sl} {m : List OO} {Φ : OV → List OO → Prop} {Ψ : Er → Prop} (hp : (pProd2 C) r m Φ Ψ) (hl : r.length = 2) : WS ⟨K, B0, E, Ψ⟩ (t_product_of_two K C) (r ++ List.replicate 3 .un) m (rets m.length Φ) := by
  obtain ⟨l, l', n, rfl, rfl, ⟨ha, hb, hc, hd, he⟩, ⟨ha', hb', hc', _, _⟩, hll, q⟩ := hp
  have hlen : (st l).length ≤ sizeLine := by rw [st_len]; exact sz (by omega)
  unfold t_product_of_two
  walk_at "dl"
  refine we_dc only1 (wi_str ?_)
  walk_at "dl"
  refine ⟨_, _, rfl, rfl, ?_⟩
  walk_at "dl"
  refine slS (sz (by decide)) ?_
  rw [abc_cut he]
  walk_at "dl"
  refine ⟨by rw [st_size, List.length_map, List.length_range]; exact sz (by omega), fun i acc m' => acc = ((List.range i).map fun j => ((Sum.inr (st [65 + j]) : Key), D.str (st (shift n (65 + j) l')))) ∧ m' = [], ⟨rfl, rfl⟩, ?_, ?_⟩
  · rintro i acc m2 hi _ ⟨rfl, rfl⟩
    rw [st_size, List.length_map, List.length_range] at hi
    have e1 : (st (List.map (65 + ·) (List.range n))).cps.toList.getD i 0 = 65 + i := by
      rw [st_l, List.getD_eq_getElem?_getD, List.getElem?_map, List.getElem?_range hi] <;> rfl
    show WG _ _ (D.str ⟨#[(st (List.map (65 + ·) (List.range n))).cps.toList.getD i 0]⟩) _ _
    rw [e1]
    refine wg_name ?_
    walk_at "dl"
    refine ⟨fun _ => ?_, fun z => by cases z⟩
    walk_at "dl"
    refine ⟨_, _, rfl, rfl, any_range, ?_⟩
    walk_at "dl"
    refine ⟨_, _, rfl, rfl, ?_⟩
    walk_at "dl"
    refine ⟨_, _, rfl, rfl, ?_⟩
    walk_at "dl"
    refine ⟨_, rfl, rfl, l', 65 + i, n, rfl, rfl, by omega, he, ha', by omega, by omega, hc', ?_⟩
    walk_at "dl"
    refine ⟨_, rfl, ?_, rfl⟩
    rw [List.range_succ, List.map_append] <;> rfl
  · rintro acc m2 ⟨rfl, rfl⟩
    rw [st_size, List.length_map, List.length_range]
    walk_at "dl"
    refine we_lc only1 (wi_str ?_)
    walk_at "dl"
    refine ⟨_, _, rfl, rfl, ?_⟩
    walk_at "dl"
    refine lcMap (fun i => .str (st (shift n (l.getD i 0) l'))) (by rw [st_size]; exact sz (by omega)) (fun i hi => wg_name ?_) ?_
    · rw [st_size] at hi
      have hx := ha _ (getD_mem hi)
      refine wv_of (we_dget ?_)
      walk_at "dl"
      refine ⟨_, rfl, ?_⟩
      walk_at "dl"
      have e2 : 65 + (l.getD i 0 - 65) = l.getD i 0 := by omega
      have e3 := valK_range (g := fun j => D.str (st (shift n (65 + j) l'))) (n := n) (k := l.getD i 0 - 65) (by omega)
      rw [e2] at e3
      exact ⟨_, _, _, rfl, rfl, rfl, e3, rfl, rfl⟩
    · walk_at "dl"
      have e1 : (List.range (st l).cps.size).map (fun i => D.str (st (shift n (l.getD i 0) l'))) = ((l.map fun c => shift n c l').map st).map D.str := by
        rw [st_size, mapGetD (fun d => D.str (st (shift n d l'))), List.map_map, List.map_map] <;> rfl
      have e4 : (l.map fun c => shift n c l').flatten = prod n l l' := rfl
      have e5 : (prod n l l').length = l.length * l'.length := prod_len n l l'
      refine mJoin (ys := (l.map fun c => shift n c l').map st) (by rw [e1]; rfl) (lenM _ (by rw [e4, e5]; omega)) ?_
      rw [joinM, e4]
      walk_at "dl"
      refine ⟨_, _, rfl, rfl, ?_⟩
      walk_at "dl"
      refine ⟨_, rfl, rfl, prod n l l', n, rfl, rfl, ⟨prod_let (by omega), ?_, by omega, hd, he⟩, _, rfl, rfl, q⟩
      rw [e5]
      exact Nat.mul_pos hb hb'
theorem ws_product {K : PySem.W.Frag} {C : Addr} (T : TurnsC K C) {B0 : Hp} {E : XK} {r : List Sl} {m : List OO} {Φ : OV → List OO → Prop} {Ψ : Er → Prop} (hp : (pProduct C) r m Φ Ψ) (hl : r.length = 1) : WS ⟨K, B0, E, Ψ⟩ (t_product K C) (r ++ List.replicate 3 .un) m (rets m.length Φ) := by
  obtain ⟨l, ls, n, rfl, rfl, hok, hlens, hz, q⟩ := hp
  unfold t_product
  walk_at "dl"
  refine ⟨_, rfl, rfl, l :: ls, n, rfl, rfl, by simp, ?_⟩
  walk_at "dl"
  refine ws_for (wi_tup (wv_var rfl ⟨_, rfl, ?_⟩))
  refine ⟨fun i r' m' => ∃ a, r' = [.fz (.tup (tus C n (l :: ls))), .fz (.int (lens ((l :: ls).take i) : Nat)), a, .un] ∧ m' = [], ⟨_, rfl, rfl⟩, ?_, ?_⟩
  · rintro i r' m' hi ⟨a, rfl, rfl⟩
    rw [tus, List.length_map] at hi
    have e : (tus C n (l :: ls)).getD i .non = tu C ((l :: ls)[i]) n := by rw [tus, List.getD_eq_getElem?_getD, List.getElem?_map, List.getElem?_eq_getElem hi] <;> rfl
    have hi' := hok _ (List.getElem_mem hi)
    refine wg_eq e (wg_name ?_)
    refine ws_aug (w0 := .fz (.int (lens ((l :: ls).take i) : Nat))) rfl ?_
    walk_at "dl"
    refine cb_lenOwn ⟨_, _, rfl, rfl, hi'.2.2.1, co ⟨_, rfl, ⟨by omega, by have := hi'.2.2.1; omega⟩, ?_⟩⟩
    walk_at "dl"
    refine op_i (.inr ⟨by have := hi'.2.2.1; omega, by have := hi'.2.2.1; omega⟩) ?_
    walk_at "dl"
    dsimp only
    rw [lens_take (List.getElem?_eq_getElem hi), Int.natCast_mul]
    exact ⟨_, rfl, rfl⟩
  · rintro r' m' ⟨a, rfl, rfl⟩
    rw [tus_len, List.take_length]
    walk_at "dl"
    refine ⟨_, rfl, rfl, _, rfl, rfl, by omega, ?_⟩
    walk_at "dl"
    refine op_ixT (a := tu C l n) at0 ?_
    walk_at "dl"
    refine ws_for (wi_tup (wv_of (we_sl10 ?_)))
    walk_at "dl"
    refine slT ?_ ?_
    · intro z
      have z1 := z.1
      rw [show HT.sIx _ 0 (some 1) = min 1 (tus C n (l :: ls)).length from HT.sIx_nat _ 0 1, tus_len, List.length_cons] at z1
      omega
    have ec : cutD (tus C n (l :: ls)) (some 1) none = tus C n ls := cut1
    rw [ec]
    walk_at "dl"
    refine ⟨_, rfl, ?_⟩
    refine ⟨fun i r' m' => ∃ a b, r' = [.fz (.tup (tus C n (l :: ls))), a, b, .fz (tu C (prods n l (ls.take i)) n)] ∧ m' = [], ⟨_, _, rfl, rfl⟩, ?_, ?_⟩
    · rintro i r' m' hi ⟨a, b, rfl, rfl⟩
      rw [tus, List.length_map] at hi
      have e : (tus C n ls).getD i .non = tu C (ls[i]) n := by rw [tus, List.getD_eq_getElem?_getD, List.getElem?_map, List.getElem?_eq_getElem hi] <;> rfl
      have hi' := hok _ (List.mem_cons_of_mem _ (List.getElem_mem hi))
      have hl0 := hok l (List.mem_cons_self ..)
      have hT := prods_ok (ls := ls.take i) hl0 (fun x hx => hok x (List.mem_cons_of_mem _ (List.mem_of_mem_take hx)))
      have hle : (prods n l (ls.take i)).length * ls[i].length ≤ 2000 := by
        rw [prods_len]
        have h1 := lens_take (ls := ls) (List.getElem?_eq_getElem hi)
        have h2 : lens ls = lens (ls.take (i + 1)) * lens (ls.drop (i + 1)) := by rw [← lens_append, List.take_append_drop]
        have h3 := lens_pos (ls := ls.drop (i + 1)) fun x hx => (hok x (List.mem_cons_of_mem _ (List.mem_of_mem_drop hx))).2.1
        have h4 : l.length * lens ls ≤ 2000 := hlens
        rw [h2, h1] at h4
        rw [Nat.mul_assoc]
        exact Nat.le_trans (Nat.mul_le_mul_left _ (Nat.le_mul_of_pos_right _ h3)) h4
      refine wg_eq e (wg_name ?_)
      walk_at "dl"
      refine ⟨_, rfl, rfl, _, _, n, rfl, rfl, hT (Nat.le_trans (Nat.le_mul_of_pos_right _ hi'.2.1) hle), hi', hle, ?_⟩
      walk_at "dl"
      have e2 : prods n l (ls.take (i + 1)) = prod n (prods n l (ls.take i)) ls[i] := by
        rw [List.take_add_one, List.getElem?_eq_getElem hi]
        exact prods_snoc
      dsimp only
      rw [e2]
      exact ⟨_, _, rfl, rfl⟩
    · rintro r' m' ⟨a, b, rfl, rfl⟩
      rw [tus_len, List.take_length]
      walk_at "dl"
      exact q
theorem ws_power {K : PySem.W.Frag} {C : Addr} (T : TurnsC K C) {B0 : Hp} {E : XK} {r : List Sl} {m : List OO} {Φ : OV → List OO → Prop} {Ψ : Er → Prop} (hp : (pPower C) r m Φ Ψ) (hl : r.length = 2) : WS ⟨K, B0, E, Ψ⟩ (t_power K C) (r ++ List.replicate 3 .un) m (rets m.length Φ) := by
  obtain ⟨l, n, e, rfl, rfl, hok, he1, he2, hpow, q⟩ := hp
  unfold t_power
  walk_at "dl"
  refine ⟨_, rfl, rfl, _, _, rfl, rfl, ?_⟩
  walk_at "dl"
  refine ⟨_, rfl, rfl, _, _, _, rfl, rfl, by omega, by omega, ?_⟩
  walk_at "dl"
  refine ws_for (wi_rng1 (wa_cons (wv_var rfl (wa_nil ⟨_, rfl, by omega, by omega, ?_⟩))))
  refine ⟨fun i r' m' => ∃ a, r' = [.fz (tu C l n), .fz (.int (e : Nat)), .fz (.int (l.length ^ i : Nat)), a, .un] ∧ m' = [], ⟨_, rfl, rfl⟩, ?_, ?_⟩
  · rintro i r' m' hi ⟨a, rfl, rfl⟩
    refine wg_name ?_
    refine ws_aug (w0 := .fz (.int (l.length ^ i : Nat))) rfl ?_
    walk_at "dl"
    refine cb_lenOwn ⟨_, _, rfl, rfl, hok.2.2.1, co ⟨_, rfl, ⟨by omega, by have := hok.2.2.1; omega⟩, ?_⟩⟩
    walk_at "dl"
    refine op_i (.inr ⟨by have := hok.2.2.1; omega, by have := hok.2.2.1; omega⟩) ?_
    walk_at "dl"
    dsimp only
    rw [Nat.pow_succ, Int.natCast_mul]
    exact ⟨_, rfl, rfl⟩
  · rintro r' m' ⟨a, rfl, rfl⟩
    rw [Int.toNat_natCast]
    walk_at "dl"
    refine ⟨_, rfl, rfl, _, rfl, rfl, by omega, ?_⟩
    walk_at "dl"
    refine ⟨_, rfl, sz (by show 1 ≤ _; decide), ?_⟩
    walk_at "dl"
    refine op_repL (xs := [tu C l n]) rfl ⟨by omega, by omega⟩ (sz (by rw [Int.toNat_natCast]; simp; omega)) ?_
    have er : (List.replicate (Int.toNat (e : Nat)) [tu C l n]).flatten = tus C n (l :: List.replicate (e - 1) l) := by
      rw [Int.toNat_natCast, rep_flat]
      rw [show tus C n (l :: List.replicate (e - 1) l) = List.map (fun l => tu C l n) (l :: List.replicate (e - 1) l) from rfl, ← List.replicate_succ, show e - 1 + 1 = e from by omega, List.map_replicate]
    rw [er]
    walk_at "dl"
    refine ⟨_, rfl, sz (by simp [tus]; omega), _, _, n, rfl, rfl, ?_, ?_, by simp; omega, co ?_⟩
    · intro x hx
      rcases List.mem_cons.mp hx with rfl | hx
      · exact hok
      · rw [List.eq_of_mem_replicate hx]; exact hok
    · rw [lens_rep]; exact hpow
    · exact q
theorem ws__law_hand {K : PySem.W.Frag} {B0 : Hp} {E : XK} {r : List Sl} {m : List OO} {Φ : OV → List OO → Prop} {Ψ : Er → Prop} (hp : pHand r m Φ Ψ) (hl : r.length = 2) : WS ⟨K, B0, E, Ψ⟩ (t__law_hand K) (r ++ List.replicate 2 .un) m (rets m.length Φ) := by
  obtain ⟨ns, k, rfl, rfl, hk, hz, q⟩ := hp
  unfold t__law_hand
  walk_at "dl"
  refine slScr ?_
  walk_at "dl"
  refine ⟨_, rfl, sz (by show 1 ≤ _; decide), ?_⟩
  walk_at "dl"
  refine op_catL rfl rfl (sz ?_) ?_
  · have : (cutD ns (some (k : Nat)) (some ((k : Int) + 1))).length ≤ ns.length := by
      unfold cutD
      rw [List.length_take, List.length_drop]
      omega
    rw [List.length_map]
    show _ + 1 ≤ _
    omega
  walk_at "dl"
  obtain ⟨c, hc⟩ : ∃ c : Int, atI (List.map D.int (cutD ns (some (k : Nat)) (some ((k : Int) + 1))) ++ [D.int 0]) 0 = some (.int c) := by
    cases cutD ns (some (k : Nat)) (some ((k : Int) + 1)) with
    | nil => exact ⟨0, at0⟩
    | cons a _ => exact ⟨a, at0⟩
  refine op_ix rfl hc ?_
  walk_at "dl"
  refine op_i (by decide) ?_
  walk_at "dl"
  refine op_i (.inl ⟨by omega, by omega⟩) ?_
  walk_at "dl"
  refine op_i (.inr ⟨by omega, by omega⟩) ?_
  walk_at "dl"
  refine op_i (by decide) ?_
  refine fz (ws_newP ?_)
  walk_at "dl"
  refine op_i ⟨by omega, by omega, by decide⟩ ?_
  walk_at "dl"
  refine cb_intB ?_
  walk_at "dl"
  refine op_i (.inl ⟨by split <;> omega, by split <;> omega⟩) ?_
  walk_at "dl"
  exact ⟨_, rfl, sz (by show 2 ≤ _; decide), _, _, rfl, ⟨Int.emod_nonneg _ (by decide), by have := Int.emod_lt_of_pos ((c % 2147483647 + 7919 * (k : Int) + 1) * 48271) (show (0 : Int) < 2147483629 by decide); omega⟩, q⟩
theorem ws__law_draw {K : PySem.W.Frag} {B0 : Hp} {E : XK} {r : List Sl} {m : List OO} {Φ : OV → List OO → Prop} {Ψ : Er → Prop} (hp : pDraw r m Φ Ψ) (hl : r.length = 2) : WS ⟨K, B0, E, Ψ⟩ (t__law_draw K) (r ++ List.replicate 1 .un) m (rets m.length Φ) := by
  obtain ⟨n, rfl, rfl, h1, h2, q⟩ := hp
  unfold t__law_draw
  refine ws_shut (k := 0) (ws_open (k := 0) rfl fun a b ok => ?_)
  walk_at "dl"
  refine op_ixLO rfl at0 ?_
  walk_at "dl"
  refine ⟨fun hp => ?_, fun _ => ?_⟩
  · walk_at "dl"
    refine op_ixLO rfl at0 ?_
    walk_at "dl"
    refine op_i (by omega) ?_
    walk_at "dl"
    refine ws_putL ?_
    walk_at "dl"
    refine op_ixLO rfl at0 ?_
    walk_at "dl"
    refine op_i ⟨by omega, by omega⟩ ?_
    walk_at "dl"
    refine ⟨_, rfl, ?_⟩
    walk_at "dl"
    refine ⟨_, rfl, ?_⟩
    walk_at "dl"
    refine ⟨0, [.int a, .int b], 0, rfl, rfl, (by show ixN 2 0 = some 0; decide), ?_⟩
    walk_at "dl"
    exact ⟨_, _, rfl, ok, q _ (Int.emod_nonneg _ (by omega)) (Int.emod_lt_of_pos _ (by omega))⟩
  · walk_at "dl"
    refine ws_putL ?_
    walk_at "dl"
    refine op_ixLO rfl (atN (n := 1) rfl) ?_
    walk_at "dl"
    refine op_i (.inr ⟨by omega, by omega⟩) ?_
    walk_at "dl"
    refine op_i (by decide) ?_
    walk_at "dl"
    refine ⟨_, rfl, ?_⟩
    walk_at "dl"
    refine ⟨_, rfl, ?_⟩
    walk_at "dl"
    refine ⟨1, [.int a, .int b], 1, rfl, rfl, (by show ixN 2 1 = some 1; decide), ?_⟩
    have hb1 := Int.emod_nonneg (b * 48271 + 11) (show (2147483647 : Int) ≠ 0 by decide)
    have hb2 := Int.emod_lt_of_pos (b * 48271 + 11) (show (0 : Int) < 2147483647 by decide)
    walk_at "dl"
    refine op_ixLO rfl (atN (n := 1) rfl) ?_
    walk_at "dl"
    refine op_ixLO rfl (atN (n := 1) rfl) ?_
    walk_at "dl"
    refine op_i (.inr ⟨by omega, by omega⟩) ?_
    walk_at "dl"
    refine op_i (by decide) ?_
    walk_at "dl"
    refine op_i ⟨by omega, by omega⟩ ?_
    walk_at "dl"
    refine op_i (by omega) ?_
    exact ⟨_, _, rfl, ⟨hb1, hb2⟩, q _ (Int.emod_nonneg _ (by omega)) (Int.emod_lt_of_pos _ (by omega))⟩
theorem ws__law_text {K : PySem.W.Frag} {B0 : Hp} {E : XK} {r : List Sl} {m : List OO} {Φ : OV → List OO → Prop} {Ψ : Er → Prop} (hp : pText r m Φ Ψ) (hl : r.length = 3) : WS ⟨K, B0, E, Ψ⟩ (t__law_text K) (r ++ List.replicate 2 .un) m (rets m.length Φ) := by
  obtain ⟨n, k, rfl, rfl, hn1, hn6, hk1, hk2, q⟩ := hp
  unfold t__law_text
  walk_at "dl"
  refine slS (sz (by decide)) ?_
  rw [abc_cut hn6]
  walk_at "dl"
  refine we_lc only1 (wi_rng1 ?_)
  walk_at "dl"
  refine ⟨_, .pl, _, _, rfl, rfl, rfl, rfl, k, rfl, rfl, by omega, by omega, fun v h0 h1 => co1 rfl ?_⟩
  obtain ⟨t, rfl⟩ := Int.eq_ofNat_of_zero_le h0
  walk_at "dl"
  have et : ((1 : Int) + (t : Nat)).toNat = t + 1 := by omega
  refine ⟨_, rfl, by omega, by omega, ?_⟩
  rw [et]
  refine ⟨sz (by omega), fun i acc m' => ∃ ls, acc = ls.map (fun c => D.str (st [c])) ∧ Let n ls ∧ ls.length = i ∧ m' = [.pl], ⟨[], rfl, fun _ h => by simp at h, rfl, rfl⟩, ?_, ?_⟩
  · rintro i acc m2 hi _ ⟨ls, rfl, hls, hlen, rfl⟩
    refine wg_name ?_
    walk_at "dl"
    refine ⟨fun _ => ?_, fun z => by cases z⟩
    walk_at "dl"
    refine ⟨_, .pl, _, _, rfl, rfl, rfl, rfl, n, rfl, rfl, by omega, by omega, fun v g0 g1 => co1 rfl ?_⟩
    obtain ⟨c, rfl⟩ := Int.eq_ofNat_of_zero_le g0
    walk_at "dl"
    have ec : ((List.range n).map (65 + ·))[c]? = some (65 + c) := by
      rw [List.getElem?_map, List.getElem?_range (by omega)] <;> rfl
    refine op_ixSS (c := 65 + c) (by rw [st_len, List.length_map, List.length_range]; exact sz (by omega)) (atN ec) ?_
    refine ⟨_, rfl, ls ++ [65 + c], by rw [List.map_append] <;> rfl, fun y hy => ?_, by rw [List.length_append, hlen] <;> rfl, rfl⟩
    rcases List.mem_append.mp hy with h | h
    · exact hls y h
    · rw [List.mem_singleton.mp h]; omega
  · rintro acc m2 ⟨ls, rfl, hls, hlen, rfl⟩
    walk_at "dl"
    refine mJoin (ys := ls.map fun c => st [c]) (by rw [List.map_map] <;> rfl) (len1 _ (by omega)) ?_
    rw [join1]
    exact q _ hls (by omega) (by omega)
theorem ws__law_product {K : PySem.W.Frag} {B0 : Hp} {E : XK} {r : List Sl} {m : List OO} {Φ : OV → List OO → Prop} {Ψ : Er → Prop} (hp : pLawProd r m Φ Ψ) (hl : r.length = 3) : WS ⟨K, B0, E, Ψ⟩ (t__law_product K) (r ++ List.replicate 5 .un) m (rets m.length Φ) := by
  obtain ⟨l, l', n, rfl, rfl, hn1, hn6, ha, hb, hll, hl1, hl2, q⟩ := hp
  unfold t__law_product
  walk_at "dl"
  refine ws_for (wi_str (wv_var rfl ⟨_, rfl, ?_⟩))
  rw [st_size]
  refine ⟨fun i r' m' => ∃ a b c, r' = [.fz (.str (st l)), .fz (.str (st l')), .fz (.int (n : Nat)), .fz (.str "ABCDEF"), .fz (.str (st (prod n (l.take i) l'))), a, b, c] ∧ m' = [], ⟨_, _, _, by rfl, rfl⟩, ?_, ?_⟩
  · rintro i r' m' hi ⟨a, b, c, rfl, rfl⟩
    have hx := ha _ (getD_mem hi)
    refine wg_name ?_
    refine ws_for (wi_str (wv_var rfl ⟨_, rfl, ?_⟩))
    rw [st_size]
    refine ⟨fun j r' m' => ∃ b c, r' = [.fz (.str (st l)), .fz (.str (st l')), .fz (.int (n : Nat)), .fz (.str "ABCDEF"), .fz (.str (st (prod n (l.take i) l' ++ (shift n (l.getD i 0) l').take j))), .fz (.str (st [l.getD i 0])), b, c] ∧ m' = [], ⟨_, _, by rw [List.take_zero, List.append_nil] <;> rfl, rfl⟩, ?_, ?_⟩
    · rintro j r' m' hj ⟨b, c, rfl, rfl⟩
      have hy := hb _ (getD_mem hj)
      refine wg_name ?_
      walk_at "dl"
      obtain ⟨rest, e⟩ := abc_index (c := l.getD i 0) hx.1 (by omega)
      refine mSIndex e ?_
      walk_at "dl"
      obtain ⟨rest', e'⟩ := abc_index (c := l'.getD j 0) hy.1 (by omega)
      refine mSIndex e' ?_
      walk_at "dl"
      refine op_i (by omega) ?_
      walk_at "dl"
      have e6 : ((((l.getD i 0 - 65 : Nat) : Int) + ((l'.getD j 0 - 65 : Nat) : Int)) % (n : Int)) = ((((l.getD i 0 - 65) + (l'.getD j 0 - 65)) % n : Nat) : Int) := by
        rw [Int.natCast_emod, Int.natCast_add]
      rw [e6, abc]
      refine op_ixSS (sz (by decide)) (abc_ix (by have := Nat.mod_lt ((l.getD i 0 - 65) + (l'.getD j 0 - 65)) (show 0 < n by omega); omega)) ?_
      walk_at "dl"
      have hlen : (prod n (l.take i) l' ++ (shift n (l.getD i 0) l').take j).length ≤ 10000 := by
        rw [List.length_append, prod_len, List.length_take, List.length_take, shift_len]
        have : min i l.length * l'.length ≤ l.length * l'.length := Nat.mul_le_mul_right _ (Nat.min_le_right _ _)
        omega
      refine op_addS (sz (by rw [st_len]; show _ + 1 ≤ _; omega)) ?_
      walk_at "dl"
      have e7 : (shift n (l.getD i 0) l').take (j + 1) = (shift n (l.getD i 0) l').take j ++ [plus n (l.getD i 0) (l'.getD j 0)] := by
        rw [List.take_add_one, shift, List.getElem?_map, List.getElem?_eq_getElem hj, List.getD_eq_getElem?_getD, List.getD_eq_getElem?_getD, List.getElem?_eq_getElem hj] <;> rfl
      dsimp only
      have e10 : st (prod n (l.take i) l' ++ (shift n (l.getD i 0) l').take j ++ [plus n (l.getD i 0) (l'.getD j 0)]) = st (prod n (l.take i) l' ++ (shift n (l.getD i 0) l').take j) ++ ⟨#[65 + (l.getD i 0 - 65 + (l'.getD j 0 - 65)) % n]⟩ := (st_app _ _).symm
      rw [e7, ← List.append_assoc, e10]
      exact ⟨_, _, rfl, rfl⟩
    · rintro r' m' ⟨b, c, rfl, rfl⟩
      have e8 : (shift n (l.getD i 0) l').take l'.length = shift n (l.getD i 0) l' := List.take_of_length_le (by rw [shift_len]; exact Nat.le_refl _)
      have e9 : prod n (l.take (i + 1)) l' = prod n (l.take i) l' ++ shift n (l.getD i 0) l' := by
        rw [List.take_add_one, List.getElem?_eq_getElem hi, prod, prod, List.flatMap_append, List.getD_eq_getElem?_getD, List.getElem?_eq_getElem hi]
        show _ ++ (shift n l[i] l' ++ []) = _
        rw [List.append_nil] <;> rfl
      dsimp only
      rw [e8, e9]
      exact ⟨_, _, _, rfl, rfl⟩
  · rintro r' m' ⟨a, b, c, rfl, rfl⟩
    rw [List.take_length]
    walk_at "dl"
    exact q
theorem ws_law {K : PySem.W.Frag} {C : Addr} (T : TurnsC K C) {B0 : Hp} {E : XK} {r : List Sl} {m : List OO} {Φ : OV → List OO → Prop} {Ψ : Er → Prop} (hp : pLaw r m Φ Ψ) (hl : r.length = 1) : WS ⟨K, B0, E, Ψ⟩ (t_law K C) (r ++ List.replicate 14 .un) m (rets m.length Φ) := by
  obtain ⟨ns, rfl, rfl, hz, q⟩ := hp
  unfold t_law
  refine ws_seq (ws_for (wi_rng1 ?_))
  walk_at "dl"
  refine cb_lenScr ?_
  walk_at "dl"
  refine cb_min2 ?_
  walk_at "dl"
  refine cb_max2 ?_
  walk_at "dl"
  refine ⟨_, rfl, ?_, ?_, ?_⟩
  · split <;> split <;> omega
  · split <;> split <;> omega
  refine ⟨fun i r' m' => ∃ a1 a2 a3 a4 a5 a6 a7 a8 a9 a10 a11 a12 a13 a14, r' = [.fz (.scr ns), a1, a2, a3, a4, a5, a6, a7, a8, a9, a10, a11, a12, a13, a14] ∧ m' = [], ⟨_, _, _, _, _, _, _, _, _, _, _, _, _, _, rfl, rfl⟩, ?_, ?_⟩
  · rintro i r' m' hi ⟨a1, a2, a3, a4, a5, a6, a7, a8, a9, a10, a11, a12, a13, a14, rfl, rfl⟩
    have hi64 : i ≤ 64 := by
      have : (if (if (16 : Int) < (ns.length : Int) then (16 : Int) else ns.length) > 2 then (if (16 : Int) < (ns.length : Int) then (16 : Int) else ns.length) else 2) ≤ 64 := by split <;> split <;> omega
      omega
    refine wg_name (ws_cut ?_)
    walk_at "dl"
    refine ⟨_, rfl, rfl, ns, i, rfl, rfl, by omega, hz, ?_⟩
    walk_at "dl"
    refine ⟨_, .pl, _, _, rfl, rfl, rfl, rfl, 5, rfl, rfl, by omega, by omega, fun v h0 h1 => co1 rfl ?_⟩
    obtain ⟨p, rfl⟩ := Int.eq_ofNat_of_zero_le h0
    walk_at "dl"
    have ep : ((2 : Int) + (p : Nat)) = ((p + 2 : Nat) : Int) := by omega
    rw [ep]
    generalize hn : p + 2 = n
    have hn2 : 2 ≤ n := by omega
    have hn6 : n ≤ 6 := by omega
    refine we_lc only1 (wi_rng1 ?_)
    walk_at "dl"
    refine ⟨_, rfl, by omega, by omega, ?_⟩
    refine ⟨sz (by omega), fun i acc m' => ∃ ls, acc = ls.map (fun l => D.str (st l)) ∧ (∀ l ∈ ls, Let n l ∧ 1 ≤ l.length ∧ l.length ≤ 5) ∧ ls.length = i ∧ m' = [.pl], ⟨[], rfl, fun _ h => by simp at h, rfl, rfl⟩, ?_, ?_⟩
    · rintro i acc m2 hi _ ⟨ls, rfl, hls, hlen, rfl⟩
      refine wg_name ?_
      walk_at "dl"
      refine ⟨fun _ => ?_, fun z => by cases z⟩
      walk_at "dl"
      refine ⟨_, .pl, _, _, rfl, rfl, rfl, rfl, n, 5, rfl, rfl, by omega, by omega, by omega, by omega, fun l hl1 hl2 hl3 => co1 rfl ?_⟩
      refine ⟨_, rfl, ls ++ [l], by rw [List.map_append] <;> rfl, fun y hy => ?_, by rw [List.length_append, hlen] <;> rfl, rfl⟩
      rcases List.mem_append.mp hy with h | h
      · exact hls y h
      · rw [List.mem_singleton.mp h]; exact ⟨hl1, hl2, hl3⟩
    · rintro acc m2 ⟨ls, rfl, hls, hlen, rfl⟩
      match ls, hlen with
      | [x, y, z], _ =>
      have hx := hls x (by simp)
      have hy := hls y (by simp)
      have hzz := hls z (by simp)
      clear hls
      have ox : TOk x n := ⟨hx.1, hx.2.1, by omega, hn2, hn6⟩
      have oy : TOk y n := ⟨hy.1, hy.2.1, by omega, hn2, hn6⟩
      have oz : TOk z n := ⟨hzz.1, hzz.2.1, by omega, hn2, hn6⟩
      have lxy : x.length * y.length ≤ 25 := up_to hx.2.2 hy.2.2
      have lyz : y.length * z.length ≤ 25 := up_to hy.2.2 hzz.2.2
      have lxyz : x.length * y.length * z.length ≤ 125 := up_to lxy hzz.2.2
      walk_at "dl"
      refine ws_asg ?_
      refine wv_of (we_lc only1 (wi_list ?_))
      walk_at "dl"
      refine ⟨_, rfl, ?_⟩
      refine lcMap (fun i => tu C ([x, y, z].getD i []) n) (sz (by show 3 ≤ _; decide)) (fun i hi => ?_) ?_
      · have hi : i < 3 := hi
        have ei : (List.map (fun l => D.str (st l)) [x, y, z]).getD i .non = .str (st ([x, y, z].getD i [])) := by
          match i, hi with
          | 0, _ => rfl
          | 1, _ => rfl
          | 2, _ => rfl
        have oi : TOk ([x, y, z].getD i []) n := by
          match i, hi with
          | 0, _ => exact ox
          | 1, _ => exact oy
          | 2, _ => exact oz
        refine wg_eq ei (wg_name ?_)
        walk_at "dl"
        exact ⟨_, rfl, rfl, _, n, rfl, rfl, oi, _, rfl, rfl, fzi ⟨rfl, rfl⟩⟩
      refine fzl ⟨_, rfl, wg_unl (vs := [tu C x n, tu C y n, tu C z n]) rfl rfl ?_⟩
      walk_at "dl"
      refine op_ix rfl at0 ?_
      walk_at "dl"
      refine op_ix rfl (atN (n := 1) rfl) ?_
      walk_at "dl"
      refine ⟨_, rfl, rfl, x, y, n, rfl, rfl, by omega, hn6, hx.1, hy.1, by omega, by omega, by omega, ?_⟩
      walk_at "dl"
      refine op_ix rfl (atN (n := 2) rfl) ?_
      walk_at "dl"
      refine ⟨_, rfl, rfl, prod n x y, z, n, rfl, rfl, by omega, hn6, prod_let (by omega), hzz.1, by rw [prod_len]; omega, by rw [prod_len]; omega, by omega, ?_⟩
      have oxy : TOk (prod n x y) n := ⟨prod_let (by omega), by rw [prod_len]; exact Nat.mul_pos hx.2.1 hy.2.1, by rw [prod_len]; omega, hn2, hn6⟩
      have oyz : TOk (prod n y z) n := ⟨prod_let (by omega), by rw [prod_len]; exact Nat.mul_pos hy.2.1 hzz.2.1, by rw [prod_len]; omega, hn2, hn6⟩
      have oxyz : TOk (prod n (prod n x y) z) n := ⟨prod_let (by omega), by rw [prod_len, prod_len]; exact Nat.mul_pos (Nat.mul_pos hx.2.1 hy.2.1) hzz.2.1, by rw [prod_len, prod_len]; omega, hn2, hn6⟩
      have ou : TOk [65] n := ⟨fun c hc => by rw [List.mem_singleton.mp hc]; omega, Nat.le_refl _, by show 1 ≤ 2000; omega, hn2, hn6⟩
      have s1 : ∀ k : Nat, k ≤ 5 → k ≤ sizeLine := fun k hk => sz (by omega)
      walk_at "dl"
      refine ⟨[], _, rfl, rfl, s1 1 (by omega), x, [], n, rfl, rfl, fun w hw => by rw [List.mem_singleton.mp hw]; exact ox, by show x.length * 1 ≤ 2000; omega, by show 0 ≤ 3000; omega, ?_⟩
      walk_at "dl"
      refine op_ownNe ⟨_, _, _, _, rfl, rfl, ?_⟩
      walk_at "dl"
      refine ⟨fun h => ?_, fun _ => ?_⟩
      · simp [prods] at h
      walk_at "dl"
      refine ⟨[], _, rfl, rfl, s1 2 (by omega), x, [y], n, rfl, rfl, ?_, by show x.length * (y.length * 1) ≤ 2000; rw [Nat.mul_one]; omega, by show 1 ≤ 3000; omega, ?_⟩
      · intro w hw
        rcases List.mem_cons.mp hw with rfl | hw
        · exact ox
        · rw [List.mem_singleton.mp hw]; exact oy
      walk_at "dl"
      refine ⟨_, rfl, rfl, prod n x y, n, rfl, rfl, oxy, _, rfl, rfl, ?_⟩
      walk_at "dl"
      refine op_ownNe ⟨_, _, _, _, rfl, rfl, ?_⟩
      walk_at "dl"
      refine ⟨fun h => ?_, fun _ => ?_⟩
      · simp [prods] at h
      walk_at "dl"
      refine ⟨[], _, rfl, rfl, s1 3 (by omega), x, [y, z], n, rfl, rfl, ?_, by show x.length * (y.length * (z.length * 1)) ≤ 2000; rw [Nat.mul_one, ← Nat.mul_assoc]; omega, by show 2 ≤ 3000; omega, ?_⟩
      · intro w hw
        rcases List.mem_cons.mp hw with rfl | hw
        · exact ox
        rcases List.mem_cons.mp hw with rfl | hw
        · exact oy
        · rw [List.mem_singleton.mp hw]; exact oz
      walk_at "dl"
      refine ⟨_, rfl, rfl, prod n (prod n x y) z, n, rfl, rfl, oxyz, _, rfl, rfl, ?_⟩
      walk_at "dl"
      refine op_ownNe ⟨_, _, _, _, rfl, rfl, ?_⟩
      walk_at "dl"
      refine ⟨fun h => ?_, fun _ => ?_⟩
      · simp [prods] at h
      walk_at "dl"
      refine ⟨[], _, rfl, rfl, s1 2 (by omega), y, [z], n, rfl, rfl, ?_, by show y.length * (z.length * 1) ≤ 2000; rw [Nat.mul_one]; omega, by show 1 ≤ 3000; omega, ?_⟩
      · intro w hw
        rcases List.mem_cons.mp hw with rfl | hw
        · exact oy
        · rw [List.mem_singleton.mp hw]; exact oz
      walk_at "dl"
      refine ⟨[], _, rfl, rfl, s1 2 (by omega), x, [prod n y z], n, rfl, rfl, ?_, by show x.length * ((prod n y z).length * 1) ≤ 2000; rw [Nat.mul_one, prod_len, ← Nat.mul_assoc]; omega, by show 1 ≤ 3000; omega, ?_⟩
      · intro w hw
        rcases List.mem_cons.mp hw with rfl | hw
        · exact ox
        · rw [List.mem_singleton.mp hw]; exact oyz
      walk_at "dl"
      refine ⟨_, _, rfl, rfl, ?_⟩
      walk_at "dl"
      refine ⟨fun h => ?_, fun _ => ?_⟩
      · simp [prods, prod_assoc] at h
      walk_at "dl"
      refine ⟨_, rfl, rfl, [65], n, rfl, rfl, ou, _, rfl, rfl, ?_⟩
      walk_at "dl"
      refine ⟨[], _, rfl, rfl, s1 2 (by omega), [65], [x], n, rfl, rfl, ?_, by show 1 * (x.length * 1) ≤ 2000; omega, by show 1 ≤ 3000; omega, ?_⟩
      · intro w hw
        rcases List.mem_cons.mp hw with rfl | hw
        · exact ou
        · rw [List.mem_singleton.mp hw]; exact ox
      walk_at "dl"
      refine op_ownNe ⟨_, _, _, _, rfl, rfl, ?_⟩
      walk_at "dl"
      refine ⟨fun h => ?_, fun _ => ?_⟩
      · simp [prods, prod_unitL hx.1] at h
      walk_at "dl"
      refine ⟨[], _, rfl, rfl, s1 3 (by omega), x, [[65], [65]], n, rfl, rfl, ?_, by show x.length * (1 * (1 * 1)) ≤ 2000; omega, by show 2 ≤ 3000; omega, ?_⟩
      · intro w hw
        rcases List.mem_cons.mp hw with rfl | hw
        · exact ox
        rcases List.mem_cons.mp hw with rfl | hw
        · exact ou
        · rw [List.mem_singleton.mp hw]; exact ou
      walk_at "dl"
      refine op_ownNe ⟨_, _, _, _, rfl, rfl, ?_⟩
      walk_at "dl"
      refine ⟨fun h => ?_, fun _ => ?_⟩
      · simp [prods, prod_unitR hx.1] at h
      walk_at "dl"
      refine op_ix rfl at0 ?_
      walk_at "dl"
      refine ws_for (wi_rng2 ?_)
      walk_at "dl"
      refine ⟨_, _, rfl, by omega, ?_⟩
      refine ⟨fun j r' m' => ∃ e, r' = [.fz (.scr ns), .fz (.int i), .ow 0, .fz (.int (n : Nat)), .fz (.lst [.str (st x), .str (st y), .str (st z)]), .fz (tu C x n), .fz (tu C y n), .fz (tu C z n), .fz (.str (st (prod n x y))), .fz (.str (st (prod n (prod n x y) z))), .fz (tu C [65] n), .fz (.str (st (prods n x (List.replicate j x)))), e, a13, a14] ∧ m' = [.pl], ⟨_, rfl, rfl⟩, ?_, ?_⟩
      · rintro j r' m' hj ⟨e, rfl, rfl⟩
        have hj : j < 3 := by omega
        have ej : D.int ((1 : Int) + (j : Nat)) = D.int ((j + 1 : Nat) : Int) := by rw [show ((1 : Int) + (j : Nat)) = ((j + 1 : Nat) : Int) from by omega]
        have hp := pow_le5 hx.2.2 hj
        have hd : (prods n x (List.replicate j x)).length ≤ 125 := by
          have h1 := lens_rep (l := x) (e := j + 1) (by omega)
          have h2 : x.length * lens (List.replicate j x) = x.length ^ (j + 1) := h1
          rw [prods_len, h2]
          exact hp
        have od := prods_ok (ls := List.replicate j x) ox (fun w hw => by rw [List.eq_of_mem_replicate hw]; exact ox) (by omega)
        refine wg_eq ej (wg_name ?_)
        walk_at "dl"
        refine ⟨_, rfl, rfl, x, n, j + 1, rfl, rfl, ox, by omega, by omega, by omega, ?_⟩
        walk_at "dl"
        refine ⟨_, rfl, rfl, prods n x (List.replicate j x), n, rfl, rfl, od, _, rfl, rfl, ?_⟩
        walk_at "dl"
        refine op_ownNe ⟨_, _, _, _, rfl, rfl, ?_⟩
        walk_at "dl"
        refine ⟨fun h => ?_, fun _ => ?_⟩
        · simp at h
        walk_at "dl"
        refine op_ix rfl at0 ?_
        walk_at "dl"
        have hd2 := up_to hd hx.2.2
        refine ⟨_, rfl, rfl, prods n x (List.replicate j x), x, n, rfl, rfl, by omega, hn6, od.1, hx.1, by omega, by omega, by omega, ?_⟩
        walk_at "dl"
        have e5 : prods n x (List.replicate (j + 1) x) = prod n (prods n x (List.replicate j x)) x := by
          rw [List.replicate_succ']
          exact prods_snoc
        dsimp only
        rw [e5]
        exact ⟨_, rfl, rfl⟩
      · rintro r' m' ⟨e, rfl, rfl⟩
        walk_at "dl"
        refine ⟨_, _, rfl, rfl, ?_⟩
        walk_at "dl"
        refine ⟨_, _, rfl, rfl, ?_⟩
        walk_at "dl"
        refine ⟨_, _, rfl, rfl, ?_⟩
        walk_at "dl"
        refine ⟨_, rfl, s1 3 (by omega), ?_⟩
        walk_at "dl"
        refine op_neP rfl rfl (p1 := .list [.str (st x), .str (st y), .str (st z)]) (p2 := .list [.str (st x), .str (st y), .str (st z)]) (by simp [pyOf, pyAll]) (by simp [pyOf, pyAll]) (by simp [SeqAt.shaped, PyData.canLay0, PyData.canLayAll0, PyData.depth, PyData.depthAll, strOk_st hx.1 hn6, strOk_st hy.1 hn6, strOk_st hzz.1 hn6]) (by simp [SeqAt.shaped, PyData.canLay0, PyData.canLayAll0, PyData.depth, PyData.depthAll, strOk_st hx.1 hn6, strOk_st hy.1 hn6, strOk_st hzz.1 hn6]) ?_
        walk_at "dl"
        have eq : PyData.eqv (.list [.str (st x), .str (st y), .str (st z)]) (.list [.str (st x), .str (st y), .str (st z)]) = true := by simp [PyData.eqv, PyData.eqvAll]
        rw [eq]
        refine ⟨fun h => absurd h (by decide), fun _ => ?_⟩
        walk_at "dl"
        exact ⟨_, _, _, _, _, _, _, _, _, _, _, _, _, _, rfl, rfl⟩
  · rintro r' m' ⟨a1, a2, a3, a4, a5, a6, a7, a8, a9, a10, a11, a12, a13, a14, rfl, rfl⟩
    walk_at "dl"
    exact q
end DL

set_option maxRecDepth 100000
set_option maxHeartbeats 8000000
namespace DL
open PySem PySem.Spec PyProof.Rows L2
def top (i : Nat) : Stmt := PySem.Challenge.pw_turnbalance_k14_products.main.body.getD i (.Pass ⟨0, 0, 0, 0⟩)
abbrev s_is_integer : Stmt := top 10
abbrev s_in_range : Stmt := top 11
abbrev s_check_number : Stmt := top 12
abbrev s_check_length : Stmt := top 13
abbrev s_init_Turns : Stmt := inClass (top 14) 1
abbrev s_eq_Turns : Stmt := inClass (top 14) 13
abbrev s_len_Turns : Stmt := inClass (top 14) 14
abbrev s_get_Turns_text : Stmt := inClass (top 14) 3
abbrev s_get_Turns_players : Stmt := inClass (top 14) 4
abbrev s_check_turns : Stmt := top 15
abbrev s_check_factors : Stmt := top 17
abbrev s_raised : Stmt := top 18
abbrev s_product_of_two : Stmt := top 19
abbrev s_product : Stmt := top 20
abbrev s_power : Stmt := top 21
abbrev s__law_hand : Stmt := top 23
abbrev s__law_draw : Stmt := top 24
abbrev s__law_text : Stmt := top 25
abbrev s__law_product : Stmt := top 26
abbrev s_law : Stmt := top 27
structure Env (K : PySem.W.Frag) (mg : Str → Option Value) where
  C_Turns : Addr
  g_Turns : mg "Turns" = some (.ref C_Turns)
  cl_Turns : Cls K C_Turns
  obj_Turns : IsiC K C_Turns
  tc : TurnsC K C_Turns
  t_LETTERS : Tok
  c_LETTERS : mg "LETTERS" = some (.str "ABCDEF" t_LETTERS)
  t_MAX_TURNS_turns : Tok
  c_MAX_TURNS_turns : mg "MAX_TURNS_turns" = some (.int 2000 t_MAX_TURNS_turns)
  t_FEWEST_PLAYERS : Tok
  c_FEWEST_PLAYERS : mg "FEWEST_PLAYERS" = some (.int 2 t_FEWEST_PLAYERS)
  z_isinstance : mg "isinstance" = none
  z_int : mg "int" = none
  z_bool : mg "bool" = none
  z_str : mg "str" = none
  z_len : mg "len" = none
  z_any : mg "any" = none
  z_max : mg "max" = none
  z_min : mg "min" = none
  z_range : mg "range" = none
  z_enumerate : mg "enumerate" = none
  a_is_integer : Addr
  d_is_integer : FuncData
  F_is_integer : Fun K "is_integer" "is_integer" s_is_integer a_is_integer d_is_integer
  b_is_integer : Binds K d_is_integer ["value"] []
  g_is_integer : mg "is_integer" = some (.ref a_is_integer)
  k_is_integer : PySem.W.keepIn K (.ref a_is_integer) = true
  a_in_range : Addr
  d_in_range : FuncData
  F_in_range : Fun K "in_range" "in_range" s_in_range a_in_range d_in_range
  b_in_range : Binds K d_in_range ["value", "least", "most"] []
  g_in_range : mg "in_range" = some (.ref a_in_range)
  k_in_range : PySem.W.keepIn K (.ref a_in_range) = true
  a_check_number : Addr
  d_check_number : FuncData
  F_check_number : Fun K "check_number" "check_number" s_check_number a_check_number d_check_number
  b_check_number : Binds K d_check_number ["value", "least", "most"] []
  g_check_number : mg "check_number" = some (.ref a_check_number)
  k_check_number : PySem.W.keepIn K (.ref a_check_number) = true
  a_check_length : Addr
  d_check_length : FuncData
  F_check_length : Fun K "check_length" "check_length" s_check_length a_check_length d_check_length
  b_check_length : Binds K d_check_length ["length"] []
  g_check_length : mg "check_length" = some (.ref a_check_length)
  k_check_length : PySem.W.keepIn K (.ref a_check_length) = true
  a_init_Turns : Addr
  d_init_Turns : FuncData
  F_init_Turns : Fun K "__init__" "Turns.__init__" s_init_Turns a_init_Turns d_init_Turns
  b_init_Turns : Binds K d_init_Turns ["self", "text", "players"] []
  mk_Turns : Mk K C_Turns a_init_Turns
  a_eq_Turns : Addr
  d_eq_Turns : FuncData
  F_eq_Turns : Fun K "__eq__" "Turns.__eq__" s_eq_Turns a_eq_Turns d_eq_Turns
  b_eq_Turns : Binds K d_eq_Turns ["self", "other"] []
  eq_Turns : PySem.W.findIn K (.ref C_Turns) "__eq__" = some (some (.ref a_eq_Turns))
  fneq_Turns : PySem.W.isFn K (.ref a_eq_Turns) = true
  ne_Turns : PySem.W.findIn K (.ref C_Turns) "__ne__" = some (some (.builtin "object.__ne__"))
  a_len_Turns : Addr
  d_len_Turns : FuncData
  F_len_Turns : Fun K "__len__" "Turns.__len__" s_len_Turns a_len_Turns d_len_Turns
  b_len_Turns : Binds K d_len_Turns ["self"] []
  len_Turns : PySem.W.findIn K (.ref C_Turns) "__len__" = some (some (.ref a_len_Turns))
  fnlen_Turns : PySem.W.isFn K (.ref a_len_Turns) = true
  a_get_Turns_text : Addr
  d_get_Turns_text : FuncData
  F_get_Turns_text : Fun K "text" "Turns.text" s_get_Turns_text a_get_Turns_text d_get_Turns_text
  b_Turns_text : Binds K d_get_Turns_text ["self"] []
  pp_get_Turns_text : Addr
  p_Turns_text : PropOf K C_Turns "text" pp_get_Turns_text a_get_Turns_text
  a_get_Turns_players : Addr
  d_get_Turns_players : FuncData
  F_get_Turns_players : Fun K "players" "Turns.players" s_get_Turns_players a_get_Turns_players d_get_Turns_players
  b_Turns_players : Binds K d_get_Turns_players ["self"] []
  pp_get_Turns_players : Addr
  p_Turns_players : PropOf K C_Turns "players" pp_get_Turns_players a_get_Turns_players
  a_check_turns : Addr
  d_check_turns : FuncData
  F_check_turns : Fun K "check_turns" "check_turns" s_check_turns a_check_turns d_check_turns
  b_check_turns : Binds K d_check_turns ["value"] []
  g_check_turns : mg "check_turns" = some (.ref a_check_turns)
  k_check_turns : PySem.W.keepIn K (.ref a_check_turns) = true
  a_check_factors : Addr
  d_check_factors : FuncData
  F_check_factors : Fun K "check_factors" "check_factors" s_check_factors a_check_factors d_check_factors
  b_check_factors : Binds K d_check_factors ["factors"] []
  g_check_factors : mg "check_factors" = some (.ref a_check_factors)
  k_check_factors : PySem.W.keepIn K (.ref a_check_factors) = true
  a_raised : Addr
  d_raised : FuncData
  F_raised : Fun K "raised" "raised" s_raised a_raised d_raised
  b_raised : Binds K d_raised ["text", "player", "players"] []
  g_raised : mg "raised" = some (.ref a_raised)
  k_raised : PySem.W.keepIn K (.ref a_raised) = true
  a_product_of_two : Addr
  d_product_of_two : FuncData
  F_product_of_two : Fun K "product_of_two" "product_of_two" s_product_of_two a_product_of_two d_product_of_two
  b_product_of_two : Binds K d_product_of_two ["one", "other"] []
  g_product_of_two : mg "product_of_two" = some (.ref a_product_of_two)
  k_product_of_two : PySem.W.keepIn K (.ref a_product_of_two) = true
  a_product : Addr
  d_product : FuncData
  F_product : Fun K "product" "product" s_product a_product d_product
  bs_product : ∀ us rest : List Value, us.length = ([] : List Str).length → bindArgs d_product ⟨us ++ rest, []⟩ = (newTuple rest >>= fun t => pure (([] : List Str).zip us ++ ([("factors", t)] : List (Str × Value))))
  g_product : mg "product" = some (.ref a_product)
  k_product : PySem.W.keepIn K (.ref a_product) = true
  a_power : Addr
  d_power : FuncData
  F_power : Fun K "power" "power" s_power a_power d_power
  b_power : Binds K d_power ["turns", "exponent"] []
  g_power : mg "power" = some (.ref a_power)
  k_power : PySem.W.keepIn K (.ref a_power) = true
  a__law_hand : Addr
  d__law_hand : FuncData
  F__law_hand : Fun K "_law_hand" "_law_hand" s__law_hand a__law_hand d__law_hand
  b__law_hand : Binds K d__law_hand ["_law_script", "_law_k"] []
  g__law_hand : mg "_law_hand" = some (.ref a__law_hand)
  k__law_hand : PySem.W.keepIn K (.ref a__law_hand) = true
  a__law_draw : Addr
  d__law_draw : FuncData
  F__law_draw : Fun K "_law_draw" "_law_draw" s__law_draw a__law_draw d__law_draw
  b__law_draw : Binds K d__law_draw ["_law_pool", "_law_size"] []
  g__law_draw : mg "_law_draw" = some (.ref a__law_draw)
  k__law_draw : PySem.W.keepIn K (.ref a__law_draw) = true
  a__law_text : Addr
  d__law_text : FuncData
  F__law_text : Fun K "_law_text" "_law_text" s__law_text a__law_text d__law_text
  b__law_text : Binds K d__law_text ["_law_pool", "_law_players", "_law_most"] []
  g__law_text : mg "_law_text" = some (.ref a__law_text)
  k__law_text : PySem.W.keepIn K (.ref a__law_text) = true
  a__law_product : Addr
  d__law_product : FuncData
  F__law_product : Fun K "_law_product" "_law_product" s__law_product a__law_product d__law_product
  b__law_product : Binds K d__law_product ["_law_one", "_law_other", "_law_players"] []
  g__law_product : mg "_law_product" = some (.ref a__law_product)
  k__law_product : PySem.W.keepIn K (.ref a__law_product) = true
  a_law : Addr
  d_law : FuncData
  F_law : Fun K "law" "law" s_law a_law d_law
  b_law : Binds K d_law ["_law_script"] []
  g_law : mg "law" = some (.ref a_law)
  k_law : PySem.W.keepIn K (.ref a_law) = true
section
variable {P : Program} {w : World} {K : PySem.W.Frag} {mg : Str → Option Value} {base : Heap}
theorem sc_get_Turns_text : FnScope ["self"] ["self"] (defScope s_get_Turns_text) := ⟨rfl, rfl, rfl, by decide +kernel, rfl, by decide +kernel, by decide +kernel⟩
theorem ok_get_Turns_text (T : Env K mg) : FnOk P w K mg base (L2.CX P w) 1 T.a_get_Turns_text T.d_get_Turns_text ["self"] (getSp T.C_Turns "own_text") := by
  obtain ⟨oc, od, kV, doc, pm, an, cdv, ct, osl, e, lk, hcd⟩ := T.F_get_Turns_text.ex
  rw [e]
  exact fn_getter (CX := L2.CX P w) (P := P) (w := w) (mg := mg) (base := base) (k := 0) (f := "own_text") (C := T.C_Turns) (e ▸ lk) hcd sc_get_Turns_text rfl rfl T.cl_Turns T.tc.na_own_text
theorem sc_get_Turns_players : FnScope ["self"] ["self"] (defScope s_get_Turns_players) := ⟨rfl, rfl, rfl, by decide +kernel, rfl, by decide +kernel, by decide +kernel⟩
theorem ok_get_Turns_players (T : Env K mg) : FnOk P w K mg base (L2.CX P w) 1 T.a_get_Turns_players T.d_get_Turns_players ["self"] (getSp T.C_Turns "own_players") := by
  obtain ⟨oc, od, kV, doc, pm, an, cdv, ct, osl, e, lk, hcd⟩ := T.F_get_Turns_players.ex
  rw [e]
  exact fn_getter (CX := L2.CX P w) (P := P) (w := w) (mg := mg) (base := base) (k := 0) (f := "own_players") (C := T.C_Turns) (e ▸ lk) hcd sc_get_Turns_players rfl rfl T.cl_Turns T.tc.na_own_players
theorem sc_is_integer : FnScope ["value"] ["value"] (defScope s_is_integer) := ⟨rfl, rfl, rfl, by decide +kernel, rfl, by decide +kernel, by decide +kernel⟩
theorem ok_is_integer (T : Env K mg) : FnOk P w K mg base (L2.CX P w) 1 T.a_is_integer T.d_is_integer ["value"] (lift K 1 pIsInt) :=
  fn_dl pIsInt T.F_is_integer sc_is_integer fun cdv A outer s H E hr => ⟨t_is_integer K, (pss_one (ps_ret (pe_and (pe_callB call_isi (by rfl) T.z_isinstance PyProof.Rows.boot_isinstance (pa_cons (pv 0) (pa_cons (pe_bltn (v := .ty "int") (by rfl) T.z_int PyProof.Rows.boot_int rfl) pa_nil))) (pe_one (pe_not (pe_callB call_isi (by rfl) T.z_isinstance PyProof.Rows.boot_isinstance (pa_cons (pv 0) (pa_cons (pe_bltn (v := .ty "bool") (by rfl) T.z_bool PyProof.Rows.boot_bool rfl) pa_nil)))))))),
    fun B0 r m Φ Ψ hp hl => ws_is_integer hp hl⟩
theorem sc_in_range : FnScope ["value", "least", "most"] ["value", "least", "most"] (defScope s_in_range) := ⟨rfl, rfl, rfl, by decide +kernel, rfl, by decide +kernel, by decide +kernel⟩
theorem ok_in_range (T : Env K mg) : FnOk P w K mg base (L2.CX P w) 2 T.a_in_range T.d_in_range ["value", "least", "most"] (lift K 3 pInRange) :=
  fn_dl pInRange T.F_in_range sc_in_range fun cdv A outer s H E hr => ⟨t_in_range K, (pss_one (ps_ret (pe_and (pe_call (ok_is_integer T) (hr.mono (by decide)) (by rfl) T.g_is_integer T.k_is_integer T.b_is_integer .nil passL (pa_cons (pv 0) pa_nil)) (pe_one (pe_chain op_le op_le (pv 1) (pv 0) (pv 2)))))),
    fun B0 r m Φ Ψ hp hl => ws_in_range hp hl⟩
theorem sc_check_number : FnScope ["value", "least", "most"] ["value", "least", "most"] (defScope s_check_number) := ⟨rfl, rfl, rfl, by decide +kernel, rfl, by decide +kernel, by decide +kernel⟩
theorem ok_check_number (T : Env K mg) : FnOk P w K mg base (L2.CX P w) 3 T.a_check_number T.d_check_number ["value", "least", "most"] (lift K 3 pCheckNumber) :=
  fn_dl pCheckNumber T.F_check_number sc_check_number fun cdv A outer s H E hr => ⟨t_check_number K, (pss_one (ps_if (pt_not (pt_val (pe_call (ok_in_range T) (hr.mono (by decide)) (by rfl) T.g_in_range T.k_in_range T.b_in_range .nil passL (pa_cons (pv 0) (pa_cons (pv 1) (pa_cons (pv 2) pa_nil)))))) pss_never pss_nil)),
    fun B0 r m Φ Ψ hp hl => ws_check_number hp hl⟩
theorem sc_check_length : FnScope ["length"] ["length"] (defScope s_check_length) := ⟨rfl, rfl, rfl, by decide +kernel, rfl, by decide +kernel, by decide +kernel⟩
theorem ok_check_length (T : Env K mg) : FnOk P w K mg base (L2.CX P w) 1 T.a_check_length T.d_check_length ["length"] (lift K 1 pCheckLength) :=
  fn_dl pCheckLength T.F_check_length sc_check_length fun cdv A outer s H E hr => ⟨t_check_length K, (pss_one (ps_if (pt_cmpR op_gt (pv 0) (pe_glob (v := .int 2000) (by rfl) T.c_MAX_TURNS_turns ⟨_, rfl⟩) (nomark _)) pss_never pss_nil)),
    fun B0 r m Φ Ψ hp hl => ws_check_length hp hl⟩
theorem sc_init_Turns : FnScope ["self", "text", "players", "item"] ["self", "text", "players"] (defScope s_init_Turns) := ⟨rfl, rfl, rfl, by decide +kernel, rfl, by decide +kernel, by decide +kernel⟩
theorem ok_init_Turns (T : Env K mg) : FnOk P w K mg base (L2.CX P w) 3 T.a_init_Turns T.d_init_Turns ["self", "text", "players"] (lift K 3 (pInit T.C_Turns)) :=
  fn_dl (pInit T.C_Turns) T.F_init_Turns sc_init_Turns fun cdv A outer s H E hr => ⟨t_init_Turns K, (pss_cons (ps_if (pw_or (pt_not (pt_val (pe_callB call_isi (by rfl) T.z_isinstance PyProof.Rows.boot_isinstance (pa_cons (pv 1) (pa_cons (pe_bltn (v := .ty "str") (by rfl) T.z_str PyProof.Rows.boot_str rfl) pa_nil))))) (pw_or (pt_not (pt_chain op_le op_le pe_int (pe_callB call_len_str (by rfl) T.z_len PySem.boot_len (pa_cons (pv 1) pa_nil)) (pe_glob (v := .int 2000) (by rfl) T.c_MAX_TURNS_turns ⟨_, rfl⟩))) (pw_or1 (pt_val (pe_callB (cr_any rfl) (by rfl) T.z_any PyProof.Rows.boot_any (pa_cons (pe_lc (own := [("item", 3)]) (g := (gName 3)) (tt := tYes) rfl sc_init_Turns.nd (pi_str (pv 1)) (blkOk_by (N := ["self", "text", "players", "item"]) (sc := defScope s_init_Turns) (by decide +kernel)) (fun _ _ _ _ _ => (pg_name (i := 3) sc_init_Turns.nd rfl (Or.inl rfl))) (fun _ _ _ _ _ => pts_nil) (fun _ _ _ _ _ => (pe_cmpR op_notIn_sign (pv 3) (pe_glob (v := .str "ABCDEF") (by rfl) T.c_LETTERS ⟨_, rfl⟩) (by with_unfolding_all rfl)))) pa_nil)))))).pt pss_never pss_nil)
    (pss_cons (ps_if (pw_or (pt_not (pt_val (pe_call (ok_in_range T) (hr.mono (by decide)) (by rfl) T.g_in_range T.k_in_range T.b_in_range .nil passL (pa_cons (pv 2) (pa_cons (pe_glob (v := .int 2) (by rfl) T.c_FEWEST_PLAYERS ⟨_, rfl⟩) (pa_cons (pe_callB call_len_str (by rfl) T.z_len PySem.boot_len (pa_cons (pe_glob (v := .str "ABCDEF") (by rfl) T.c_LETTERS ⟨_, rfl⟩) pa_nil)) pa_nil)))))) (pw_or1 (pt_cmpR op_gt_str (pe_callB (cr_maxS rfl) (by rfl) T.z_max PyProof.Rows.boot_max (pa_cons (pv 1) pa_nil)) (pe_ix ix_str (pe_glob (v := .str "ABCDEF") (by rfl) T.c_LETTERS ⟨_, rfl⟩) (pe_op op_sub (pv 2) pe_int) (fun _ _ => rfl)) (nomark _)))).pt pss_never pss_nil)
    (pss_cons (ps_fld (pv 0) (by exact (pv 1)) rfl)
    (pss_one (ps_fld (pv 0) (by exact (pv 2)) rfl))))),
    fun B0 r m Φ Ψ hp hl => ws_init_Turns T.tc hp hl⟩
theorem sc_eq_Turns : FnScope ["self", "other"] ["self", "other"] (defScope s_eq_Turns) := ⟨rfl, rfl, rfl, by decide +kernel, rfl, by decide +kernel, by decide +kernel⟩
theorem ok_eq_Turns (T : Env K mg) : FnOk P w K mg base (L2.CX P w) 1 T.a_eq_Turns T.d_eq_Turns ["self", "other"] (lift K 2 (pEq T.C_Turns)) :=
  fn_dl (pEq T.C_Turns) T.F_eq_Turns sc_eq_Turns fun cdv A outer s H E hr => ⟨t_eq_Turns K T.C_Turns, (pss_cons (ps_if (pt_not (pt_val (pe_callB call_isi (by rfl) T.z_isinstance PyProof.Rows.boot_isinstance (pa_cons (pv 1) (pa_cons (pe_glob (v := .ref T.C_Turns) (by rfl) T.g_Turns rfl) pa_nil))))) (pss_one (ps_ret pe_bl)) pss_nil)
    (pss_one (ps_ret (pe_and (pe_cmpR op_eq (pe_fld (pv 0) rfl) (pe_fld (pv 1) rfl) (nomark _)) (pe_one (pe_cmpR op_eq (pe_fld (pv 0) rfl) (pe_fld (pv 1) rfl) (nomark _))))))),
    fun B0 r m Φ Ψ hp hl => ws_eq_Turns T.tc hp hl⟩
theorem sc_len_Turns : FnScope ["self"] ["self"] (defScope s_len_Turns) := ⟨rfl, rfl, rfl, by decide +kernel, rfl, by decide +kernel, by decide +kernel⟩
theorem ok_len_Turns (T : Env K mg) : FnOk P w K mg base (L2.CX P w) 1 T.a_len_Turns T.d_len_Turns ["self"] (lift K 1 (pLen T.C_Turns)) :=
  fn_dl (pLen T.C_Turns) T.F_len_Turns sc_len_Turns fun cdv A outer s H E hr => ⟨t_len_Turns K, (pss_one (ps_ret (pe_callB call_len_str (by rfl) T.z_len PySem.boot_len (pa_cons (pe_fld (pv 0) rfl) pa_nil)))),
    fun B0 r m Φ Ψ hp hl => ws_len_Turns T.tc hp hl⟩
theorem sc_check_turns : FnScope ["value"] ["value"] (defScope s_check_turns) := ⟨rfl, rfl, rfl, by decide +kernel, rfl, by decide +kernel, by decide +kernel⟩
theorem ok_check_turns (T : Env K mg) : FnOk P w K mg base (L2.CX P w) 1 T.a_check_turns T.d_check_turns ["value"] (lift K 1 (pCheckTurns T.C_Turns)) :=
  fn_dl (pCheckTurns T.C_Turns) T.F_check_turns sc_check_turns fun cdv A outer s H E hr => ⟨t_check_turns K T.C_Turns, (pss_one (ps_if (pt_not (pt_val (pe_callB call_isi (by rfl) T.z_isinstance PyProof.Rows.boot_isinstance (pa_cons (pv 0) (pa_cons (pe_glob (v := .ref T.C_Turns) (by rfl) T.g_Turns rfl) pa_nil))))) pss_never pss_nil)),
    fun B0 r m Φ Ψ hp hl => ws_check_turns T.tc hp hl⟩
theorem sc_check_factors : FnScope ["factors", "position", "factor"] ["factors"] (defScope s_check_factors) := ⟨rfl, rfl, rfl, by decide +kernel, rfl, by decide +kernel, by decide +kernel⟩
theorem ok_check_factors (T : Env K mg) : FnOk P w K mg base (L2.CX P w) 3 T.a_check_factors T.d_check_factors ["factors"] (lift K 1 (pCheckFactors T.C_Turns)) :=
  fn_dl (pCheckFactors T.C_Turns) T.F_check_factors sc_check_factors fun cdv A outer s H E hr => ⟨t_check_factors K T.C_Turns, (pss_cons (ps_if (pt_cmpR op_eq (pe_callB call_len_seq (by rfl) T.z_len PySem.boot_len (pa_cons (pv 0) pa_nil)) pe_int (nomark _)) pss_never pss_nil)
    (pss_one (ps_for (passes_of rfl) rfl (pi_enumS (fun v T h => srcV_ok v T h) (by rfl) T.z_enumerate (pa_cons (pv 0) pa_nil)) (pg_tup rfl (pgs_cons (pg_name (i := 1) sc_check_factors.nd rfl (Or.inl rfl)) (pgs_cons (pg_name (i := 2) sc_check_factors.nd rfl (Or.inl rfl)) pgs_nil))) (pss_one (ps_if (pw_or (pt_not (pt_val (pe_callB call_isi (by rfl) T.z_isinstance PyProof.Rows.boot_isinstance (pa_cons (pv 2) (pa_cons (pe_glob (v := .ref T.C_Turns) (by rfl) T.g_Turns rfl) pa_nil))))) (pw_or1 (pt_cmpR op_ne (pe_prop (pv 2) T.cl_Turns T.p_Turns_players (ok_get_Turns_players T) (hr.mono (by decide)) T.b_Turns_players .nil passL (by rfl)) (pe_prop (pe_ix ix_tup (pv 0) pe_int (fun _ _ => rfl)) T.cl_Turns T.p_Turns_players (ok_get_Turns_players T) (hr.mono (by decide)) T.b_Turns_players .nil passL (by rfl)) (nomark _)))).pt pss_never pss_nil))))),
    fun B0 r m Φ Ψ hp hl => ws_check_factors T.tc hp hl⟩
theorem sc_raised : FnScope ["text", "player", "players", "number", "item"] ["text", "player", "players"] (defScope s_raised) := ⟨rfl, rfl, rfl, by decide +kernel, rfl, by decide +kernel, by decide +kernel⟩
theorem ok_raised (T : Env K mg) : FnOk P w K mg base (L2.CX P w) 1 T.a_raised T.d_raised ["text", "player", "players"] (lift K 3 pRaised) :=
  fn_dl pRaised T.F_raised sc_raised fun cdv A outer s H E hr => ⟨t_raised K, (pss_cons (ps_set (i := 3) sc_raised.nd rfl (Or.inr rfl) (by exact (pe_m1 PySem.F.slot_str_index PySem.F.type_str_index mt_sindex (pe_glob (v := .str "ABCDEF") (by rfl) T.c_LETTERS ⟨_, rfl⟩) (pv 1))))
    (pss_one (ps_ret (pe_join pe_str (pe_lc (own := [("item", 4)]) (g := (gName 4)) (tt := tYes) rfl sc_raised.nd (pi_str (pv 0)) (blkOk_by (N := ["text", "player", "players", "number", "item"]) (sc := defScope s_raised) (by decide +kernel)) (fun _ _ _ _ _ => (pg_name (i := 4) sc_raised.nd rfl (Or.inl rfl))) (fun _ _ _ _ _ => pts_nil) (fun _ _ _ _ _ => (pe_ix ix_str (pe_glob (v := .str "ABCDEF") (by rfl) T.c_LETTERS ⟨_, rfl⟩) (pe_op op_mod (pe_op op_add (pe_m1 PySem.F.slot_str_index PySem.F.type_str_index mt_sindex (pe_glob (v := .str "ABCDEF") (by rfl) T.c_LETTERS ⟨_, rfl⟩) (pv 4)) (pv 3)) (pv 2)) (fun _ _ => rfl)))))))),
    fun B0 r m Φ Ψ hp hl => ws_raised hp hl⟩
theorem sc_product_of_two : FnScope ["one", "other", "copies", "player", "item"] ["one", "other"] (defScope s_product_of_two) := ⟨rfl, rfl, rfl, by decide +kernel, rfl, by decide +kernel, by decide +kernel⟩
theorem ok_product_of_two (T : Env K mg) : FnOk P w K mg base (L2.CX P w) 5 T.a_product_of_two T.d_product_of_two ["one", "other"] (lift K 2 (pProd2 T.C_Turns)) :=
  fn_dl (pProd2 T.C_Turns) T.F_product_of_two sc_product_of_two fun cdv A outer s H E hr => ⟨t_product_of_two K T.C_Turns, (pss_cons (ps_set (i := 2) sc_product_of_two.nd rfl (Or.inr rfl) (by exact (pe_dc (own := [("player", 3)]) (g := (gName 3)) (tt := tYes) rfl sc_product_of_two.nd (pi_str (pe_slice sl_str (pe_glob (v := .str "ABCDEF") (by rfl) T.c_LETTERS ⟨_, rfl⟩) po_none (po_some (pe_prop (pv 0) T.cl_Turns T.p_Turns_players (ok_get_Turns_players T) (hr.mono (by decide)) T.b_Turns_players .nil passL (by rfl))))) (blkOk_by (N := ["one", "other", "copies", "player", "item"]) (sc := defScope s_product_of_two) (by decide +kernel)) (fun _ _ _ _ _ => (pg_name (i := 3) sc_product_of_two.nd rfl (Or.inl rfl))) (fun _ _ _ _ _ => pts_nil) (fun _ _ _ _ _ => (pv 3)) (fun _ _ _ _ _ => (pe_call (ok_raised T) (hr.mono (by decide)) (by rfl) T.g_raised T.k_raised T.b_raised .nil passL (pa_cons (pe_prop (pv 1) T.cl_Turns T.p_Turns_text (ok_get_Turns_text T) (hr.mono (by decide)) T.b_Turns_text .nil passL (by rfl)) (pa_cons (pv 3) (pa_cons (pe_prop (pv 0) T.cl_Turns T.p_Turns_players (ok_get_Turns_players T) (hr.mono (by decide)) T.b_Turns_players .nil passL (by rfl)) pa_nil))))))))
    (pss_one (ps_ret (pe_make T.mk_Turns (ok_init_Turns T) (hr.mono (by decide)) (by rfl) T.g_Turns T.b_init_Turns .nil passL (pa_cons (pe_join pe_str (pe_lc (own := [("item", 4)]) (g := (gName 4)) (tt := tYes) rfl sc_product_of_two.nd (pi_str (pe_prop (pv 0) T.cl_Turns T.p_Turns_text (ok_get_Turns_text T) (hr.mono (by decide)) T.b_Turns_text .nil passL (by rfl))) (blkOk_by (N := ["one", "other", "copies", "player", "item"]) (sc := defScope s_product_of_two) (by decide +kernel)) (fun _ _ _ _ _ => (pg_name (i := 4) sc_product_of_two.nd rfl (Or.inl rfl))) (fun _ _ _ _ _ => pts_nil) (fun _ _ _ _ _ => (pe_dget (hu_of hr) (pv 2) (pv 4) (fun _ _ => rfl))))) (pa_cons (pe_prop (pv 0) T.cl_Turns T.p_Turns_players (ok_get_Turns_players T) (hr.mono (by decide)) T.b_Turns_players .nil passL (by rfl)) pa_nil)))))),
    fun B0 r m Φ Ψ hp hl => ws_product_of_two T.tc hp hl⟩
theorem sc_product : FnScope ["factors", "length", "factor", "found"] (([] : List Str) ++ (["factors"] : List Str)) (defScope s_product) := ⟨rfl, rfl, rfl, by decide +kernel, rfl, by decide +kernel, by decide +kernel⟩
theorem ok_product (T : Env K mg) : FnR P w K mg base (L2.CX P w) 6 T.a_product (spStar K 0 (pProduct T.C_Turns)) :=
  fn_dlS (ps := []) (pv := "factors") (pProduct T.C_Turns) T.F_product sc_product T.bs_product fun cdv A outer s H E hr => ⟨t_product K T.C_Turns, (pss_cons (ps_expr (pe_call (ok_check_factors T) (hr.mono (by decide)) (by rfl) T.g_check_factors T.k_check_factors T.b_check_factors .nil passL (pa_cons (pv 0) pa_nil)))
    (pss_cons (ps_set (i := 1) sc_product.nd rfl (Or.inl rfl) (by exact pe_int))
    (pss_cons (ps_for (passes_of rfl) rfl (pi_tup (pv 0)) (pg_name (i := 2) sc_product.nd rfl (Or.inl rfl)) (pss_one (ps_aug (i := 1) sc_product.nd rfl (Or.inl rfl) (pe_callB (call_lenOwn T.len_Turns T.fnlen_Turns (raw0 (ok_len_Turns T) T.b_len_Turns) (hr.mono (by decide)) passL) (by rfl) T.z_len PySem.boot_len (pa_cons (pv 2) pa_nil)) iop_mul)))
    (pss_cons (ps_expr (pe_call (ok_check_length T) (hr.mono (by decide)) (by rfl) T.g_check_length T.k_check_length T.b_check_length .nil passL (pa_cons (pv 1) pa_nil)))
    (pss_cons (ps_set (i := 3) sc_product.nd rfl (Or.inl rfl) (by exact (pe_ix ix_tup (pv 0) pe_int (fun _ _ => rfl))))
    (pss_cons (ps_for (passes_of rfl) rfl (pi_tup (pe_slice sl_tup (pv 0) (po_some pe_int) po_none)) (pg_name (i := 2) sc_product.nd rfl (Or.inl rfl)) (pss_one (ps_set (i := 3) sc_product.nd rfl (Or.inl rfl) (by exact (pe_call (ok_product_of_two T) (hr.mono (by decide)) (by rfl) T.g_product_of_two T.k_product_of_two T.b_product_of_two .nil passL (pa_cons (pv 3) (pa_cons (pv 2) pa_nil)))))))
    (pss_one (ps_ret (pv 3))))))))),
    fun B0 r m Φ Ψ hp hl => ws_product T.tc hp hl⟩
theorem sc_power : FnScope ["turns", "exponent", "length", "turn", "factors"] ["turns", "exponent"] (defScope s_power) := ⟨rfl, rfl, rfl, by decide +kernel, rfl, by decide +kernel, by decide +kernel⟩
theorem ok_power (T : Env K mg) : FnOk P w K mg base (L2.CX P w) 7 T.a_power T.d_power ["turns", "exponent"] (lift K 2 (pPower T.C_Turns)) :=
  fn_dl (pPower T.C_Turns) T.F_power sc_power fun cdv A outer s H E hr => ⟨t_power K T.C_Turns, (pss_cons (ps_expr (pe_call (ok_check_turns T) (hr.mono (by decide)) (by rfl) T.g_check_turns T.k_check_turns T.b_check_turns .nil passL (pa_cons (pv 0) pa_nil)))
    (pss_cons (ps_expr (pe_call (ok_check_number T) (hr.mono (by decide)) (by rfl) T.g_check_number T.k_check_number T.b_check_number .nil passL (pa_cons (pv 1) (pa_cons pe_int (pa_cons (pe_glob (v := .int 2000) (by rfl) T.c_MAX_TURNS_turns ⟨_, rfl⟩) pa_nil)))))
    (pss_cons (ps_set (i := 2) sc_power.nd rfl (Or.inl rfl) (by exact pe_int))
    (pss_cons (ps_for (passes_of rfl) rfl (pi_range1 (by rfl) T.z_range (pa_cons (pv 1) pa_nil)) (pg_name (i := 3) sc_power.nd rfl (Or.inl rfl)) (pss_one (ps_aug (i := 2) sc_power.nd rfl (Or.inl rfl) (pe_callB (call_lenOwn T.len_Turns T.fnlen_Turns (raw0 (ok_len_Turns T) T.b_len_Turns) (hr.mono (by decide)) passL) (by rfl) T.z_len PySem.boot_len (pa_cons (pv 0) pa_nil)) iop_mul)))
    (pss_cons (ps_expr (pe_call (ok_check_length T) (hr.mono (by decide)) (by rfl) T.g_check_length T.k_check_length T.b_check_length .nil passL (pa_cons (pv 2) pa_nil)))
    (pss_cons (ps_set (i := 4) sc_power.nd rfl (Or.inl rfl) (by exact (pe_op op_rep (pe_lst (pa_cons (pv 0) pa_nil)) (pv 1))))
    (pss_one (ps_ret (StX.pe_callS1 (ok_product T) (hr.mono (by decide)) T.k_product (by rfl) T.g_product passL (pv 4)))))))))),
    fun B0 r m Φ Ψ hp hl => ws_power T.tc hp hl⟩
theorem sc__law_hand : FnScope ["_law_script", "_law_k", "_law_cell", "_law_seed"] ["_law_script", "_law_k"] (defScope s__law_hand) := ⟨rfl, rfl, rfl, by decide +kernel, rfl, by decide +kernel, by decide +kernel⟩
theorem ok__law_hand (T : Env K mg) : FnOk P w K mg base (L2.CX P w) 1 T.a__law_hand T.d__law_hand ["_law_script", "_law_k"] (lift K 2 pHand) :=
  fn_dl pHand T.F__law_hand sc__law_hand fun cdv A outer s H E hr => ⟨t__law_hand K, (pss_cons (ps_set (i := 2) sc__law_hand.nd rfl (Or.inl rfl) (by exact (pe_ix ix_list (pe_op op_cat (pe_slice sl_list (pv 0) (po_some (pv 1)) (po_some (pe_op op_add (pv 1) pe_int))) (pe_lst (pa_cons pe_int pa_nil))) pe_int (fun _ _ => rfl))))
    (pss_cons (ps_set (i := 3) sc__law_hand.nd rfl (Or.inl rfl) (by exact (pe_op op_mod (pe_op op_mul (pe_op op_add (pe_op op_add (pe_op op_mod (pv 2) pe_int) (pe_op op_mul pe_int (pv 1))) pe_int) pe_int) pe_int)))
    (pss_one (ps_ret (pe_lst (pa_cons (pe_op op_mul (pe_callTy call_int1 (by rfl) T.z_int PyProof.Rows.boot_int (pa_cons (pe_cmpR op_ge (pv 2) (pe_op op_pow pe_int pe_int) (nomark _)) pa_nil)) (pv 2)) (pa_cons (pv 3) pa_nil))))))),
    fun B0 r m Φ Ψ hp hl => ws__law_hand hp hl⟩
theorem sc__law_draw : FnScope ["_law_pool", "_law_size", "_law_found"] ["_law_pool", "_law_size"] (defScope s__law_draw) := ⟨rfl, rfl, rfl, by decide +kernel, rfl, by decide +kernel, by decide +kernel⟩
theorem ok__law_draw (T : Env K mg) : FnOk P w K mg base (L2.CX P w) 1 T.a__law_draw T.d__law_draw ["_law_pool", "_law_size"] (lift K 2 pDraw) :=
  fn_dl pDraw T.F__law_draw sc__law_draw fun cdv A outer s H E hr => ⟨t__law_draw K, (pss_cons (ps_if (pt_cmpR op_gt (pe_ix ix_list (pv 0) pe_int (fun _ _ => rfl)) pe_int (nomark _)) (pss_cons (ps_set (i := 2) sc__law_draw.nd rfl (Or.inl rfl) (by exact (pe_op op_mod (pe_ix ix_list (pv 0) pe_int (fun _ _ => rfl)) (pv 1))))
    (pss_cons (ps_asg (by exact (pe_op op_fdiv (pe_ix ix_list (pv 0) pe_int (fun _ _ => rfl)) (pv 1))) (pg_sub (pv 0) pe_int set_list))
    (pss_one (ps_ret (pv 2))))) pss_nil)
    (pss_cons (ps_asg (by exact (pe_op op_mod (pe_op op_add (pe_op op_mul (pe_ix ix_list (pv 0) pe_int (fun _ _ => rfl)) pe_int) pe_int) pe_int)) (pg_sub (pv 0) pe_int set_list))
    (pss_one (ps_ret (pe_op op_mod (pe_op op_fdiv (pe_op op_mod (pe_op op_mul (pe_ix ix_list (pv 0) pe_int (fun _ _ => rfl)) (pe_ix ix_list (pv 0) pe_int (fun _ _ => rfl))) pe_int) pe_int) (pv 1)))))),
    fun B0 r m Φ Ψ hp hl => ws__law_draw hp hl⟩
theorem sc__law_text : FnScope ["_law_pool", "_law_players", "_law_most", "_law_letters", "_law_turn"] ["_law_pool", "_law_players", "_law_most"] (defScope s__law_text) := ⟨rfl, rfl, rfl, by decide +kernel, rfl, by decide +kernel, by decide +kernel⟩
theorem ok__law_text (T : Env K mg) : FnOk P w K mg base (L2.CX P w) 2 T.a__law_text T.d__law_text ["_law_pool", "_law_players", "_law_most"] (lift K 3 pText) :=
  fn_dl pText T.F__law_text sc__law_text fun cdv A outer s H E hr => ⟨t__law_text K, (pss_cons (ps_set (i := 3) sc__law_text.nd rfl (Or.inr rfl) (by exact (pe_slice sl_str pe_str po_none (po_some (pv 1)))))
    (pss_one (ps_ret (pe_join pe_str (pe_lc (own := [("_law_turn", 4)]) (g := (gName 4)) (tt := tYes) rfl sc__law_text.nd (pi_range1 (by rfl) T.z_range (pa_cons (pe_op op_add pe_int (pe_call (ok__law_draw T) (hr.mono (by decide)) (by rfl) T.g__law_draw T.k__law_draw T.b__law_draw .nil passL (pa_cons (pv 0) (pa_cons (pv 2) pa_nil)))) pa_nil)) (blkOk_by (N := ["_law_pool", "_law_players", "_law_most", "_law_letters", "_law_turn"]) (sc := defScope s__law_text) (by decide +kernel)) (fun _ _ _ _ _ => (pg_name (i := 4) sc__law_text.nd rfl (Or.inl rfl))) (fun _ _ _ _ _ => pts_nil) (fun _ _ _ _ _ => (pe_ix ix_str (pv 3) (pe_call (ok__law_draw T) (hr.mono (by decide)) (by rfl) T.g__law_draw T.k__law_draw T.b__law_draw .nil passL (pa_cons (pv 0) (pa_cons (pv 1) pa_nil))) (fun _ _ => rfl)))))))),
    fun B0 r m Φ Ψ hp hl => ws__law_text hp hl⟩
theorem sc__law_product : FnScope ["_law_one", "_law_other", "_law_players", "_law_letters", "_law_found", "_law_item", "_law_player", "_law_number"] ["_law_one", "_law_other", "_law_players"] (defScope s__law_product) := ⟨rfl, rfl, rfl, by decide +kernel, rfl, by decide +kernel, by decide +kernel⟩
theorem ok__law_product (T : Env K mg) : FnOk P w K mg base (L2.CX P w) 1 T.a__law_product T.d__law_product ["_law_one", "_law_other", "_law_players"] (lift K 3 pLawProd) :=
  fn_dl pLawProd T.F__law_product sc__law_product fun cdv A outer s H E hr => ⟨t__law_product K, (pss_cons (ps_set (i := 3) sc__law_product.nd rfl (Or.inl rfl) (by exact pe_str))
    (pss_cons (ps_set (i := 4) sc__law_product.nd rfl (Or.inl rfl) (by exact pe_str))
    (pss_cons (ps_for (passes_of rfl) rfl (pi_str (pv 0)) (pg_name (i := 5) sc__law_product.nd rfl (Or.inl rfl)) (pss_one (ps_for (passes_of rfl) rfl (pi_str (pv 1)) (pg_name (i := 6) sc__law_product.nd rfl (Or.inl rfl)) (pss_cons (ps_set (i := 7) sc__law_product.nd rfl (Or.inl rfl) (by exact (pe_op op_add (pe_m1 PySem.F.slot_str_index PySem.F.type_str_index mt_sindex (pv 3) (pv 5)) (pe_m1 PySem.F.slot_str_index PySem.F.type_str_index mt_sindex (pv 3) (pv 6)))))
    (pss_one (ps_set (i := 4) sc__law_product.nd rfl (Or.inl rfl) (by exact (pe_op op_add_str (pv 4) (pe_ix ix_str (pv 3) (pe_op op_mod (pv 7) (pv 2)) (fun _ _ => rfl))))))))))
    (pss_one (ps_ret (pv 4)))))),
    fun B0 r m Φ Ψ hp hl => ws__law_product hp hl⟩
theorem sc_law : FnScope ["_law_script", "_law_k", "_law_pool", "_law_players", "_law_texts", "_law_one", "_law_other", "_law_last", "_law_two", "_law_three", "_law_unit", "_law_due", "_law_exponent", "_law_turn", "_law_text_here"] ["_law_script"] (defScope s_law) := ⟨rfl, rfl, rfl, by decide +kernel, rfl, by decide +kernel, by decide +kernel⟩
theorem ok_law (T : Env K mg) : FnOk P w K mg base (L2.CX P w) 8 T.a_law T.d_law ["_law_script"] (lift K 1 pLaw) :=
  fn_dl pLaw T.F_law sc_law fun cdv A outer s H E hr => ⟨t_law K T.C_Turns, (pss_cons (ps_for (passes_of rfl) rfl (pi_range1 (by rfl) T.z_range (pa_cons (pe_callB (call_max2 rfl) (by rfl) T.z_max PyProof.Rows.boot_max (pa_cons pe_int (pa_cons (pe_callB (call_min2 rfl) (by rfl) T.z_min PyProof.Rows.boot_min (pa_cons (pe_callB call_len_seq (by rfl) T.z_len PySem.boot_len (pa_cons (pv 0) pa_nil)) (pa_cons pe_int pa_nil))) pa_nil))) pa_nil)) (pg_name (i := 1) sc_law.nd rfl (Or.inl rfl)) (pss_cons (ps_set (i := 2) sc_law.nd rfl (Or.inr rfl) (by exact (pe_call (ok__law_hand T) (hr.mono (by decide)) (by rfl) T.g__law_hand T.k__law_hand T.b__law_hand .nil passL (pa_cons (pv 0) (pa_cons (pv 1) pa_nil)))))
    (pss_cons (ps_set (i := 3) sc_law.nd rfl (Or.inr rfl) (by exact (pe_op op_add pe_int (pe_call (ok__law_draw T) (hr.mono (by decide)) (by rfl) T.g__law_draw T.k__law_draw T.b__law_draw .nil passL (pa_cons (pv 2) (pa_cons pe_int pa_nil))))))
    (pss_cons (ps_setLc (i := 4) (own := [("_law_turn", 13)]) (g := (gName 13)) (tt := tYes) rfl sc_law.nd rfl rfl (sw_true rfl rfl rfl (by decide +kernel)) (pi_range1 (by rfl) T.z_range (pa_cons pe_int pa_nil)) (blkOk_by (N := ["_law_script", "_law_k", "_law_pool", "_law_players", "_law_texts", "_law_one", "_law_other", "_law_last", "_law_two", "_law_three", "_law_unit", "_law_due", "_law_exponent", "_law_turn", "_law_text_here"]) (sc := defScope s_law) (by decide +kernel)) (fun _ _ _ _ _ => (pg_name (i := 13) sc_law.nd rfl (Or.inl rfl))) (fun _ _ _ _ _ => pts_nil) (fun _ _ _ _ _ => (pe_call (ok__law_text T) (hr.mono (by decide)) (by rfl) T.g__law_text T.k__law_text T.b__law_text .nil passL (pa_cons (pv 2) (pa_cons (pv 3) (pa_cons pe_int pa_nil))))))
    (pss_cons (ps_asg (by exact (pe_lc (own := [("_law_text_here", 14)]) (g := (gName 14)) (tt := tYes) rfl sc_law.nd (pi_list (pv 4)) (blkOk_by (N := ["_law_script", "_law_k", "_law_pool", "_law_players", "_law_texts", "_law_one", "_law_other", "_law_last", "_law_two", "_law_three", "_law_unit", "_law_due", "_law_exponent", "_law_turn", "_law_text_here"]) (sc := defScope s_law) (by decide +kernel)) (fun _ _ _ _ _ => (pg_name (i := 14) sc_law.nd rfl (Or.inl rfl))) (fun _ _ _ _ _ => pts_nil) (fun _ _ _ _ _ => (pe_make T.mk_Turns (ok_init_Turns T) (hr.mono (by decide)) (by rfl) T.g_Turns T.b_init_Turns .nil passL (pa_cons (pv 14) (pa_cons (pv 3) pa_nil)))))) (pg_unl rfl (pgs_cons (pg_name (i := 5) sc_law.nd rfl (Or.inl rfl)) (pgs_cons (pg_name (i := 6) sc_law.nd rfl (Or.inl rfl)) (pgs_cons (pg_name (i := 7) sc_law.nd rfl (Or.inl rfl)) pgs_nil)))))
    (pss_cons (ps_set (i := 8) sc_law.nd rfl (Or.inl rfl) (by exact (pe_call (ok__law_product T) (hr.mono (by decide)) (by rfl) T.g__law_product T.k__law_product T.b__law_product .nil passL (pa_cons (pe_ix ix_list (pv 4) pe_int (fun _ _ => rfl)) (pa_cons (pe_ix ix_list (pv 4) pe_int (fun _ _ => rfl)) (pa_cons (pv 3) pa_nil))))))
    (pss_cons (ps_set (i := 9) sc_law.nd rfl (Or.inl rfl) (by exact (pe_call (ok__law_product T) (hr.mono (by decide)) (by rfl) T.g__law_product T.k__law_product T.b__law_product .nil passL (pa_cons (pv 8) (pa_cons (pe_ix ix_list (pv 4) pe_int (fun _ _ => rfl)) (pa_cons (pv 3) pa_nil))))))
    (pss_cons (ps_if (pw_or (pt_cmpR (op_ownNeI T.obj_Turns.cm T.ne_Turns T.eq_Turns T.fneq_Turns (raw0 (ok_eq_Turns T) T.b_eq_Turns) (hr.mono (by decide)) passL) (pe_callR (ok_product T) (hr.mono (by decide)) (by rfl) T.g_product T.k_product passL (pa_cons (pv 5) pa_nil)) (pv 5) (nomark _)) (pw_or1 (pt_cmpR (op_ownNeI T.obj_Turns.cm T.ne_Turns T.eq_Turns T.fneq_Turns (raw0 (ok_eq_Turns T) T.b_eq_Turns) (hr.mono (by decide)) passL) (pe_callR (ok_product T) (hr.mono (by decide)) (by rfl) T.g_product T.k_product passL (pa_cons (pv 5) (pa_cons (pv 6) pa_nil))) (pe_make T.mk_Turns (ok_init_Turns T) (hr.mono (by decide)) (by rfl) T.g_Turns T.b_init_Turns .nil passL (pa_cons (pv 8) (pa_cons (pv 3) pa_nil))) (nomark _)))).pt (pss_one (ps_ret pe_bl)) pss_nil)
    (pss_cons (ps_if (pw_or (pt_cmpR (op_ownNeI T.obj_Turns.cm T.ne_Turns T.eq_Turns T.fneq_Turns (raw0 (ok_eq_Turns T) T.b_eq_Turns) (hr.mono (by decide)) passL) (pe_callR (ok_product T) (hr.mono (by decide)) (by rfl) T.g_product T.k_product passL (pa_cons (pv 5) (pa_cons (pv 6) (pa_cons (pv 7) pa_nil)))) (pe_make T.mk_Turns (ok_init_Turns T) (hr.mono (by decide)) (by rfl) T.g_Turns T.b_init_Turns .nil passL (pa_cons (pv 9) (pa_cons (pv 3) pa_nil))) (nomark _)) (pw_or1 (pt_cmpR op_ne (pe_prop (pe_callR (ok_product T) (hr.mono (by decide)) (by rfl) T.g_product T.k_product passL (pa_cons (pv 5) (pa_cons (pe_callR (ok_product T) (hr.mono (by decide)) (by rfl) T.g_product T.k_product passL (pa_cons (pv 6) (pa_cons (pv 7) pa_nil))) pa_nil))) T.cl_Turns T.p_Turns_text (ok_get_Turns_text T) (hr.mono (by decide)) T.b_Turns_text .nil passL (by rfl)) (pv 9) (nomark _)))).pt (pss_one (ps_ret pe_bl)) pss_nil)
    (pss_cons (ps_set (i := 10) sc_law.nd rfl (Or.inl rfl) (by exact (pe_make T.mk_Turns (ok_init_Turns T) (hr.mono (by decide)) (by rfl) T.g_Turns T.b_init_Turns .nil passL (pa_cons pe_str (pa_cons (pv 3) pa_nil)))))
    (pss_cons (ps_if (pw_or (pt_cmpR (op_ownNeI T.obj_Turns.cm T.ne_Turns T.eq_Turns T.fneq_Turns (raw0 (ok_eq_Turns T) T.b_eq_Turns) (hr.mono (by decide)) passL) (pe_callR (ok_product T) (hr.mono (by decide)) (by rfl) T.g_product T.k_product passL (pa_cons (pv 10) (pa_cons (pv 5) pa_nil))) (pv 5) (nomark _)) (pw_or1 (pt_cmpR (op_ownNeI T.obj_Turns.cm T.ne_Turns T.eq_Turns T.fneq_Turns (raw0 (ok_eq_Turns T) T.b_eq_Turns) (hr.mono (by decide)) passL) (pe_callR (ok_product T) (hr.mono (by decide)) (by rfl) T.g_product T.k_product passL (pa_cons (pv 5) (pa_cons (pv 10) (pa_cons (pv 10) pa_nil)))) (pv 5) (nomark _)))).pt (pss_one (ps_ret pe_bl)) pss_nil)
    (pss_cons (ps_set (i := 11) sc_law.nd rfl (Or.inl rfl) (by exact (pe_ix ix_list (pv 4) pe_int (fun _ _ => rfl))))
    (pss_cons (ps_for (passes_of rfl) rfl (pi_range2 (by rfl) T.z_range (pa_cons pe_int (pa_cons pe_int pa_nil))) (pg_name (i := 12) sc_law.nd rfl (Or.inl rfl)) (pss_cons (ps_if (pt_cmpR (op_ownNeI T.obj_Turns.cm T.ne_Turns T.eq_Turns T.fneq_Turns (raw0 (ok_eq_Turns T) T.b_eq_Turns) (hr.mono (by decide)) passL) (pe_call (ok_power T) (hr.mono (by decide)) (by rfl) T.g_power T.k_power T.b_power .nil passL (pa_cons (pv 5) (pa_cons (pv 12) pa_nil))) (pe_make T.mk_Turns (ok_init_Turns T) (hr.mono (by decide)) (by rfl) T.g_Turns T.b_init_Turns .nil passL (pa_cons (pv 11) (pa_cons (pv 3) pa_nil))) (nomark _)) (pss_one (ps_ret pe_bl)) pss_nil)
    (pss_one (ps_set (i := 11) sc_law.nd rfl (Or.inl rfl) (by exact (pe_call (ok__law_product T) (hr.mono (by decide)) (by rfl) T.g__law_product T.k__law_product T.b__law_product .nil passL (pa_cons (pv 11) (pa_cons (pe_ix ix_list (pv 4) pe_int (fun _ _ => rfl)) (pa_cons (pv 3) pa_nil)))))))))
    (pss_one (ps_if (pt_cmpR (op_neD hr.units) (pe_lst (pa_cons (pe_prop (pv 5) T.cl_Turns T.p_Turns_text (ok_get_Turns_text T) (hr.mono (by decide)) T.b_Turns_text .nil passL (by rfl)) (pa_cons (pe_prop (pv 6) T.cl_Turns T.p_Turns_text (ok_get_Turns_text T) (hr.mono (by decide)) T.b_Turns_text .nil passL (by rfl)) (pa_cons (pe_prop (pv 7) T.cl_Turns T.p_Turns_text (ok_get_Turns_text T) (hr.mono (by decide)) T.b_Turns_text .nil passL (by rfl)) pa_nil)))) (pv 4) (nomark _)) (pss_one (ps_ret pe_bl)) pss_nil)))))))))))))))
    (pss_one (ps_ret pe_bl))),
    fun B0 r m Φ Ψ hp hl => ws_law T.tc hp hl⟩
end
theorem all_mk {l : PySem.W.OpenLaw} {w : World} {K : PySem.W.Frag} {h : Heap} {mg : Str → Option Value} {fa : Addr} (X : K.In h) (G : h.Ns mainGlobals mg) (hfa : mg "law" = some (.ref fa))
    {C_Turns : Addr}
    {t_LETTERS : Tok}
    {t_MAX_TURNS_turns : Tok}
    {t_FEWEST_PLAYERS : Tok}
    {f_is_integer : Addr} {od_is_integer an_is_integer : Option Addr} {sl_is_integer : Array (Option Value)} {oc_is_integer kV_is_integer dc_is_integer pm_is_integer cd_is_integer ct_is_integer : Value}
    {f_in_range : Addr} {od_in_range an_in_range : Option Addr} {sl_in_range : Array (Option Value)} {oc_in_range kV_in_range dc_in_range pm_in_range cd_in_range ct_in_range : Value}
    {f_check_number : Addr} {od_check_number an_check_number : Option Addr} {sl_check_number : Array (Option Value)} {oc_check_number kV_check_number dc_check_number pm_check_number cd_check_number ct_check_number : Value}
    {f_check_length : Addr} {od_check_length an_check_length : Option Addr} {sl_check_length : Array (Option Value)} {oc_check_length kV_check_length dc_check_length pm_check_length cd_check_length ct_check_length : Value}
    {f_init_Turns : Addr} {od_init_Turns an_init_Turns : Option Addr} {sl_init_Turns : Array (Option Value)} {oc_init_Turns kV_init_Turns dc_init_Turns pm_init_Turns cd_init_Turns ct_init_Turns : Value}
    {f_eq_Turns : Addr} {od_eq_Turns an_eq_Turns : Option Addr} {sl_eq_Turns : Array (Option Value)} {oc_eq_Turns kV_eq_Turns dc_eq_Turns pm_eq_Turns cd_eq_Turns ct_eq_Turns : Value}
    {f_len_Turns : Addr} {od_len_Turns an_len_Turns : Option Addr} {sl_len_Turns : Array (Option Value)} {oc_len_Turns kV_len_Turns dc_len_Turns pm_len_Turns cd_len_Turns ct_len_Turns : Value}
    {f_get_Turns_text : Addr} {od_get_Turns_text an_get_Turns_text : Option Addr} {sl_get_Turns_text : Array (Option Value)} {oc_get_Turns_text kV_get_Turns_text dc_get_Turns_text pm_get_Turns_text cd_get_Turns_text ct_get_Turns_text : Value}
    {p_get_Turns_text : Addr} {rest_get_Turns_text : List Value}
    {f_get_Turns_players : Addr} {od_get_Turns_players an_get_Turns_players : Option Addr} {sl_get_Turns_players : Array (Option Value)} {oc_get_Turns_players kV_get_Turns_players dc_get_Turns_players pm_get_Turns_players cd_get_Turns_players ct_get_Turns_players : Value}
    {p_get_Turns_players : Addr} {rest_get_Turns_players : List Value}
    {f_check_turns : Addr} {od_check_turns an_check_turns : Option Addr} {sl_check_turns : Array (Option Value)} {oc_check_turns kV_check_turns dc_check_turns pm_check_turns cd_check_turns ct_check_turns : Value}
    {f_check_factors : Addr} {od_check_factors an_check_factors : Option Addr} {sl_check_factors : Array (Option Value)} {oc_check_factors kV_check_factors dc_check_factors pm_check_factors cd_check_factors ct_check_factors : Value}
    {f_raised : Addr} {od_raised an_raised : Option Addr} {sl_raised : Array (Option Value)} {oc_raised kV_raised dc_raised pm_raised cd_raised ct_raised : Value}
    {f_product_of_two : Addr} {od_product_of_two an_product_of_two : Option Addr} {sl_product_of_two : Array (Option Value)} {oc_product_of_two kV_product_of_two dc_product_of_two pm_product_of_two cd_product_of_two ct_product_of_two : Value}
    {f_product : Addr} {od_product an_product : Option Addr} {sl_product : Array (Option Value)} {oc_product kV_product dc_product pm_product cd_product ct_product : Value}
    {f_power : Addr} {od_power an_power : Option Addr} {sl_power : Array (Option Value)} {oc_power kV_power dc_power pm_power cd_power ct_power : Value}
    {f__law_hand : Addr} {od__law_hand an__law_hand : Option Addr} {sl__law_hand : Array (Option Value)} {oc__law_hand kV__law_hand dc__law_hand pm__law_hand cd__law_hand ct__law_hand : Value}
    {f__law_draw : Addr} {od__law_draw an__law_draw : Option Addr} {sl__law_draw : Array (Option Value)} {oc__law_draw kV__law_draw dc__law_draw pm__law_draw cd__law_draw ct__law_draw : Value}
    {f__law_text : Addr} {od__law_text an__law_text : Option Addr} {sl__law_text : Array (Option Value)} {oc__law_text kV__law_text dc__law_text pm__law_text cd__law_text ct__law_text : Value}
    {f__law_product : Addr} {od__law_product an__law_product : Option Addr} {sl__law_product : Array (Option Value)} {oc__law_product kV__law_product dc__law_product pm__law_product cd__law_product ct__law_product : Value}
    {f_law : Addr} {od_law an_law : Option Addr} {sl_law : Array (Option Value)} {oc_law kV_law dc_law pm_law cd_law ct_law : Value}
    (hg_Turns : PySem.W.nsIn K mainGlobals "Turns" = some (some (.ref C_Turns)))
    (pg_Turns : PySem.W.plainGet K C_Turns Str.empty = true)
    (hd_Turns : PySem.W.hasDictIn K C_Turns = true)
    (po_Turns : PySem.W.plainOver K C_Turns = true)
    (sa_Turns : PySem.W.findIn K (.ref C_Turns) "__setattr__" = some (some (.builtin "object.__setattr__")))
    (ca_Turns : PySem.W.findIn K (.ref C_Turns) "__class__" = some (some (.builtin "object.__class__")))
    (cn_Turns : PySem.W.specialIn K (.builtin "object.__class__") "__get__" = some (some (.builtin "getset_descriptor.__get__")))
    (ct_Turns : PySem.W.takesIn K (.builtin "object.__class__") = some true)
    (cm_Turns : PySem.W.mroIn K C_Turns (.type "object") = some true)
    (na_Turns_own_text : PySem.W.findIn K (.ref C_Turns) "own_text" = some none)
    (na_Turns_own_players : PySem.W.findIn K (.ref C_Turns) "own_players" = some none)
    (hc_LETTERS : PySem.W.nsIn K mainGlobals "LETTERS" = some (some (.str "ABCDEF" t_LETTERS)))
    (hc_MAX_TURNS_turns : PySem.W.nsIn K mainGlobals "MAX_TURNS_turns" = some (some (.int 2000 t_MAX_TURNS_turns)))
    (hc_FEWEST_PLAYERS : PySem.W.nsIn K mainGlobals "FEWEST_PLAYERS" = some (some (.int 2 t_FEWEST_PLAYERS)))
    (hz_isinstance : PySem.W.nsIn K mainGlobals "isinstance" = some none)
    (hz_int : PySem.W.nsIn K mainGlobals "int" = some none)
    (hz_bool : PySem.W.nsIn K mainGlobals "bool" = some none)
    (hz_str : PySem.W.nsIn K mainGlobals "str" = some none)
    (hz_len : PySem.W.nsIn K mainGlobals "len" = some none)
    (hz_any : PySem.W.nsIn K mainGlobals "any" = some none)
    (hz_max : PySem.W.nsIn K mainGlobals "max" = some none)
    (hz_min : PySem.W.nsIn K mainGlobals "min" = some none)
    (hz_range : PySem.W.nsIn K mainGlobals "range" = some none)
    (hz_enumerate : PySem.W.nsIn K mainGlobals "enumerate" = some none)
    (at_is_integer : PySem.W.nsIn K mainGlobals "is_integer" = some (some (.ref f_is_integer)))
    (lk_is_integer : K.lookup f_is_integer = some ⟨oc_is_integer, od_is_integer, .func (PySem.W.fnOf "is_integer" "is_integer" (defArgs s_is_integer) (defBody s_is_integer) (defScope s_is_integer) .none kV_is_integer dc_is_integer pm_is_integer an_is_integer cd_is_integer ct_is_integer), sl_is_integer⟩)
    (cd1_is_integer : PySem.W.codeIn K cd_is_integer "is_integer" = true)
    (kp_is_integer : PySem.W.keepIn K (.ref f_is_integer) = true)
    (at_in_range : PySem.W.nsIn K mainGlobals "in_range" = some (some (.ref f_in_range)))
    (lk_in_range : K.lookup f_in_range = some ⟨oc_in_range, od_in_range, .func (PySem.W.fnOf "in_range" "in_range" (defArgs s_in_range) (defBody s_in_range) (defScope s_in_range) .none kV_in_range dc_in_range pm_in_range an_in_range cd_in_range ct_in_range), sl_in_range⟩)
    (cd1_in_range : PySem.W.codeIn K cd_in_range "in_range" = true)
    (kp_in_range : PySem.W.keepIn K (.ref f_in_range) = true)
    (at_check_number : PySem.W.nsIn K mainGlobals "check_number" = some (some (.ref f_check_number)))
    (lk_check_number : K.lookup f_check_number = some ⟨oc_check_number, od_check_number, .func (PySem.W.fnOf "check_number" "check_number" (defArgs s_check_number) (defBody s_check_number) (defScope s_check_number) .none kV_check_number dc_check_number pm_check_number an_check_number cd_check_number ct_check_number), sl_check_number⟩)
    (cd1_check_number : PySem.W.codeIn K cd_check_number "check_number" = true)
    (kp_check_number : PySem.W.keepIn K (.ref f_check_number) = true)
    (at_check_length : PySem.W.nsIn K mainGlobals "check_length" = some (some (.ref f_check_length)))
    (lk_check_length : K.lookup f_check_length = some ⟨oc_check_length, od_check_length, .func (PySem.W.fnOf "check_length" "check_length" (defArgs s_check_length) (defBody s_check_length) (defScope s_check_length) .none kV_check_length dc_check_length pm_check_length an_check_length cd_check_length ct_check_length), sl_check_length⟩)
    (cd1_check_length : PySem.W.codeIn K cd_check_length "check_length" = true)
    (kp_check_length : PySem.W.keepIn K (.ref f_check_length) = true)
    (at_init_Turns : PySem.W.findIn K (.ref C_Turns) "__init__" = some (some (.ref f_init_Turns)))
    (fn_init_Turns : PySem.W.isFn K (.ref f_init_Turns) = true)
    (lk_init_Turns : K.lookup f_init_Turns = some ⟨oc_init_Turns, od_init_Turns, .func (PySem.W.fnOf "__init__" "Turns.__init__" (defArgs s_init_Turns) (defBody s_init_Turns) (defScope s_init_Turns) .none kV_init_Turns dc_init_Turns pm_init_Turns an_init_Turns cd_init_Turns ct_init_Turns), sl_init_Turns⟩)
    (cd1_init_Turns : PySem.W.codeIn K cd_init_Turns "Turns.__init__" = true)
    (kp_init_Turns : PySem.W.keepIn K (.ref f_init_Turns) = true)
    (mk_Turns : PySem.W.makesIn K C_Turns = true)
    (kpc_Turns : PySem.W.keepIn K (.ref C_Turns) = true)
    (at_eq_Turns : PySem.W.findIn K (.ref C_Turns) "__eq__" = some (some (.ref f_eq_Turns)))
    (fn_eq_Turns : PySem.W.isFn K (.ref f_eq_Turns) = true)
    (lk_eq_Turns : K.lookup f_eq_Turns = some ⟨oc_eq_Turns, od_eq_Turns, .func (PySem.W.fnOf "__eq__" "Turns.__eq__" (defArgs s_eq_Turns) (defBody s_eq_Turns) (defScope s_eq_Turns) .none kV_eq_Turns dc_eq_Turns pm_eq_Turns an_eq_Turns cd_eq_Turns ct_eq_Turns), sl_eq_Turns⟩)
    (cd1_eq_Turns : PySem.W.codeIn K cd_eq_Turns "Turns.__eq__" = true)
    (kp_eq_Turns : PySem.W.keepIn K (.ref f_eq_Turns) = true)
    (ne_Turns : PySem.W.findIn K (.ref C_Turns) "__ne__" = some (some (.builtin "object.__ne__")))
    (at_len_Turns : PySem.W.findIn K (.ref C_Turns) "__len__" = some (some (.ref f_len_Turns)))
    (fn_len_Turns : PySem.W.isFn K (.ref f_len_Turns) = true)
    (lk_len_Turns : K.lookup f_len_Turns = some ⟨oc_len_Turns, od_len_Turns, .func (PySem.W.fnOf "__len__" "Turns.__len__" (defArgs s_len_Turns) (defBody s_len_Turns) (defScope s_len_Turns) .none kV_len_Turns dc_len_Turns pm_len_Turns an_len_Turns cd_len_Turns ct_len_Turns), sl_len_Turns⟩)
    (cd1_len_Turns : PySem.W.codeIn K cd_len_Turns "Turns.__len__" = true)
    (kp_len_Turns : PySem.W.keepIn K (.ref f_len_Turns) = true)
    (at_get_Turns_text : PySem.W.findIn K (.ref C_Turns) "text" = some (some (.ref p_get_Turns_text)))
    (gt_get_Turns_text : PySem.W.specialIn K (.ref p_get_Turns_text) "__get__" = some (some (.builtin "property.__get__")))
    (tk_get_Turns_text : PySem.W.takesIn K (.ref p_get_Turns_text) = some true)
    (rc_get_Turns_text : PySem.W.recIn K p_get_Turns_text "property" = some (.ref f_get_Turns_text :: rest_get_Turns_text))
    (lk_get_Turns_text : K.lookup f_get_Turns_text = some ⟨oc_get_Turns_text, od_get_Turns_text, .func (PySem.W.fnOf "text" "Turns.text" (defArgs s_get_Turns_text) (defBody s_get_Turns_text) (defScope s_get_Turns_text) .none kV_get_Turns_text dc_get_Turns_text pm_get_Turns_text an_get_Turns_text cd_get_Turns_text ct_get_Turns_text), sl_get_Turns_text⟩)
    (cd1_get_Turns_text : PySem.W.codeIn K cd_get_Turns_text "Turns.text" = true)
    (kp_get_Turns_text : PySem.W.keepIn K (.ref f_get_Turns_text) = true)
    (at_get_Turns_players : PySem.W.findIn K (.ref C_Turns) "players" = some (some (.ref p_get_Turns_players)))
    (gt_get_Turns_players : PySem.W.specialIn K (.ref p_get_Turns_players) "__get__" = some (some (.builtin "property.__get__")))
    (tk_get_Turns_players : PySem.W.takesIn K (.ref p_get_Turns_players) = some true)
    (rc_get_Turns_players : PySem.W.recIn K p_get_Turns_players "property" = some (.ref f_get_Turns_players :: rest_get_Turns_players))
    (lk_get_Turns_players : K.lookup f_get_Turns_players = some ⟨oc_get_Turns_players, od_get_Turns_players, .func (PySem.W.fnOf "players" "Turns.players" (defArgs s_get_Turns_players) (defBody s_get_Turns_players) (defScope s_get_Turns_players) .none kV_get_Turns_players dc_get_Turns_players pm_get_Turns_players an_get_Turns_players cd_get_Turns_players ct_get_Turns_players), sl_get_Turns_players⟩)
    (cd1_get_Turns_players : PySem.W.codeIn K cd_get_Turns_players "Turns.players" = true)
    (kp_get_Turns_players : PySem.W.keepIn K (.ref f_get_Turns_players) = true)
    (at_check_turns : PySem.W.nsIn K mainGlobals "check_turns" = some (some (.ref f_check_turns)))
    (lk_check_turns : K.lookup f_check_turns = some ⟨oc_check_turns, od_check_turns, .func (PySem.W.fnOf "check_turns" "check_turns" (defArgs s_check_turns) (defBody s_check_turns) (defScope s_check_turns) .none kV_check_turns dc_check_turns pm_check_turns an_check_turns cd_check_turns ct_check_turns), sl_check_turns⟩)
    (cd1_check_turns : PySem.W.codeIn K cd_check_turns "check_turns" = true)
    (kp_check_turns : PySem.W.keepIn K (.ref f_check_turns) = true)
    (at_check_factors : PySem.W.nsIn K mainGlobals "check_factors" = some (some (.ref f_check_factors)))
    (lk_check_factors : K.lookup f_check_factors = some ⟨oc_check_factors, od_check_factors, .func (PySem.W.fnOf "check_factors" "check_factors" (defArgs s_check_factors) (defBody s_check_factors) (defScope s_check_factors) .none kV_check_factors dc_check_factors pm_check_factors an_check_factors cd_check_factors ct_check_factors), sl_check_factors⟩)
    (cd1_check_factors : PySem.W.codeIn K cd_check_factors "check_factors" = true)
    (kp_check_factors : PySem.W.keepIn K (.ref f_check_factors) = true)
    (at_raised : PySem.W.nsIn K mainGlobals "raised" = some (some (.ref f_raised)))
    (lk_raised : K.lookup f_raised = some ⟨oc_raised, od_raised, .func (PySem.W.fnOf "raised" "raised" (defArgs s_raised) (defBody s_raised) (defScope s_raised) .none kV_raised dc_raised pm_raised an_raised cd_raised ct_raised), sl_raised⟩)
    (cd1_raised : PySem.W.codeIn K cd_raised "raised" = true)
    (kp_raised : PySem.W.keepIn K (.ref f_raised) = true)
    (at_product_of_two : PySem.W.nsIn K mainGlobals "product_of_two" = some (some (.ref f_product_of_two)))
    (lk_product_of_two : K.lookup f_product_of_two = some ⟨oc_product_of_two, od_product_of_two, .func (PySem.W.fnOf "product_of_two" "product_of_two" (defArgs s_product_of_two) (defBody s_product_of_two) (defScope s_product_of_two) .none kV_product_of_two dc_product_of_two pm_product_of_two an_product_of_two cd_product_of_two ct_product_of_two), sl_product_of_two⟩)
    (cd1_product_of_two : PySem.W.codeIn K cd_product_of_two "product_of_two" = true)
    (kp_product_of_two : PySem.W.keepIn K (.ref f_product_of_two) = true)
    (at_product : PySem.W.nsIn K mainGlobals "product" = some (some (.ref f_product)))
    (lk_product : K.lookup f_product = some ⟨oc_product, od_product, .func (PySem.W.fnOf "product" "product" (defArgs s_product) (defBody s_product) (defScope s_product) .none kV_product dc_product pm_product an_product cd_product ct_product), sl_product⟩)
    (cd1_product : PySem.W.codeIn K cd_product "product" = true)
    (kp_product : PySem.W.keepIn K (.ref f_product) = true)
    (at_power : PySem.W.nsIn K mainGlobals "power" = some (some (.ref f_power)))
    (lk_power : K.lookup f_power = some ⟨oc_power, od_power, .func (PySem.W.fnOf "power" "power" (defArgs s_power) (defBody s_power) (defScope s_power) .none kV_power dc_power pm_power an_power cd_power ct_power), sl_power⟩)
    (cd1_power : PySem.W.codeIn K cd_power "power" = true)
    (kp_power : PySem.W.keepIn K (.ref f_power) = true)
    (at__law_hand : PySem.W.nsIn K mainGlobals "_law_hand" = some (some (.ref f__law_hand)))
    (lk__law_hand : K.lookup f__law_hand = some ⟨oc__law_hand, od__law_hand, .func (PySem.W.fnOf "_law_hand" "_law_hand" (defArgs s__law_hand) (defBody s__law_hand) (defScope s__law_hand) .none kV__law_hand dc__law_hand pm__law_hand an__law_hand cd__law_hand ct__law_hand), sl__law_hand⟩)
    (cd1__law_hand : PySem.W.codeIn K cd__law_hand "_law_hand" = true)
    (kp__law_hand : PySem.W.keepIn K (.ref f__law_hand) = true)
    (at__law_draw : PySem.W.nsIn K mainGlobals "_law_draw" = some (some (.ref f__law_draw)))
    (lk__law_draw : K.lookup f__law_draw = some ⟨oc__law_draw, od__law_draw, .func (PySem.W.fnOf "_law_draw" "_law_draw" (defArgs s__law_draw) (defBody s__law_draw) (defScope s__law_draw) .none kV__law_draw dc__law_draw pm__law_draw an__law_draw cd__law_draw ct__law_draw), sl__law_draw⟩)
    (cd1__law_draw : PySem.W.codeIn K cd__law_draw "_law_draw" = true)
    (kp__law_draw : PySem.W.keepIn K (.ref f__law_draw) = true)
    (at__law_text : PySem.W.nsIn K mainGlobals "_law_text" = some (some (.ref f__law_text)))
    (lk__law_text : K.lookup f__law_text = some ⟨oc__law_text, od__law_text, .func (PySem.W.fnOf "_law_text" "_law_text" (defArgs s__law_text) (defBody s__law_text) (defScope s__law_text) .none kV__law_text dc__law_text pm__law_text an__law_text cd__law_text ct__law_text), sl__law_text⟩)
    (cd1__law_text : PySem.W.codeIn K cd__law_text "_law_text" = true)
    (kp__law_text : PySem.W.keepIn K (.ref f__law_text) = true)
    (at__law_product : PySem.W.nsIn K mainGlobals "_law_product" = some (some (.ref f__law_product)))
    (lk__law_product : K.lookup f__law_product = some ⟨oc__law_product, od__law_product, .func (PySem.W.fnOf "_law_product" "_law_product" (defArgs s__law_product) (defBody s__law_product) (defScope s__law_product) .none kV__law_product dc__law_product pm__law_product an__law_product cd__law_product ct__law_product), sl__law_product⟩)
    (cd1__law_product : PySem.W.codeIn K cd__law_product "_law_product" = true)
    (kp__law_product : PySem.W.keepIn K (.ref f__law_product) = true)
    (at_law : PySem.W.nsIn K mainGlobals "law" = some (some (.ref f_law)))
    (lk_law : K.lookup f_law = some ⟨oc_law, od_law, .func (PySem.W.fnOf "law" "law" (defArgs s_law) (defBody s_law) (defScope s_law) .none kV_law dc_law pm_law an_law cd_law ct_law), sl_law⟩)
    (cd1_law : PySem.W.codeIn K cd_law "law" = true)
    (kp_law : PySem.W.keepIn K (.ref f_law) = true) :
    ∃ fd : FuncData, (∀ (s : Shared) (v : Value), BindsTo s fd ⟨[v], []⟩ [("_law_script", v)]) ∧ ∀ base : Heap, K.In base → base.Ns mainGlobals mg → FnOk l.prog w K mg base (L2.CX l.prog w) 8 fa fd ["_law_script"] (lift K 1 pLaw) := by
  have e := hfa.symm.trans (PySem.W.mg_of X G at_law)
  cases e
  let T : Env K mg := {
    C_Turns := C_Turns,
    g_Turns := PySem.W.mg_of X G hg_Turns,
    cl_Turns := ⟨pg_Turns, hd_Turns, po_Turns, sa_Turns⟩,
    obj_Turns := ⟨⟨pg_Turns, hd_Turns, po_Turns, sa_Turns⟩, ca_Turns, cn_Turns, ct_Turns, cm_Turns⟩,
    tc := ⟨⟨pg_Turns, hd_Turns, po_Turns, sa_Turns⟩, na_Turns_own_text, na_Turns_own_players, ⟨⟨pg_Turns, hd_Turns, po_Turns, sa_Turns⟩, ca_Turns, cn_Turns, ct_Turns, cm_Turns⟩⟩,
    t_LETTERS := t_LETTERS,
    c_LETTERS := PySem.W.mg_of X G hc_LETTERS,
    t_MAX_TURNS_turns := t_MAX_TURNS_turns,
    c_MAX_TURNS_turns := PySem.W.mg_of X G hc_MAX_TURNS_turns,
    t_FEWEST_PLAYERS := t_FEWEST_PLAYERS,
    c_FEWEST_PLAYERS := PySem.W.mg_of X G hc_FEWEST_PLAYERS,
    z_isinstance := PySem.W.mg_none_of X G hz_isinstance,
    z_int := PySem.W.mg_none_of X G hz_int,
    z_bool := PySem.W.mg_none_of X G hz_bool,
    z_str := PySem.W.mg_none_of X G hz_str,
    z_len := PySem.W.mg_none_of X G hz_len,
    z_any := PySem.W.mg_none_of X G hz_any,
    z_max := PySem.W.mg_none_of X G hz_max,
    z_min := PySem.W.mg_none_of X G hz_min,
    z_range := PySem.W.mg_none_of X G hz_range,
    z_enumerate := PySem.W.mg_none_of X G hz_enumerate,
    a_is_integer := f_is_integer,
    d_is_integer := PySem.W.fnOf "is_integer" "is_integer" (defArgs s_is_integer) (defBody s_is_integer) (defScope s_is_integer) .none kV_is_integer dc_is_integer pm_is_integer an_is_integer cd_is_integer ct_is_integer,
    F_is_integer := fun_mk (st := s_is_integer) lk_is_integer cd1_is_integer kp_is_integer,
    b_is_integer := (fun_mk (st := s_is_integer) lk_is_integer cd1_is_integer kp_is_integer).binds (ps := ["value"]) fun _ _ _ _ _ _ us hl => match us, hl with | [_], _ => rfl,
    g_is_integer := PySem.W.mg_of X G at_is_integer,
    k_is_integer := kp_is_integer,
    a_in_range := f_in_range,
    d_in_range := PySem.W.fnOf "in_range" "in_range" (defArgs s_in_range) (defBody s_in_range) (defScope s_in_range) .none kV_in_range dc_in_range pm_in_range an_in_range cd_in_range ct_in_range,
    F_in_range := fun_mk (st := s_in_range) lk_in_range cd1_in_range kp_in_range,
    b_in_range := (fun_mk (st := s_in_range) lk_in_range cd1_in_range kp_in_range).binds (ps := ["value", "least", "most"]) fun _ _ _ _ _ _ us hl => match us, hl with | [_, _, _], _ => rfl,
    g_in_range := PySem.W.mg_of X G at_in_range,
    k_in_range := kp_in_range,
    a_check_number := f_check_number,
    d_check_number := PySem.W.fnOf "check_number" "check_number" (defArgs s_check_number) (defBody s_check_number) (defScope s_check_number) .none kV_check_number dc_check_number pm_check_number an_check_number cd_check_number ct_check_number,
    F_check_number := fun_mk (st := s_check_number) lk_check_number cd1_check_number kp_check_number,
    b_check_number := (fun_mk (st := s_check_number) lk_check_number cd1_check_number kp_check_number).binds (ps := ["value", "least", "most"]) fun _ _ _ _ _ _ us hl => match us, hl with | [_, _, _], _ => rfl,
    g_check_number := PySem.W.mg_of X G at_check_number,
    k_check_number := kp_check_number,
    a_check_length := f_check_length,
    d_check_length := PySem.W.fnOf "check_length" "check_length" (defArgs s_check_length) (defBody s_check_length) (defScope s_check_length) .none kV_check_length dc_check_length pm_check_length an_check_length cd_check_length ct_check_length,
    F_check_length := fun_mk (st := s_check_length) lk_check_length cd1_check_length kp_check_length,
    b_check_length := (fun_mk (st := s_check_length) lk_check_length cd1_check_length kp_check_length).binds (ps := ["length"]) fun _ _ _ _ _ _ us hl => match us, hl with | [_], _ => rfl,
    g_check_length := PySem.W.mg_of X G at_check_length,
    k_check_length := kp_check_length,
    a_init_Turns := f_init_Turns,
    d_init_Turns := PySem.W.fnOf "__init__" "Turns.__init__" (defArgs s_init_Turns) (defBody s_init_Turns) (defScope s_init_Turns) .none kV_init_Turns dc_init_Turns pm_init_Turns an_init_Turns cd_init_Turns ct_init_Turns,
    F_init_Turns := fun_mk (st := s_init_Turns) lk_init_Turns cd1_init_Turns kp_init_Turns,
    b_init_Turns := (fun_mk (st := s_init_Turns) lk_init_Turns cd1_init_Turns kp_init_Turns).binds (ps := ["self", "text", "players"]) fun _ _ _ _ _ _ us hl => match us, hl with | [_, _, _], _ => rfl,
    mk_Turns := ⟨mk_Turns, at_init_Turns, fn_init_Turns, kpc_Turns⟩,
    a_eq_Turns := f_eq_Turns,
    d_eq_Turns := PySem.W.fnOf "__eq__" "Turns.__eq__" (defArgs s_eq_Turns) (defBody s_eq_Turns) (defScope s_eq_Turns) .none kV_eq_Turns dc_eq_Turns pm_eq_Turns an_eq_Turns cd_eq_Turns ct_eq_Turns,
    F_eq_Turns := fun_mk (st := s_eq_Turns) lk_eq_Turns cd1_eq_Turns kp_eq_Turns,
    b_eq_Turns := (fun_mk (st := s_eq_Turns) lk_eq_Turns cd1_eq_Turns kp_eq_Turns).binds (ps := ["self", "other"]) fun _ _ _ _ _ _ us hl => match us, hl with | [_, _], _ => rfl,
    eq_Turns := at_eq_Turns,
    fneq_Turns := fn_eq_Turns,
    ne_Turns := ne_Turns,
    a_len_Turns := f_len_Turns,
    d_len_Turns := PySem.W.fnOf "__len__" "Turns.__len__" (defArgs s_len_Turns) (defBody s_len_Turns) (defScope s_len_Turns) .none kV_len_Turns dc_len_Turns pm_len_Turns an_len_Turns cd_len_Turns ct_len_Turns,
    F_len_Turns := fun_mk (st := s_len_Turns) lk_len_Turns cd1_len_Turns kp_len_Turns,
    b_len_Turns := (fun_mk (st := s_len_Turns) lk_len_Turns cd1_len_Turns kp_len_Turns).binds (ps := ["self"]) fun _ _ _ _ _ _ us hl => match us, hl with | [_], _ => rfl,
    len_Turns := at_len_Turns,
    fnlen_Turns := fn_len_Turns,
    a_get_Turns_text := f_get_Turns_text,
    d_get_Turns_text := PySem.W.fnOf "text" "Turns.text" (defArgs s_get_Turns_text) (defBody s_get_Turns_text) (defScope s_get_Turns_text) .none kV_get_Turns_text dc_get_Turns_text pm_get_Turns_text an_get_Turns_text cd_get_Turns_text ct_get_Turns_text,
    F_get_Turns_text := fun_mk (st := s_get_Turns_text) lk_get_Turns_text cd1_get_Turns_text kp_get_Turns_text,
    b_Turns_text := (fun_mk (st := s_get_Turns_text) lk_get_Turns_text cd1_get_Turns_text kp_get_Turns_text).binds (ps := ["self"]) fun _ _ _ _ _ _ us hl => match us, hl with | [_], _ => rfl,
    pp_get_Turns_text := p_get_Turns_text,
    p_Turns_text := ⟨at_get_Turns_text, gt_get_Turns_text, tk_get_Turns_text, ⟨_, rc_get_Turns_text⟩⟩,
    a_get_Turns_players := f_get_Turns_players,
    d_get_Turns_players := PySem.W.fnOf "players" "Turns.players" (defArgs s_get_Turns_players) (defBody s_get_Turns_players) (defScope s_get_Turns_players) .none kV_get_Turns_players dc_get_Turns_players pm_get_Turns_players an_get_Turns_players cd_get_Turns_players ct_get_Turns_players,
    F_get_Turns_players := fun_mk (st := s_get_Turns_players) lk_get_Turns_players cd1_get_Turns_players kp_get_Turns_players,
    b_Turns_players := (fun_mk (st := s_get_Turns_players) lk_get_Turns_players cd1_get_Turns_players kp_get_Turns_players).binds (ps := ["self"]) fun _ _ _ _ _ _ us hl => match us, hl with | [_], _ => rfl,
    pp_get_Turns_players := p_get_Turns_players,
    p_Turns_players := ⟨at_get_Turns_players, gt_get_Turns_players, tk_get_Turns_players, ⟨_, rc_get_Turns_players⟩⟩,
    a_check_turns := f_check_turns,
    d_check_turns := PySem.W.fnOf "check_turns" "check_turns" (defArgs s_check_turns) (defBody s_check_turns) (defScope s_check_turns) .none kV_check_turns dc_check_turns pm_check_turns an_check_turns cd_check_turns ct_check_turns,
    F_check_turns := fun_mk (st := s_check_turns) lk_check_turns cd1_check_turns kp_check_turns,
    b_check_turns := (fun_mk (st := s_check_turns) lk_check_turns cd1_check_turns kp_check_turns).binds (ps := ["value"]) fun _ _ _ _ _ _ us hl => match us, hl with | [_], _ => rfl,
    g_check_turns := PySem.W.mg_of X G at_check_turns,
    k_check_turns := kp_check_turns,
    a_check_factors := f_check_factors,
    d_check_factors := PySem.W.fnOf "check_factors" "check_factors" (defArgs s_check_factors) (defBody s_check_factors) (defScope s_check_factors) .none kV_check_factors dc_check_factors pm_check_factors an_check_factors cd_check_factors ct_check_factors,
    F_check_factors := fun_mk (st := s_check_factors) lk_check_factors cd1_check_factors kp_check_factors,
    b_check_factors := (fun_mk (st := s_check_factors) lk_check_factors cd1_check_factors kp_check_factors).binds (ps := ["factors"]) fun _ _ _ _ _ _ us hl => match us, hl with | [_], _ => rfl,
    g_check_factors := PySem.W.mg_of X G at_check_factors,
    k_check_factors := kp_check_factors,
    a_raised := f_raised,
    d_raised := PySem.W.fnOf "raised" "raised" (defArgs s_raised) (defBody s_raised) (defScope s_raised) .none kV_raised dc_raised pm_raised an_raised cd_raised ct_raised,
    F_raised := fun_mk (st := s_raised) lk_raised cd1_raised kp_raised,
    b_raised := (fun_mk (st := s_raised) lk_raised cd1_raised kp_raised).binds (ps := ["text", "player", "players"]) fun _ _ _ _ _ _ us hl => match us, hl with | [_, _, _], _ => rfl,
    g_raised := PySem.W.mg_of X G at_raised,
    k_raised := kp_raised,
    a_product_of_two := f_product_of_two,
    d_product_of_two := PySem.W.fnOf "product_of_two" "product_of_two" (defArgs s_product_of_two) (defBody s_product_of_two) (defScope s_product_of_two) .none kV_product_of_two dc_product_of_two pm_product_of_two an_product_of_two cd_product_of_two ct_product_of_two,
    F_product_of_two := fun_mk (st := s_product_of_two) lk_product_of_two cd1_product_of_two kp_product_of_two,
    b_product_of_two := (fun_mk (st := s_product_of_two) lk_product_of_two cd1_product_of_two kp_product_of_two).binds (ps := ["one", "other"]) fun _ _ _ _ _ _ us hl => match us, hl with | [_, _], _ => rfl,
    g_product_of_two := PySem.W.mg_of X G at_product_of_two,
    k_product_of_two := kp_product_of_two,
    a_product := f_product,
    d_product := PySem.W.fnOf "product" "product" (defArgs s_product) (defBody s_product) (defScope s_product) .none kV_product dc_product pm_product an_product cd_product ct_product,
    F_product := fun_mk (st := s_product) lk_product cd1_product kp_product,
    bs_product := fun us rest hl => match us, hl with | [], _ => (match rest with | [] => rfl | _ :: _ => rfl),
    g_product := PySem.W.mg_of X G at_product,
    k_product := kp_product,
    a_power := f_power,
    d_power := PySem.W.fnOf "power" "power" (defArgs s_power) (defBody s_power) (defScope s_power) .none kV_power dc_power pm_power an_power cd_power ct_power,
    F_power := fun_mk (st := s_power) lk_power cd1_power kp_power,
    b_power := (fun_mk (st := s_power) lk_power cd1_power kp_power).binds (ps := ["turns", "exponent"]) fun _ _ _ _ _ _ us hl => match us, hl with | [_, _], _ => rfl,
    g_power := PySem.W.mg_of X G at_power,
    k_power := kp_power,
    a__law_hand := f__law_hand,
    d__law_hand := PySem.W.fnOf "_law_hand" "_law_hand" (defArgs s__law_hand) (defBody s__law_hand) (defScope s__law_hand) .none kV__law_hand dc__law_hand pm__law_hand an__law_hand cd__law_hand ct__law_hand,
    F__law_hand := fun_mk (st := s__law_hand) lk__law_hand cd1__law_hand kp__law_hand,
    b__law_hand := (fun_mk (st := s__law_hand) lk__law_hand cd1__law_hand kp__law_hand).binds (ps := ["_law_script", "_law_k"]) fun _ _ _ _ _ _ us hl => match us, hl with | [_, _], _ => rfl,
    g__law_hand := PySem.W.mg_of X G at__law_hand,
    k__law_hand := kp__law_hand,
    a__law_draw := f__law_draw,
    d__law_draw := PySem.W.fnOf "_law_draw" "_law_draw" (defArgs s__law_draw) (defBody s__law_draw) (defScope s__law_draw) .none kV__law_draw dc__law_draw pm__law_draw an__law_draw cd__law_draw ct__law_draw,
    F__law_draw := fun_mk (st := s__law_draw) lk__law_draw cd1__law_draw kp__law_draw,
    b__law_draw := (fun_mk (st := s__law_draw) lk__law_draw cd1__law_draw kp__law_draw).binds (ps := ["_law_pool", "_law_size"]) fun _ _ _ _ _ _ us hl => match us, hl with | [_, _], _ => rfl,
    g__law_draw := PySem.W.mg_of X G at__law_draw,
    k__law_draw := kp__law_draw,
    a__law_text := f__law_text,
    d__law_text := PySem.W.fnOf "_law_text" "_law_text" (defArgs s__law_text) (defBody s__law_text) (defScope s__law_text) .none kV__law_text dc__law_text pm__law_text an__law_text cd__law_text ct__law_text,
    F__law_text := fun_mk (st := s__law_text) lk__law_text cd1__law_text kp__law_text,
    b__law_text := (fun_mk (st := s__law_text) lk__law_text cd1__law_text kp__law_text).binds (ps := ["_law_pool", "_law_players", "_law_most"]) fun _ _ _ _ _ _ us hl => match us, hl with | [_, _, _], _ => rfl,
    g__law_text := PySem.W.mg_of X G at__law_text,
    k__law_text := kp__law_text,
    a__law_product := f__law_product,
    d__law_product := PySem.W.fnOf "_law_product" "_law_product" (defArgs s__law_product) (defBody s__law_product) (defScope s__law_product) .none kV__law_product dc__law_product pm__law_product an__law_product cd__law_product ct__law_product,
    F__law_product := fun_mk (st := s__law_product) lk__law_product cd1__law_product kp__law_product,
    b__law_product := (fun_mk (st := s__law_product) lk__law_product cd1__law_product kp__law_product).binds (ps := ["_law_one", "_law_other", "_law_players"]) fun _ _ _ _ _ _ us hl => match us, hl with | [_, _, _], _ => rfl,
    g__law_product := PySem.W.mg_of X G at__law_product,
    k__law_product := kp__law_product,
    a_law := fa,
    d_law := PySem.W.fnOf "law" "law" (defArgs s_law) (defBody s_law) (defScope s_law) .none kV_law dc_law pm_law an_law cd_law ct_law,
    F_law := fun_mk (st := s_law) lk_law cd1_law kp_law,
    b_law := (fun_mk (st := s_law) lk_law cd1_law kp_law).binds (ps := ["_law_script"]) fun _ _ _ _ _ _ us hl => match us, hl with | [_], _ => rfl,
    g_law := PySem.W.mg_of X G at_law,
    k_law := kp_law }
  exact ⟨T.d_law, fun s v => .of_eq rfl, fun base _ _ => ok_law T⟩
theorem walk {l : PySem.W.OpenLaw} {q : Program} {loose : List Str} {XP : (Str → Option Value) → Heap → Prop} {YP : World → Heap → Prop} {d : DefRec} {K : Params → PySem.W.Frag} (hn : l.most = some 63) (hdf : d.params.defaults = [])
    (hY : ∀ (w : World) (h : Heap), YP w h → (K w.params).In h)
    (F : ∀ (w : World) (mg : Str → Option Value) (fa : Addr) (h : Heap), (K w.params).In h → h.Ns mainGlobals mg → mg d.name = some (.ref fa) →
      ∃ fd : FuncData, (∀ (s : Shared) (u : Value), BindsTo s fd ⟨[u], []⟩ [("_law_script", u)]) ∧ ∀ base : Heap, (K w.params).In base → base.Ns mainGlobals mg → FnOk l.prog w (K w.params) mg base (L2.CX l.prog w) 8 fa fd ["_law_script"] (lift (K w.params) 1 pLaw)) :
    PySem.W.WalkO q loose XP YP l.row.toRowW d [] (fun f vs => PySem.call f vs) :=
  L2.walk_of (n := 63) (k := 8) (x := "_law_script") (CX := fun w => L2.CX l.prog w) (sp := fun w => lift (K w.params) 1 pLaw) hn (by decide) hdf ⟨rfl, by decide, by decide⟩ hY F (fun w H a ns hl _ hS => law_start hl hS) fun w H s e s' z => cx_none z
end DL
open PySem PySem.W PyProof.Rows
set_option maxRecDepth 100000 in
set_option maxHeartbeats 0 in
theorem PySem.Challenge.cw_turnbalance_k14_products_holds : PySem.Challenge.rw_turnbalance_k14_products.Holds := by
  w_on; o_law; k_head; (case hw => w_witness2)
  k_fill
  refine DL.walk (l := PySem.Challenge.rw_turnbalance_k14_products) rfl rfl (fun w h Y => PySem.W.kIn_of Y) ?F
  case F =>
    intro w mg fa h KX G hmg
    refine' DL.all_mk KX G hmg ?hg_Turns ?pg_Turns ?hd_Turns ?po_Turns ?sa_Turns ?ca_Turns ?cn_Turns ?ct_Turns ?cm_Turns ?na_Turns_own_text ?na_Turns_own_players ?hc_LETTERS ?hc_MAX_TURNS_turns ?hc_FEWEST_PLAYERS ?hz_isinstance ?hz_int ?hz_bool ?hz_str ?hz_len ?hz_any ?hz_max ?hz_min ?hz_range ?hz_enumerate ?at_is_integer ?lk_is_integer ?cd1_is_integer ?kp_is_integer ?at_in_range ?lk_in_range ?cd1_in_range ?kp_in_range ?at_check_number ?lk_check_number ?cd1_check_number ?kp_check_number ?at_check_length ?lk_check_length ?cd1_check_length ?kp_check_length ?at_init_Turns ?fn_init_Turns ?lk_init_Turns ?cd1_init_Turns ?kp_init_Turns ?mk_Turns ?kpc_Turns ?at_eq_Turns ?fn_eq_Turns ?lk_eq_Turns ?cd1_eq_Turns ?kp_eq_Turns ?ne_Turns ?at_len_Turns ?fn_len_Turns ?lk_len_Turns ?cd1_len_Turns ?kp_len_Turns ?at_get_Turns_text ?gt_get_Turns_text ?tk_get_Turns_text ?rc_get_Turns_text ?lk_get_Turns_text ?cd1_get_Turns_text ?kp_get_Turns_text ?at_get_Turns_players ?gt_get_Turns_players ?tk_get_Turns_players ?rc_get_Turns_players ?lk_get_Turns_players ?cd1_get_Turns_players ?kp_get_Turns_players ?at_check_turns ?lk_check_turns ?cd1_check_turns ?kp_check_turns ?at_check_factors ?lk_check_factors ?cd1_check_factors ?kp_check_factors ?at_raised ?lk_raised ?cd1_raised ?kp_raised ?at_product_of_two ?lk_product_of_two ?cd1_product_of_two ?kp_product_of_two ?at_product ?lk_product ?cd1_product ?kp_product ?at_power ?lk_power ?cd1_power ?kp_power ?at__law_hand ?lk__law_hand ?cd1__law_hand ?kp__law_hand ?at__law_draw ?lk__law_draw ?cd1__law_draw ?kp__law_draw ?at__law_text ?lk__law_text ?cd1__law_text ?kp__law_text ?at__law_product ?lk__law_product ?cd1__law_product ?kp__law_product ?at_law ?lk_law ?cd1_law ?kp_law
    (case hg_Turns => k_is)
    (case pg_Turns => k_is)
    (case hd_Turns => k_is)
    (case po_Turns => k_is)
    (case sa_Turns => k_is)
    (case ca_Turns => k_is)
    (case cn_Turns => k_is)
    (case ct_Turns => k_is)
    (case cm_Turns => k_is)
    (case na_Turns_own_text => k_is)
    (case na_Turns_own_players => k_is)
    (case hc_LETTERS => k_is)
    (case hc_MAX_TURNS_turns => k_is)
    (case hc_FEWEST_PLAYERS => k_is)
    (case hz_isinstance => k_is)
    (case hz_int => k_is)
    (case hz_bool => k_is)
    (case hz_str => k_is)
    (case hz_len => k_is)
    (case hz_any => k_is)
    (case hz_max => k_is)
    (case hz_min => k_is)
    (case hz_range => k_is)
    (case hz_enumerate => k_is)
    (case at_is_integer => k_is)
    (case lk_is_integer => k_is)
    (case cd1_is_integer => k_is)
    (case kp_is_integer => k_is)
    (case at_in_range => k_is)
    (case lk_in_range => k_is)
    (case cd1_in_range => k_is)
    (case kp_in_range => k_is)
    (case at_check_number => k_is)
    (case lk_check_number => k_is)
    (case cd1_check_number => k_is)
    (case kp_check_number => k_is)
    (case at_check_length => k_is)
    (case lk_check_length => k_is)
    (case cd1_check_length => k_is)
    (case kp_check_length => k_is)
    (case at_init_Turns => k_is)
    (case fn_init_Turns => k_is)
    (case lk_init_Turns => k_is)
    (case cd1_init_Turns => k_is)
    (case kp_init_Turns => k_is)
    (case mk_Turns => k_is)
    (case kpc_Turns => k_is)
    (case at_eq_Turns => k_is)
    (case fn_eq_Turns => k_is)
    (case lk_eq_Turns => k_is)
    (case cd1_eq_Turns => k_is)
    (case kp_eq_Turns => k_is)
    (case ne_Turns => k_is)
    (case at_len_Turns => k_is)
    (case fn_len_Turns => k_is)
    (case lk_len_Turns => k_is)
    (case cd1_len_Turns => k_is)
    (case kp_len_Turns => k_is)
    (case at_get_Turns_text => k_is)
    (case gt_get_Turns_text => k_is)
    (case tk_get_Turns_text => k_is)
    (case rc_get_Turns_text => k_is)
    (case lk_get_Turns_text => k_is)
    (case cd1_get_Turns_text => k_is)
    (case kp_get_Turns_text => k_is)
    (case at_get_Turns_players => k_is)
    (case gt_get_Turns_players => k_is)
    (case tk_get_Turns_players => k_is)
    (case rc_get_Turns_players => k_is)
    (case lk_get_Turns_players => k_is)
    (case cd1_get_Turns_players => k_is)
    (case kp_get_Turns_players => k_is)
    (case at_check_turns => k_is)
    (case lk_check_turns => k_is)
    (case cd1_check_turns => k_is)
    (case kp_check_turns => k_is)
    (case at_check_factors => k_is)
    (case lk_check_factors => k_is)
    (case cd1_check_factors => k_is)
    (case kp_check_factors => k_is)
    (case at_raised => k_is)
    (case lk_raised => k_is)
    (case cd1_raised => k_is)
    (case kp_raised => k_is)
    (case at_product_of_two => k_is)
    (case lk_product_of_two => k_is)
    (case cd1_product_of_two => k_is)
    (case kp_product_of_two => k_is)
    (case at_product => k_is)
    (case lk_product => k_is)
    (case cd1_product => k_is)
    (case kp_product => k_is)
    (case at_power => k_is)
    (case lk_power => k_is)
    (case cd1_power => k_is)
    (case kp_power => k_is)
    (case at__law_hand => k_is)
    (case lk__law_hand => k_is)
    (case cd1__law_hand => k_is)
    (case kp__law_hand => k_is)
    (case at__law_draw => k_is)
    (case lk__law_draw => k_is)
    (case cd1__law_draw => k_is)
    (case kp__law_draw => k_is)
    (case at__law_text => k_is)
    (case lk__law_text => k_is)
    (case cd1__law_text => k_is)
    (case kp__law_text => k_is)
    (case at__law_product => k_is)
    (case lk__law_product => k_is)
    (case cd1__law_product => k_is)
    (case kp__law_product => k_is)
    (case at_law => k_is)
    (case lk_law => k_is)
    (case cd1_law => k_is)
    (case kp_law => k_is)
