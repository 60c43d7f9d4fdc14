import PyProof.Rows.All
import Wide.All
import OpenK.AllK
import Wide.FinOn
import HandS.CallSlots
import HandS.Conv
import HandS.Deep
import HandS.Dict
import HandS.EndTab
import HandS.Ends
import HandS.ExcIs
import HandS.ExcOwn
import HandS.ExcSuper
import HandS.Flow
import HandS.ForExc
import HandS.ForMost
import HandS.IsInst
import HandS.Iter
import HandS.Lambda
import HandS.List
import HandS.SetFor
import HandS.Sort
import HandS.Strs
import HandS.Style
import HandS.TryMany
import HandS.TupAny
import HandS.TupMul
import HandS.TupSets
import HandS.Walk
import HandS.Wide
import HandS.Zip
import KE.DataCmp
import KE.DataEq
import KE.DataMinMax
import KE.GoesMore
import KE.KDictDisplayH
import KE.KDictList
import KE.KExcInit
import KE.KIndexOf
import KE.KRevSl
import KE.KSlice
import KE.KSuper
import KE.KeyNested
import KE.OsGo
import KE.SortKeyHeap
import PyProof.AutoSeq1
import PyProof.DictRoadsH
import PyProof.EnumMake
import PyProof.InstStoreFacts
import PyProof.SumAnyB
import PySem.Challenge.RW_starsinaring_k74_moved_lines_refused
section
set_option Elab.async false
set_option linter.all false
set_option maxRecDepth 100000
set_option maxHeartbeats 4000000
/-! SetT: set(..) of a tuple of tuples of whole numbers. -/
namespace Mv
open PySem PySem.Spec PyProof.Rows L2
section
variable {P : Program} {w : World} {A : Around} {E : Value → Shared → Prop} {s : Shared}
set_option maxRecDepth 100000 in
set_option maxHeartbeats 3200000 in
theorem call_set_tupsT {l : Addr} {items : Array Value} (ks : List (Addr × List Int)) {Q : Value → Shared → Prop} (hh : A.handled = none) (hl : s.heap.IsTuple l items) (hit : items.toList = ks.map fun p => Value.ref p.1)
    (hk : ∀ p ∈ ks, IsT P w s.heap p.2 p.1) (hfew : ks.length < 64) (hu : A.units + 3 < cLine)
    (h : ∀ (h' : Heap) (tk : Nat) L es ep t, SetTR P w h' s.heap.objs.size L es ep t → Got ks ks.length L → (∀ b o, s.heap.get? b = some o → h'.get? b = some o) → Q (.ref s.heap.objs.size) { s with heap := h', toks := tk }) :
    wpAny (model P w) A (call (.type "set") [.ref l]) Q E s := by
  have hisz : items.size = ks.length := by
    have q := congrArg List.length hit
    rw [Array.length_toList, List.length_map] at q
    exact q
  obtain ⟨c, tl, hmro⟩ := PySem.F.called_set.mro
  have hmade := PySem.F.called_set.made
  have hsub := PySem.F.called_set.sub
  refine wpAny_call (codeAny_of_tree ?_)
  show wpAny _ _ (callAny (.type "set") _) _ _ _
  refine wpAny_pure ⟨Code.quiet_builtin _ (by decide +kernel), codeAny_builtin PySem.F.entry_type_call ?_⟩
  rw [Around.under_plain (weight_type_call_type "set" [.ref l] []) rfl]
  have h1 := PySem.F.called_set.notType
  have h2 := PySem.F.called_set.canCreate
  have hct := PySem.F.typeCall_set_1 (.ref l)
  repeat (any_goals (first | assumption | wp_step))

  refine codeAny_mono (code_set_led1 (.ref l) (E := E) (Q₁ := fun obj s₁ => obj = .ref s.heap.objs.size ∧ s₁ = { s with heap := s.heap.push { cls := .type "set", dict := none, data := .set #[] 0 (.fresh 0 0 (!w.params.followText "set-order")) } }) ⟨rfl, rfl⟩) fun r s₁ hr => ?_
  cases r with
  | error e => exact hr
  | ok fl =>
    cases fl with
    | ret obj =>
      obtain ⟨rfl, rfl⟩ := hr
      have hS : (s.heap.push { cls := .type "set", dict := none, data := .set #[] 0 (.fresh 0 0 (!w.params.followText "set-order")) }).get? s.heap.objs.size = some { cls := .type "set", dict := none, data := .set #[] 0 (.fresh 0 0 (!w.params.followText "set-order")) } := Heap.get?_push_size _ rfl
      have hT : Shared.TypeIs { s with heap := s.heap.push { cls := .type "set", dict := none, data := .set #[] 0 (.fresh 0 0 (!w.params.followText "set-order")) } } (.ref s.heap.objs.size) "set" := ⟨_, hS, rfl⟩
      have hli := PySem.F.called_set.init.lookup
      have hbi := PySem.F.called_set.init.bind (.ref s.heap.objs.size)
      repeat (any_goals (first | assumption | wp_step))

      refine codeAny_mono (codeAny_call_builtin (R := wants (fun r s₂ => r = .none ∧ ∃ h' tk L es ep t, s₂ = { s with heap := h', toks := tk } ∧ SetTR P w h' s.heap.objs.size L es ep t ∧ Got ks ks.length L ∧
          (∀ b o, s.heap.get? b = some o → h'.get? b = some o)) E) PySem.F.called_set.init.plain PySem.F.entry_set_init (check_set_init_1 hT ?_)) fun r₂ s₂ hr₂ => ?_
      · obtain ⟨ol, hol, hcl, nl, hdl⟩ := hl
        obtain ⟨ocls, odict, odata, oslots⟩ := ol
        simp only at hcl hdl
        subst hcl; subst hdl
        have hol' : (s.heap.push { cls := .type "set", dict := none, data := .set #[] 0 (.fresh 0 0 (!w.params.followText "set-order")) }).get? l = some { cls := .type "tuple", dict := odict, data := .seq items nl, slots := oslots } := Heap.get?_push_of_some _ hol
        have hsls := PySem.F.sub_tuple_set
        have hslf := PySem.F.sub_tuple_frozenset
        have hne : (Value.type "tuple" == Value.type "dict") = false := by decide
        have hl1 : (s.heap.push { cls := .type "set", dict := none, data := .set #[] 0 (.fresh 0 0 (!w.params.followText "set-order")) }).IsTuple l items := ⟨_, hol', rfl, nl, rfl⟩
        unfold Builtin.«set.__init__» noKeywords Builtin.Frozenset.updateFrom
        generalize hPI : pyIter = PI
        wp_walk
        subst hPI

        refine wpAny_pyIter_tuple hl1 ?_
        refine wpAny_bind (wpAny_runValue ?_)
        have hlS : l < s.heap.objs.size := Heap.lt_size hol
        have hh3 : A.in1.in1.in1.handled = none := by simp [hh]
        have hz1 : (s.heap.push { cls := .type "set", dict := none, data := .set #[] 0 (.fresh 0 0 (!w.params.followText "set-order")) }).objs.size = s.heap.objs.size + 1 := Heap.size_push ..
        have hneI : l ≠ (s.heap.push { cls := .type "set", dict := none, data := .set #[] 0 (.fresh 0 0 (!w.params.followText "set-order")) }).objs.size := by
          rw [Heap.size_push]; exact Nat.ne_of_lt (Nat.lt_succ_of_lt hlS)
        have hSf : s.heap.objs.size ∉ [(s.heap.push { cls := .type "set", dict := none, data := .set #[] 0 (.fresh 0 0 (!w.params.followText "set-order")) }).objs.size, l] := by
          rw [Heap.size_push]; simp only [List.mem_cons, List.mem_singleton, List.not_mem_nil, or_false, not_or]
          exact ⟨Nat.ne_of_lt (Nat.lt_succ_self _), Nat.ne_of_gt hlS⟩
        have hval : ∀ (i : Nat) (v : Value), items[i]? = some v → ∃ p, ks[i]? = some p ∧ v = .ref p.1 := fun i v hv => by
          have q : items.toList[i]? = some v := by rw [Array.getElem?_toList]; exact hv
          rw [hit, List.getElem?_map] at q
          cases hq : ks[i]? with
          | none => rw [hq] at q; cases q
          | some p =>
            rw [hq] at q
            exact ⟨p, rfl, (Option.some.inj q).symm⟩
        have none_of : ∀ b, s.heap.objs.size ≤ b → s.heap.get? b = none := fun b hb => by
          cases q : s.heap.get? b with
          | none => rfl
          | some o => exact absurd (Nat.lt_of_lt_of_le (Heap.lt_size q) hb) (Nat.lt_irrefl _)
        refine set_update_tups ((Walks.tuple hh3 _ l hneI items).toS) s.heap.objs.size
          hSf ks hisz hfew hval s.heap hk (none_of _ (Nat.le_refl _)) (fun b hb => none_of b (by
            rw [List.mem_singleton.mp hb, Heap.size_push]
            exact Nat.le_succ _)) hu (items.size - 0) 0 _ (by omega) (Nat.zero_le _)
          ⟨⟨_, Heap.get?_push_size _ rfl, rfl, rfl⟩, (hl1.push _)⟩ (fun b o e => Heap.get?_push_of_some _ (Heap.get?_push_of_some _ e)) ?hS0 ?hR
        case hS0 =>
          have hget : ((s.heap.push { cls := .type "set", dict := none, data := .set #[] 0 (.fresh 0 0 (!w.params.followText "set-order")) }).push { cls := .type "tuple_iterator", data := .fields #[.ref l, .int 0 0] }).get? s.heap.objs.size
              = some { cls := .type "set", dict := none, data := .set #[] 0 (.fresh 0 0 (!w.params.followText "set-order")) } := Heap.get?_push_of_some _ hS
          exact ⟨[], #[], 0, _, setTR_fresh hget, Got.zero ks⟩
        case hR =>
          intro s' L es ep t hm hS' g' hkp
          obtain ⟨h', g2, d', tk', os'⟩ := s'
          have eg : g2 = s.gens := hm.gens
          have ed : d' = s.drawn := hm.drawn
          have eo : os' = s.os := hm.os
          subst eg; subst ed; subst eo
          show wpAny _ _ _ _ _ _
          refine wpAny_pure ?_
          show wpAny _ _ (ret Value.none) _ _ _
          rw [hisz] at g'
          exact wpAny_pure ⟨rfl, h', tk', L, es, ep, t, rfl, hS', g', hkp⟩

      · cases r₂ with
        | error e => exact hr₂
        | ok fl₂ =>
          cases fl₂ with
          | ret r =>
            obtain ⟨rfl, h', tk, L, es, ep, t, rfl, hS', g', hk'⟩ := hr₂
            repeat (any_goals (first | assumption | wp_step))
            exact h _ _ _ _ _ _ hS' g' hk'
          | _ => exact hr₂.elim
    | _ => exact hr.elim

end
/-- set(xs), xs a list or tuple of tuples of whole numbers -/
def rSetOfU (K : PySem.W.Frag) (P : Program) (w : World) : List V → Hp → VK → Prop := fun xs H Q => ∃ (l : Addr) (ks : List (Addr × List Int)), xs = [V.ref l] ∧ (SqL K H l (ks.map fun p => V.ref p.1) ∨ SqT K H l (ks.map fun p => V.ref p.1)) ∧ (∀ p ∈ ks, SqT K H p.1 (p.2.map V.int)) ∧ ks.length < 64 ∧
  ∀ a L, H a = none → (∀ p ∈ L, p ∈ ks) → (∀ p ∈ ks, p.2 ∈ L.map (·.2)) → Q (.ref a) (upd H a (SetTO P w a L))
theorem cr_setOfU {X : Cx} (hc : X.calm = true) (hu : X.A.units + 64 < cLine) : CallR X (.type "set") (rSetOfU X.K X.prog X.w) := by
  intro pins s σ H xs us Q I r h
  obtain ⟨l, ks, rfl, hl, hk, hf, q⟩ := h
  rw [Vals.ref1 r]
  have hn : H s.heap.objs.size = none := I.hok.fresh (Nat.le_refl _)
  have fin : ∀ (h' : Heap) (tk : Nat) L es ep t, SetTR X.prog X.w h' s.heap.objs.size L es ep t → Got ks ks.length L → (∀ b o, s.heap.get? b = some o → h'.get? b = some o) → EP X pins σ Q (.ref s.heap.objs.size) { s with heap := h', toks := tk } := fun h' tk L es ep t R g k => by
    refine ⟨.ref s.heap.objs.size, upd H s.heap.objs.size (SetTO X.prog X.w s.heap.objs.size L), I.laid (t' := tk) k (Nat.le_refl _) (setTO_new R.t0), rfl, q _ L hn (fun p hp => ?_) fun p hp => ?_⟩
    · exact List.mem_of_mem_take (g.sub p hp)
    · exact g.all p (by rw [List.take_length]; exact hp)
  rcases hl with hl | hl
  · obtain ⟨its, rv, pl, hz⟩ := I.list hl
    exact call_set_tups (P := X.prog) (w := X.w) ks (I.ok.hd hc) pl.isList (by simpa using refs_of_vals rv) (fun p hp => I.isT (hk p hp)) hf (by omega) fin
  · obtain ⟨its, rv, pl, hz⟩ := I.tuple hl
    exact call_set_tupsT (P := X.prog) (w := X.w) ks (I.ok.hd hc) pl (by simpa using refs_of_vals rv) (fun p hp => I.isT (hk p hp)) hf (by omega) fin
end Mv
end

section
set_option Elab.async false
set_option linter.all false
set_option maxRecDepth 100000
set_option maxHeartbeats 4000000
/-! TupM: tuple * int, up to 10000 times. -/
namespace Mv
open PySem PySem.Spec PyProof.Rows L2
def rRepU (K : PySem.W.Frag) : R2 := fun x y H Q => ∃ l k xs, x = .ref l ∧ y = .int k ∧ SqT K H l xs ∧ xs ≠ [] ∧ 2 ≤ k ∧ k ≤ 10000 ∧ xs.length ≤ 1000 ∧ ∀ p, H p = none → Q (.ref p) (upd H p (.tup (List.replicate k.toNat xs).flatten))
section
variable {X : Cx}
theorem op_repU : OpR X (binaryOp .Mult) (rRepU X.K) := by
  intro pins s σ H x y v u Q I rx ry h
  obtain ⟨l, k, xs, rfl, rfl, hT, hne, h1, h2, hz, q⟩ := h
  cases rx
  obtain ⟨t, rfl⟩ := ry
  obtain ⟨its, r, ⟨⟨cls, dd, data, sl⟩, ho, hc, n, hd⟩, hs⟩ := I.tuple hT
  simp only at hc hd
  subst hc hd
  have hle : its.length = xs.length := r.length.symm
  have hn : its ≠ [] := fun e => hne (by
    rw [e] at hle
    exact List.eq_nil_of_length_eq_zero hle.symm)
  have hi : its.toArray.isEmpty = false := by
    cases its with
    | nil => exact absurd rfl hn
    | cons a b => rfl
  have hsz0 : its.toArray.size = xs.length := by rw [List.size_toArray, hle]
  have hm : ((its.toArray.size : Nat) : Int) * k ≤ 10000000 := by
    rw [hsz0]
    have a1 : ((xs.length : Nat) : Int) * k ≤ 1000 * k := Int.mul_le_mul_of_nonneg_right (by omega) (by omega)
    omega
  have flen : (List.replicate k.toNat its).flatten.length ≤ sizeLine := by
    rw [PyProof.Rows.lm_len_rep_flat, hle, sizeLine_eq]
    have a1 : k.toNat * xs.length ≤ 10000 * 1000 := Nat.mul_le_mul (by omega) hz
    omega
  have c0 : (decide (k < -(2 ^ 63)) || decide (k ≥ 2 ^ 63)) = false := by
    rw [decide_eq_false (by omega), decide_eq_false (by omega)] <;> rfl
  have c1 : (its.toArray.isEmpty || k == 1) = false := by
    rw [hi, Bool.false_or]
    exact beq_eq_false_iff_ne.mpr (by omega)
  have c2 : (decide (k ≤ 0) || its.toArray.isEmpty) = false := by
    rw [hi, Bool.or_false]
    exact decide_eq_false (by omega)
  have c4 : Builtin.Tuple.tupleTooMany (((its.toArray.size : Nat) : Int) * k) = false := by
    unfold Builtin.Tuple.tupleTooMany
    rw [sizeLine_eq]
    exact decide_eq_false (by omega)
  refine wpAny_binaryOp_repeat_ref (T := "tuple") (U := "int") (by decide) ⟨_, ho, rfl⟩ (fun s' => typeIs_int s' k t) noFill_tuple_mul F.fills_int_mul F.slot_int_rmul repeat_tuple F.slot_int_index.lookup
    (call_meets F.slot_int_rmul (typeIs_int s k t) F.entry_int_rmul (F.args_int_rmul_2 _ _) (int_rmul_tuple k t l its.toArray n dd sl)
      ⟨ho, rfl, ⟨_, ho, rfl⟩, call_meets F.slot_tuple_mul ⟨_, ho, rfl⟩ F.entry_tuple_mul (F.args_tuple_mul_2 _ _) (tuple_mulW l its.toArray n dd sl k t c0 c1 c2 (by omega) c4 (by rw [size_rep, List.size_toArray]; exact flen)) ⟨ho, ?_⟩⟩)
  rw [size_rep]
  refine ⟨.ref s.heap.objs.size, _, I.laid (t' := s.toks) (o := .tup (List.replicate k.toNat xs).flatten) (fun b ob q => Heap.get?_push_of_some _ q) (Nat.le_refl _) ?_, rfl, q _ (I.hok.fresh (Nat.le_refl _))⟩
  exact ⟨by rw [PyProof.Rows.lm_len_rep_flat, sizeLine_eq]; have a1 : k.toNat * xs.length ≤ 10000 * 1000 := Nat.mul_le_mul (by omega) hz; omega, _, r.rep k.toNat, IsTup.new _ _⟩
end
end Mv
end

section
set_option Elab.async false
set_option linter.all false
set_option maxRecDepth 100000
set_option maxHeartbeats 4000000
/-! SumB: sum of a list of numbers, truth values among them. -/
namespace Mv
open PySem PySem.Spec PyProof.Rows L2
def b2i (b : Bool) : Int := if b = true then 1 else 0
inductive NumL : List Int → List V → Prop
  | nil : NumL [] []
  | int {ns : List Int} {xs : List V} (i : Int) (h : NumL ns xs) : NumL (i :: ns) (V.int i :: xs)
  | bl {ns : List Int} {xs : List V} (b : Bool) (h : NumL ns xs) : NumL (b2i b :: ns) (V.bl b :: xs)
theorem NumL.at_ : ∀ {ns : List Int} {xs : List V} {us : List Value}, NumL ns xs → Vals xs us → us.length = ns.length ∧ ∀ j v, us[j]? = some v → NumOf (ns.getD j 0) v
  | _, _, _, .nil, .nil => ⟨rfl, fun j v h => by simp at h⟩
  | _, _, _, .int i h, .cons r t => by
    obtain ⟨g1, g2⟩ := h.at_ t
    refine ⟨by rw [List.length_cons, List.length_cons, g1], fun j v hj => ?_⟩
    cases j with
    | zero =>
      obtain ⟨t, e⟩ := r
      simp at hj
      subst hj
      exact .inl ⟨t, e⟩
    | succ j => simpa using g2 j v (by simpa using hj)
  | _, _, _, .bl b h, .cons r t => by
    obtain ⟨g1, g2⟩ := h.at_ t
    refine ⟨by rw [List.length_cons, List.length_cons, g1], fun j v hj => ?_⟩
    cases j with
    | zero =>
      have e : _ = Value.bool b := r
      simp at hj
      subst hj
      exact .inr ⟨b, e, rfl⟩
    | succ j => simpa using g2 j v (by simpa using hj)
theorem preSum_take (ns : List Int) : ∀ k, k ≤ ns.length → preSum (fun j => ns.getD j 0) k = (ns.take k).sum
  | 0, _ => by simp [preSum]
  | k + 1, h => by
    have hk : k < ns.length := h
    show preSum (fun j => ns.getD j 0) k + ns.getD k 0 = _
    rw [preSum_take ns k (by omega), List.take_succ, List.getD_eq_getElem?_getD, List.getElem?_eq_getElem hk, List.sum_append]
    simp
section
variable {prog : Program} {w : World} {A : Around} {E : Value → Shared → Prop} {s : Shared} {l : Addr} {its : List Value} {ns : List Int} {Q : Value → Shared → Prop}
theorem sum_num (hh : A.handled = none) (hl : s.heap.IsList l its.toArray) (hn : its.length = ns.length) (hi : ∀ j v, its[j]? = some v → NumOf (ns.getD j 0) v)
    (h : ∀ h' tk t', (∀ b o, s.heap.get? b = some o → h'.get? b = some o) → Q (.int ns.sum t') { s with heap := h', toks := tk }) : wpAny (model prog w) A (call (.builtin "sum") [.ref l]) Q E s := by
  have hlt : l < s.heap.objs.size := by obtain ⟨_, e, _⟩ := hl; exact Heap.lt_size e
  have hz : (s.heap.push { cls := .type "list_iterator", data := .fields #[.ref l, .int 0 0] }).objs.size = s.heap.objs.size + 1 := Heap.size_push ..
  refine call_sum_walkAnyB (wpAny_pyIter_list hl ?_)
  refine ⟨s.heap.objs.size, _, _, _, _, _, _, fun j => ns.getD j 0, rfl, (Walks.list (A := A.in1) hh _ l (Nat.ne_of_lt hlt) its.toArray).toS, ⟨⟨_, Heap.get?_push_size _ rfl, rfl, rfl⟩, hl.push _⟩, fun b hb => ?_, fun i v hv => hi i v (by simpa using hv), fun s' t' hm => ?_⟩
  · show b < (s.heap.push _).objs.size
    rw [hz]
    rcases List.mem_cons.mp hb with e | hb
    · rw [e]; exact Nat.lt_succ_self _
    · rw [List.mem_singleton.mp hb]; exact Nat.lt_succ_of_lt hlt
  · obtain ⟨h', g2, d', tk', os'⟩ := s'
    have eg : g2 = s.gens := hm.gens
    have ed : d' = s.drawn := hm.drawn
    have eo : os' = s.os := hm.os
    subst eg; subst ed; subst eo
    have q := h h' tk' t' fun b o e => hm.heap b o (fun hb => by
      have hb' : b = s.heap.objs.size := by simpa using hb
      rw [hb'] at e
      exact absurd (Heap.lt_size e) (Nat.lt_irrefl _)) (Heap.get?_push_of_some _ e)
    have e1 : preSum (fun j => ns.getD j 0) its.toArray.size = ns.sum := by
      rw [List.size_toArray, hn, preSum_take ns _ (Nat.le_refl _), List.take_of_length_le (Nat.le_refl _)]
    rw [e1]
    exact q
end
section
variable {X : Cx}
def rSumN (K : PySem.W.Frag) : List V → Hp → VK → Prop := fun vs H Q => ∃ (a : Addr) (xs : List V) (ns : List Int), vs = [V.ref a] ∧ SqL K H a xs ∧ NumL ns xs ∧ Q (.int ns.sum) H
theorem cr_sumN (hc : X.calm = true) : CallR X (.builtin "sum") (rSumN X.K) := by
  intro pins s σ H xs us Q I r h
  obtain ⟨a, ys, ns, rfl, hq, hn, q⟩ := h
  rw [Vals.ref1 r]
  obtain ⟨its, rv, hl, hz⟩ := I.list hq
  obtain ⟨g1, g2⟩ := hn.at_ rv
  exact sum_num (I.ok.hd hc) hl.isList g1 g2 fun h' tk t' hk => ⟨.int _, H, I.kept hk, ⟨_, rfl⟩, q⟩
end
end Mv
end

section
set_option maxRecDepth 100000
set_option linter.all false
/-! Vm: a small language; values, cells, results; what its operations compute. -/
noncomputable section
namespace Mv
/-- values: numbers, texts (their codes), tuples, lists that nobody changes any more, cells, functions, classes, errors at hand, the script -/
inductive D where
  | non | bl (b : Bool) | int (i : Int) | str (s : List Nat) | tup (ds : List D) | lst (ds : List D)
  | tpn (ds : List D) | loc (n : Nat) | fn (n : Nat) | ty (n : Nat) | exc (c : Nat) (p : List D) | scr (ns : List Int) | rng (a : Int) (n : Nat)
/-- what a cell holds: a list, with the number of walks that go over it -/
inductive Ob where
  | lst (k : Nat) (ds : List D) | dct (kvs : List (D × D))
structure St where
  nx : Nat
  cs : List (Nat × Ob)
inductive Rv where
  | ok (d : D) (s : St) | exc (c : Nat) (p : List D) (s : St) | bad (n : Nat)
inductive Rs where
  | ok (ds : List D) (s : St) | exc (c : Nat) (p : List D) (s : St) | bad (n : Nat)
abbrev Env := List (Option D)
inductive Fl where
  | nx (e : Env) (s : St) | rt (d : D) (s : St) | bk (e : Env) (s : St) | exc (c : Nat) (p : List D) (e : Env) (s : St) | bad (n : Nat)
abbrev EvT := Env → St → Rv
abbrev EsT := Env → St → Rs
abbrev ExT := Env → St → Fl

section
variable {α β : Type}
def obnd (o : Option α) (z : β) (k : α → β) : β := Option.rec (motive := fun _ => β) z k o
theorem obnd_some (a : α) (z : β) (k : α → β) : obnd (some a) z k = k a := rfl
theorem obnd_none (z : β) (k : α → β) : obnd none z k = z := rfl
end
def Rv.bnd (r : Rv) (k : D → St → Rv) : Rv := Rv.rec (motive := fun _ => Rv) k (fun c p s => .exc c p s) (fun n => .bad n) r
def Rs.bnd (r : Rs) (k : List D → St → Rv) : Rv := Rs.rec (motive := fun _ => Rv) k (fun c p s => .exc c p s) (fun n => .bad n) r
def Rv.bns (r : Rv) (k : D → St → Rs) : Rs := Rv.rec (motive := fun _ => Rs) k (fun c p s => .exc c p s) (fun n => .bad n) r
def Rs.bns (r : Rs) (k : List D → St → Rs) : Rs := Rs.rec (motive := fun _ => Rs) k (fun c p s => .exc c p s) (fun n => .bad n) r
def Rv.bnf (r : Rv) (e : Env) (k : D → St → Fl) : Fl := Rv.rec (motive := fun _ => Fl) k (fun c p s => .exc c p e s) (fun n => .bad n) r
def Rs.bnf (r : Rs) (e : Env) (k : List D → St → Fl) : Fl := Rs.rec (motive := fun _ => Fl) k (fun c p s => .exc c p e s) (fun n => .bad n) r
def Fl.seq (r : Fl) (k : Env → St → Fl) : Fl := Fl.rec (motive := fun _ => Fl) k (fun d s => .rt d s) (fun e s => .bk e s) (fun c p e s => .exc c p e s) (fun n => .bad n) r

/-! ### numbers -/
def iltb : Int → Int → Bool
  | .ofNat a, .ofNat b => Nat.blt a b
  | .ofNat _, .negSucc _ => false
  | .negSucc _, .ofNat _ => true
  | .negSucc a, .negSucc b => Nat.blt b a
def ieqb : Int → Int → Bool
  | .ofNat a, .ofNat b => Nat.beq a b
  | .negSucc a, .negSucc b => Nat.beq a b
  | _, _ => false
def beqb : Bool → Bool → Bool
  | true, b => b
  | false, b => !b
def leqb : List Nat → List Nat → Bool
  | [], [] => true
  | a :: r, b :: t => cond (Nat.beq a b) (leqb r t) false
  | _, _ => false
def lltb : List Nat → List Nat → Bool
  | [], [] => false
  | [], _ :: _ => true
  | _ :: _, [] => false
  | a :: r, b :: t => cond (Nat.beq a b) (lltb r t) (Nat.blt a b)
/-- below 2^64 by size -/
def small64 (i : Int) : Bool := Nat.blt i.natAbs 18446744073709551616
def small30 (i : Int) : Bool := Nat.blt i.natAbs 1073741824
def small62 (i : Int) : Bool := Nat.blt i.natAbs 4611686018427387904

/-! ### values -/
def b2n (b : Bool) : Int := cond b (.ofNat 1) (.ofNat 0)
mutual
/-- == of what has the right shape (shp) -/
def deq : D → D → Bool
  | .non, y => match y with | .non => true | _ => false
  | .bl a, y => match y with | .bl b => beqb a b | .int b => ieqb (b2n a) b | _ => false
  | .int a, y => match y with | .int b => ieqb a b | .bl b => ieqb a (b2n b) | _ => false
  | .str a, y => match y with | .str b => leqb a b | _ => false
  | .tup a, y => match y with | .tup b => deqs a b | _ => false
  | .lst a, y => match y with | .lst b => deqs a b | _ => false
  | _, _ => false
def deqs : List D → List D → Bool
  | [], y => match y with | [] => true | _ => false
  | a :: r, y => match y with | b :: t => cond (deq a b) (deqs r t) false | [] => false
end
mutual
/-- data: nothing but None, numbers, texts, tuples and lists of these, nested at most n deep -/
def shp : Nat → D → Bool
  | _, .non => true
  | _, .bl _ => true
  | _, .int _ => true
  | _, .str _ => true
  | n, .tup ds => shps n ds
  | n, .lst ds => shps n ds
  | _, _ => false
def shps : Nat → List D → Bool
  | _, [] => true
  | 0, _ :: _ => false
  | n + 1, d :: r => cond (shp n d) (shps (n + 1) r) false
end
/-- a list's or tuple's items, a cell's -/
def fnd : List (Nat × Ob) → Nat → Option Ob
  | [], _ => none
  | c :: r, n => cond (Nat.beq c.1 n) (some c.2) (fnd r n)
def put : List (Nat × Ob) → Nat → Ob → List (Nat × Ob)
  | [], _, _ => []
  | c :: r, n, o => cond (Nat.beq c.1 n) ((c.1, o) :: r) (c :: put r n o)
def gone : List (Nat × Ob) → Nat → List (Nat × Ob)
  | [], _ => []
  | c :: r, n => cond (Nat.beq c.1 n) r (c :: gone r n)
def sqv (s : St) : D → Option (List D)
  | .tup l => some l
  | .lst l => some l
  | .loc n => match fnd s.cs n with | some (.lst _ l) => some l | _ => none
  | .scr l => some (l.map .int)
  | _ => none
/-- a cell seen as the list that it is -/
def vw (s : St) : D → D
  | .loc n => match fnd s.cs n with | some (.lst _ l) => .lst l | _ => .loc n
  | d => d
def optR (s : St) (n : Nat) (o : Option D) : Rv := obnd o (.bad n) fun d => .ok d s
mutual
/-- a key: numbers, marks, texts, None and tuples of these -/
def kyo : Nat → D → Bool
  | _, .non => true
  | _, .bl _ => true
  | _, .int _ => true
  | _, .str _ => true
  | n, .tup ds => kyos n ds
  | _, _ => false
def kyos : Nat → List D → Bool
  | _, [] => true
  | 0, _ :: _ => false
  | n + 1, d :: r => cond (kyo n d) (kyos (n + 1) r) false
end
/-- a key that is a tuple -/
def kyt : D → Bool
  | .tup l => kyo 7 (.tup l)
  | _ => false
def dfnd : List (D × D) → D → Option D
  | [], _ => none
  | x :: r, k => cond (deq x.1 k) (some x.2) (dfnd r k)
def dput (kvs : List (D × D)) (k d : D) : List (D × D) := match dfnd kvs k with
  | some _ => kvs.map fun x => cond (deq x.1 k) (x.1, d) x
  | none => kvs ++ [(k, d)]
/-- a dict's rows -/
def dctv (s : St) : D → Option (List (D × D))
  | .loc n => match fnd s.cs n with | some (.dct kvs) => some kvs | _ => none
  | _ => none
/-- pairs (key, value) -/
def prsD : List D → Option (List (D × D))
  | [] => some []
  | d :: r => match d with | .tup [k, v] => cond (kyt k) (match prsD r with | some l => some ((k, v) :: l) | none => none) none | _ => none
def newD (kvs : List (D × D)) (s : St) : Rv := cond (Nat.ble kvs.length 16777216) (.ok (.loc s.nx) { nx := s.nx + 1, cs := (s.nx, .dct kvs) :: s.cs }) (.bad 150)
/-- truth -/
def tru (s : St) : D → Option Bool
  | .bl b => some b
  | .non => some false
  | .int i => some (!(ieqb i (.ofNat 0)))
  | .str l => cond (Nat.ble l.length 16777216) (some (!l.isEmpty)) none
  | d => match sqv s d with | some l => some (!l.isEmpty) | none => none
/-- a new list: a cell (m), or one that nobody changes -/
def newL (m : Bool) (l : List D) (s : St) : Rv := cond (Nat.ble l.length 16777216) (cond m (.ok (.loc s.nx) { nx := s.nx + 1, cs := (s.nx, .lst 0 l) :: s.cs }) (.ok (.lst l) s)) (.bad 1)
def newT (l : List D) (s : St) : Rv := cond (Nat.ble l.length 16777216) (.ok (.tup l) s) (.bad 2)

/-! ### operations of two numbers, lists, texts -/
inductive BOp where | add | sub | mul | fdiv | mod | pow
inductive COp where | eq | ne | lt | le | gt | ge | in_ | nin | is_ | isn
def onI2 (n : Nat) (x y : D) (k : Int → Int → Rv) : Rv := match x with | .int a => (match y with | .int b => k a b | _ => .bad n) | _ => .bad n
def pAdd (m : Bool) (x y : D) (s : St) : Rv :=
  match x with
  | .int a => (match y with | .int b => .ok (.int (Int.add a b)) s | _ => .bad 10)
  | .str a => (match y with | .str b => cond (Nat.ble (a.length + b.length) 16777216) (.ok (.str (a ++ b)) s) (.bad 11) | _ => .bad 12)
  | .tup a => (match y with | .tup b => newT (a ++ b) s | _ => .bad 13)
  | x => (match vw s x with
    | .lst a => (match vw s y with | .lst b => newL m (a ++ b) s | _ => .bad 14)
    | _ => .bad 15)
def pSub (x y : D) (s : St) : Rv := onI2 16 x y fun a b => .ok (.int (Int.sub a b)) s
def rep (n : Nat) (l : List D) : List D := Nat.rec (motive := fun _ => List D) [] (fun _ ih => l ++ ih) n
/-- below 2 ^ 8000, either sign -/
def wia (b : Int) : Bool := Nat.blt b.natAbs (2 ^ 8000)
def pMul (m : Bool) (x y : D) (s : St) : Rv :=
  match x with
  | .int a => (match y with | .int b => cond (small64 a || small64 b || (wia a && wia b)) (.ok (.int (Int.mul a b)) s) (.bad 17) | _ => .bad 18)
  | x => (match vw s x with
    | .lst a => (match y with | .int k => cond (small62 k) (cond (Nat.ble (a.length * k.toNat) 16777216) (newL m (rep k.toNat a) s) (.bad 19)) (.bad 20) | _ => .bad 21)
    | .tup a => (match y with | .int k => cond (Nat.blt 0 a.length && Nat.ble a.length 1000) (cond (match k with | .ofNat n => Nat.ble 2 n && Nat.ble n 10000 | _ => false) (newT (rep k.toNat a) s) (.bad 19)) (.bad 20) | _ => .bad 21)
    | _ => .bad 22)
def wid (b : Int) : Bool := match b with | .ofNat n => Nat.blt n (2 ^ 8000) | .negSucc _ => false
def pDiv (x y : D) (s : St) : Rv := onI2 23 x y fun a b => cond (ieqb b (.ofNat 0)) (.bad 24) (cond (small30 b || wid b) (.ok (.int (Int.fdiv a b)) s) (.bad 25))
def pMod (x y : D) (s : St) : Rv := onI2 26 x y fun a b => cond (ieqb b (.ofNat 0)) (.bad 27) (.ok (.int (Int.fmod a b)) s)
def pPow (x y : D) (s : St) : Rv := onI2 28 x y fun a b => match b with | .ofNat k => cond (Nat.ble k 1000000 && small64 a) (.ok (.int (a ^ k)) s) (.bad 29) | .negSucc _ => .bad 30
def pBin (o : BOp) (m : Bool) : D → D → St → Rv := BOp.rec (motive := fun _ => D → D → St → Rv) (pAdd m) pSub (pMul m) pDiv pMod pPow o
/-! ### comparisons -/
def blR (s : St) (b : Bool) : Rv := .ok (.bl b) s
def pEqN (neg : Bool) (x y : D) (s : St) : Rv :=
  match x, y with
  | .int a, .int b => blR s (Bool.xor neg (ieqb a b))
  | x, y => cond (shp 60 (vw s x) && shp 60 (vw s y)) (blR s (Bool.xor neg (deq (vw s x) (vw s y)))) (.bad 31)
def memD (d : D) : List D → Bool
  | [] => false
  | x :: r => cond (deq x d) true (memD d r)
def pIn (neg : Bool) (x y : D) (s : St) : Rv :=
  match y with
  | .str b => (match x with | .str a => (match a with | [c] => blR s (Bool.xor neg (b.any fun z => Nat.beq z c)) | _ => .bad 32) | _ => .bad 33)
  | y => (match vw s y with
    | .lst l => cond (shp 60 x && shps 60 l) (blR s (Bool.xor neg (memD x l))) (.bad 34)
    | .tup l => cond (shp 60 x && shps 60 l) (blR s (Bool.xor neg (memD x l))) (.bad 35)
    | _ => (match dctv s y with | some kvs => cond (kyt x) (blR s (Bool.xor neg (dfnd kvs x).isSome)) (.bad 37) | none => .bad 36))
def isNon : D → Bool
  | .non => true
  | _ => false
def pIs (neg : Bool) (x y : D) (s : St) : Rv := match y with | .non => (match x with | .exc _ _ => .bad 36 | x => blR s (Bool.xor neg (isNon x))) | _ => .bad 37
mutual
/-- two things of one make: their order is told place by place -/
def alk : D → D → Bool
  | .int _, y => match y with | .int _ => true | _ => false
  | .str _, y => match y with | .str _ => true | _ => false
  | .tup a, y => match y with | .tup b => alks a b | _ => false
  | .lst a, y => match y with | .lst b => alks a b | _ => false
  | _, _ => false
def alks : List D → List D → Bool
  | [], _ => true
  | a :: r, y => match y with | b :: t => cond (alk a b) (alks r t) false | [] => true
end
mutual
def dlt : D → D → Bool
  | .int a, y => match y with | .int b => iltb a b | _ => false
  | .str a, y => match y with | .str b => lltb a b | _ => false
  | .tup a, y => match y with | .tup b => dlts a b | _ => false
  | .lst a, y => match y with | .lst b => dlts a b | _ => false
  | _, _ => false
def dlts : List D → List D → Bool
  | [], y => match y with | [] => false | _ => true
  | a :: r, y => match y with | b :: t => cond (deq a b) (dlts r t) (dlt a b) | [] => false
end
def pLt (sw neg : Bool) (x y : D) (s : St) : Rv :=
  match x, y with
  | .int a, .int b => blR s (Bool.xor neg (cond sw (iltb b a) (iltb a b)))
  | .str a, .str b => blR s (Bool.xor neg (cond sw (lltb b a) (lltb a b)))
  | x, y => cond (shp 60 (vw s x) && shp 60 (vw s y) && alk (vw s x) (vw s y) && alk (vw s y) (vw s x)) (blR s (Bool.xor neg (cond sw (dlt (vw s y) (vw s x)) (dlt (vw s x) (vw s y))))) (.bad 38)
/-- <: x below y; >: y below x; <=: not y below x; >=: not x below y -/
def pCmp (o : COp) : D → D → St → Rv := COp.rec (motive := fun _ => D → D → St → Rv) (pEqN false) (pEqN true) (pLt false false) (pLt true true) (pLt true false) (pLt false true) (pIn false) (pIn true) (pIs false) (pIs true) o
/-! ### places and parts -/
/-- the place of a number that may count from behind -/
def ixn (i : Int) (n : Nat) : Option Nat :=
  match i with
  | .ofNat a => cond (Nat.blt a n) (some a) none
  | .negSucc a => cond (Nat.blt a n) (some (n - (a + 1))) none
def nth : List D → Nat → Option D
  | [], _ => none
  | d :: r, n => Nat.rec (motive := fun _ => Option D) (some d) (fun k _ => nth r k) n
def nthN : List Nat → Nat → Option Nat
  | [], _ => none
  | d :: r, n => Nat.rec (motive := fun _ => Option Nat) (some d) (fun k _ => nthN r k) n
def at_ (l : List D) (i : Int) : Option D := match ixn i l.length with | some k => nth l k | none => none
def pIdx (x y : D) (s : St) : Rv :=
  match y with
  | .int i => (match x with
    | .str l => cond (Nat.ble l.length 16777216) (match ixn i l.length with | some k => optR s 40 (match nthN l k with | some c => some (.str [c]) | none => none) | none => .bad 41) (.bad 39)
    | x => (match sqv s x with | some l => optR s 42 (at_ l i) | none => .bad 43))
  | y => (match dctv s x with | some kvs => cond (kyt y) (optR s 46 (dfnd kvs y)) (.bad 44) | none => .bad 44)
def setN : List D → Nat → D → List D
  | [], _, _ => []
  | a :: r, n, d => Nat.rec (motive := fun _ => List D) (d :: r) (fun k _ => a :: setN r k d) n
/-- where a part of n begins or ends -/
def clp (b : Bool) (n d : Nat) (x : D) : Option Nat :=
  cond b (match x with
    | .int (.ofNat a) => some (Nat.min a n)
    | .int (.negSucc a) => some (n - (a + 1))
    | _ => none) (some d)
def takeD : Nat → List D → List D
  | 0, _ => []
  | _ + 1, [] => []
  | n + 1, a :: r => a :: takeD n r
def dropD : Nat → List D → List D
  | 0, l => l
  | _ + 1, [] => []
  | n + 1, _ :: r => dropD n r
def cutD (l : List D) (lo hi : Nat) : List D := takeD (hi - lo) (dropD lo l)
def takeN : Nat → List Nat → List Nat
  | 0, _ => []
  | _ + 1, [] => []
  | n + 1, a :: r => a :: takeN n r
def dropN : Nat → List Nat → List Nat
  | 0, l => l
  | _ + 1, [] => []
  | n + 1, _ :: r => dropN n r
def pSlc (m p q : Bool) (x l h : D) (s : St) : Rv :=
  match x with
  | .str z => cond (Nat.ble z.length 16777216) (match clp p z.length 0 l, clp q z.length z.length h with | some a, some b => .ok (.str (takeN (b - a) (dropN a z))) s | _, _ => .bad 45) (.bad 45)
  | .tup z => (match clp p z.length 0 l, clp q z.length z.length h with | some a, some b => .ok (.tup (cutD z a b)) s | _, _ => .bad 46)
  | x => (match sqv s x with
    | some z => (match clp p z.length 0 l, clp q z.length z.length h with | some a, some b => newL m (cutD z a b) s | _, _ => .bad 47)
    | none => .bad 48)
/-! ### built-in functions of one thing -/
def pLen (x : D) (s : St) : Rv := match x with
  | .str l => cond (Nat.ble l.length 16777216) (.ok (.int (.ofNat l.length)) s) (.bad 50)
  | x => match sqv s x with | some l => .ok (.int (.ofNat l.length)) s | none => .bad 51
def pAbs (x : D) (s : St) : Rv := match x with | .int i => .ok (.int (.ofNat i.natAbs)) s | _ => .bad 52
def pInt (x : D) (s : St) : Rv := match x with | .int i => .ok (.int i) s | .bl b => .ok (.int (b2n b)) s | _ => .bad 53
def pLst (m : Bool) (x : D) (s : St) : Rv := match sqv s x with | some l => newL m l s | none => (match dctv s x with | some kvs => newL m (kvs.map fun z => z.1) s | none => .bad 54)
def pTup (x : D) (s : St) : Rv := match x with | .tup l => .ok (.tup l) s | x => match sqv s x with | some l => newT l s | none => .bad 55
def allB : List D → Option Bool
  | [] => some true
  | d :: r => match d with | .bl b => (match allB r with | some c => some (b && c) | none => none) | _ => none
def anyB : List D → Option Bool
  | [] => some false
  | d :: r => match d with | .bl b => (match anyB r with | some c => some (b || c) | none => none) | _ => none
def sumI : List D → Option Int
  | [] => some (.ofNat 0)
  | d :: r => match d with | .int i => (match sumI r with | some c => some (Int.add i c) | none => none) | .bl b => (match sumI r with | some c => some (Int.add (b2n b) c) | none => none) | _ => none
def pAll (x : D) (s : St) : Rv := match vw s x with | .lst l => (match allB l with | some b => blR s b | none => .bad 56) | _ => .bad 57
def pAny (x : D) (s : St) : Rv := match vw s x with | .lst l => (match anyB l with | some b => blR s b | none => .bad 58) | _ => .bad 59
def pSum (x : D) (s : St) : Rv := match vw s x with | .lst l => (match sumI l with | some b => .ok (.int b) s | none => .bad 60) | _ => .bad 61
def pNeg (x : D) (s : St) : Rv := match x with | .int i => .ok (.int (Int.neg i)) s | _ => .bad 62
def pNot (x : D) (s : St) : Rv := match tru s x with | some b => blR s (!b) | none => .bad 63
/-- a cell that nobody changes any more -/
def pFrz (x : D) (s : St) : Rv := match x with
  | .loc n => (match fnd s.cs n with | some (.lst 0 l) => .ok (.lst l) { nx := s.nx, cs := gone s.cs n } | _ => .bad 64)
  | d => .ok d s
def pRev (m : Bool) (x : D) (s : St) : Rv := match x with
  | .tup _ => .bad 65
  | x => match vw s x with | .lst l => newL m l.reverse s | _ => .bad 65
/-- a number, nothing else -/
def pIch (x : D) (s : St) : Rv := match x with | .int i => .ok (.int i) s | _ => .bad 49
/-- a list, nothing else -/
def pIsl (x : D) (s : St) : Rv := match vw s x with | .lst _ => .ok x s | _ => .bad 49
/-- a tuple, nothing else -/
def pIst (x : D) (s : St) : Rv := match x with | .tpn l => .ok (.tpn l) s | _ => .bad 48
/-- a list's items -/
def lqv (s : St) : D → Option (List D)
  | .tup _ => none
  | d => sqv s d
/-- a tuple made by tuple(..), known to have no dict -/
def pTpn (x : D) (s : St) : Rv := match lqv s x with | some l => cond (Nat.ble l.length 16777216) (.ok (.tpn l) s) (.bad 2) | none => .bad 55
/-- the same, seen as a tuple -/
def pAsT (x : D) (s : St) : Rv := match x with | .tpn l => .ok (.tup l) s | _ => .bad 47
/-- a tuple's items, a list's -/
def lstv (s : St) : D → Option (List D)
  | .tup l => some l
  | .lst l => some l
  | .loc n => match fnd s.cs n with | some (.lst _ l) => some l | _ => none
  | _ => none
/-- into a sorted row without doubles, by a number -/
def insK {α : Type} (κ : α → Int) (x : α) : List α → List α
  | [] => [x]
  | a :: l => cond (iltb (κ x) (κ a)) (x :: a :: l) (cond (ieqb (κ x) (κ a)) (a :: l) (a :: insK κ x l))
def srtK {α : Type} (κ : α → Int) : List α → List α
  | [] => []
  | a :: l => insK κ a (srtK κ l)
def allI : List D → Option (List Int)
  | [] => some []
  | d :: r => match d with | .int i => (match allI r with | some l => some (i :: l) | none => none) | _ => none
def allT : List D → Option (List (List Int))
  | [] => some []
  | d :: r => match d with | .tup t => (match allI t with | some i => (match allT r with | some l => some (i :: l) | none => none) | none => none) | _ => none
def codeB : List Int → Int
  | [] => .ofNat 0
  | a :: r => Int.add (Int.mul a (.ofNat (18446744073709551616 ^ r.length))) (codeB r)
def nn64 : List Int → Bool
  | [] => true
  | a :: r => match a with | .ofNat n => cond (Nat.blt n 18446744073709551616) (nn64 r) false | .negSucc _ => false
def allLen (n : Nat) : List (List Int) → Bool
  | [] => true
  | a :: r => cond (Nat.beq a.length n && nn64 a) (allLen n r) false
/-- sorted(set(x)) -/
def pSset (m : Bool) (x : D) (s : St) : Rv := match lstv s x with
  | some l => cond (Nat.blt l.length 64) (match allI l with
    | some ns => newL m ((srtK (fun i => i) ns).map .int) s
    | none => (match allT l with
        | some (t :: ts) => cond (Nat.blt 0 t.length && allLen t.length (t :: ts)) (newL m ((srtK codeB (t :: ts)).map fun t => .tup (t.map .int)) s) (.bad 141)
        | _ => .bad 142)) (.bad 143)
  | none => .bad 144
def leqI : List Int → List Int → Bool
  | [], b => (match b with | [] => true | _ :: _ => false)
  | x :: a, b => (match b with | [] => false | y :: b => cond (ieqb x y) (leqI a b) false)
def memI (x : List Int) : List (List Int) → Bool
  | [] => false
  | y :: l => cond (leqI x y) true (memI x l)
def ddL : List (List Int) → List (List Int)
  | [] => []
  | x :: l => cond (memI x l) (ddL l) (x :: ddL l)
/-- len(set(x)) -/
def pLset (x : D) (s : St) : Rv := match lstv s x with
  | some l => cond (Nat.blt l.length 64) (match allT l with | some ts => .ok (.int (.ofNat (ddL ts).length)) s | none => .bad 221) (.bad 222)
  | none => .bad 223
/-! ### sorting -/
section
variable {α : Type} (le : α → α → Bool)
noncomputable def mrgL (n : Nat) : List α → List α → List α := Nat.rec (motive := fun _ => List α → List α → List α) (fun xs ys => xs ++ ys)
  (fun _ ih xs ys => match xs with | [] => ys | x :: xs' => match ys with | [] => x :: xs' | y :: ys' => cond (le x y) (x :: ih xs' (y :: ys')) (y :: ih (x :: xs') ys')) n
noncomputable def msrt (n : Nat) : List α → List α := Nat.rec (motive := fun _ => List α → List α) (fun l => l)
  (fun _ ih l => match l with | [] => [] | a :: r => match r with | [] => [a] | _ :: _ => mrgL le l.length (ih (l.take ((l.length + 1) / 2))) (ih (l.drop ((l.length + 1) / 2)))) n
end
def isIntD : D → Bool
  | .int _ => true
  | _ => false
/-- numbers, n times in tuples -/
def homI (n : Nat) : D → Bool := Nat.rec (motive := fun _ => D → Bool) isIntD (fun _ ih d => match d with | .tup l => l.all ih | _ => false) n
def prI : D → Option (Int × Int)
  | .tup [.int a, .int b] => some (a, b)
  | _ => none
def prsI : List D → Option (List (Int × Int))
  | [] => some []
  | d :: r => match prI d with | some p => (match prsI r with | some l => some (p :: l) | none => none) | none => none
def kle (x y : Int × Int) : Bool := !(cond (iltb y.1 x.1) true (cond (ieqb y.1 x.1) (iltb x.2 y.2) false))
def prD (p : Int × Int) : D := .tup [.int p.1, .int p.2]
/-- sorted(x, key=lambda a: (a[0], -a[1])) -/
def pSrk (m : Bool) (x : D) (s : St) : Rv := match lstv s x with
  | some l => (match prsI l with | some ps => cond (Nat.ble ps.length 16777216) (newL m ((msrt kle ps.length ps).map prD) s) (.bad 190) | none => .bad 191)
  | none => .bad 192
/-- rows put in, one by one -/
def mrgD : List (D × D) → List (D × D) → List (D × D)
  | acc, [] => acc
  | acc, x :: r => mrgD (dput acc x.1 x.2) r
/-- dict(l), l a list of pairs -/
def pDic (x : D) (s : St) : Rv := match lqv s x with | some l => (match prsD l with | some prs => newD (mrgD [] prs) s | none => .bad 151) | none => .bad 152
/-- each two of l are alike -/
def alkA (l : List D) : Bool := l.all (homI 0) || l.all (homI 1) || l.all (homI 2) || l.all (homI 3) || l.all fun a => l.all fun b => alk a b
def neTup : D → Bool
  | .tup (_ :: _) => true
  | _ => false
def noTup : D → Bool
  | .tup _ => false
  | _ => true
def srtB (l : List D) : Bool := Nat.ble l.length 16777216 && shps 60 l && alkA l && (l.all neTup || l.all noTup || Nat.ble l.length 1)
/-- sorted(x) -/
def srtR (m : Bool) (l : List D) (s : St) : Rv := cond (srtB l) (newL m (msrt (fun a b => !(dlt b a)) l.length l) s) (.bad 193)
def pSrt (m : Bool) (x : D) (s : St) : Rv := match lstv s x with | some l => srtR m l s | none => (match dctv s x with | some kvs => srtR m (kvs.map fun z => z.1) s | none => .bad 194)
def minDD (a : D) : List D → D
  | [] => a
  | y :: r => minDD (cond (dlt y a) y a) r
def maxDD (a : D) : List D → D
  | [] => a
  | y :: r => maxDD (cond (dlt a y) y a) r
/-- min(x), max(x) -/
def pMin1 (x : D) (s : St) : Rv := match lstv s x with | some (a :: r) => cond (shps 60 (a :: r) && alkA (a :: r)) (.ok (minDD a r) s) (.bad 195) | _ => .bad 196
def pMax1 (x : D) (s : St) : Rv := match lstv s x with | some (a :: r) => cond (shps 60 (a :: r) && alkA (a :: r)) (.ok (maxDD a r) s) (.bad 195) | _ => .bad 196
/-- x.pop() -/
def pPop (x : D) (s : St) : Rv := match x with
  | .loc n => (match fnd s.cs n with | some (.lst 0 l) => (match nth l (l.length - 1) with | some y => .ok y { nx := s.nx, cs := put s.cs n (.lst 0 l.dropLast) } | none => .bad 251) | _ => .bad 252)
  | _ => .bad 253
inductive Op1 where | lset | pop | srk (m : Bool) | srt (m : Bool) | min1 | max1 | sset (m : Bool) | dict | ich | isl | ist | tpn | asT | neg | not | len | abs | int_ | lst (m : Bool) | tup | all | any | sum | frz | rev (m : Bool)
def p1 (o : Op1) : D → St → Rv := Op1.rec (motive := fun _ => D → St → Rv) pLset pPop pSrk pSrt pMin1 pMax1 pSset pDic pIch pIsl pIst pTpn pAsT pNeg pNot pLen pAbs pInt pLst pTup pAll pAny pSum pFrz pRev o
/-! ### isinstance. Classes by number: 0 int, 1 bool, 2 str, 3 tuple, 4 list, 5 LookupError, 6 ValueError; own ones from 10 (bases by `cb`) -/
def tyOf : D → Option Nat
  | .non => some 9
  | .bl _ => some 1
  | .int _ => some 0
  | .str _ => some 2
  | .tup _ => some 3
  | .lst _ => some 4
  | .loc _ => some 4
  | .scr _ => some 4
  | _ => none
def isB (t k : Nat) : Bool := Nat.beq t k || (Nat.beq t 1 && Nat.beq k 0)
def tyNums : List D → Option (List Nat)
  | [] => some []
  | d :: r => match d with | .ty k => (cond (Nat.blt k 5) (match tyNums r with | some l => some (k :: l) | none => none) none) | _ => none
/-- there: the cell is there -/
def thr (s : St) : D → Bool
  | .loc n => match fnd s.cs n with | some (.lst _ _) => true | _ => false
  | _ => true
def pIsi (cb : Nat → Nat) (x y : D) (s : St) : Rv :=
  match x with
  | .exc _ _ => .bad 70
  | x => (match tyOf x with
    | some t => cond (thr s x) (match y with
      | .ty k => cond (Nat.blt k 5) (blR s (isB t k)) (.bad 71)
      | .tup ks => (match tyNums ks with | some l => blR s (l.any fun k => isB t k) | none => .bad 72)
      | _ => .bad 73) (.bad 76)
    | none => .bad 74)
def pMin2 (x y : D) (s : St) : Rv := onI2 75 x y fun a b => .ok (.int (cond (iltb b a) b a)) s
def pMax2 (x y : D) (s : St) : Rv := onI2 76 x y fun a b => .ok (.int (cond (iltb a b) b a)) s
/-! ### methods -/
def pApp (x y : D) (s : St) : Rv := match x with
  | .loc n => (match fnd s.cs n with | some (.lst 0 l) => cond (Nat.blt l.length 16777216) (.ok .non { nx := s.nx, cs := put s.cs n (.lst 0 (l ++ [y])) }) (.bad 80) | _ => .bad 81)
  | _ => .bad 82
def pExt (x y : D) (s : St) : Rv := match x with
  | .loc n => (match fnd s.cs n with
    | some (.lst 0 l) => (match lstv s y with | some m => cond (Nat.ble (l.length + m.length) 16777216) (.ok .non { nx := s.nx, cs := put s.cs n (.lst 0 (l ++ m)) }) (.bad 80) | none => .bad 86)
    | _ => .bad 81)
  | _ => .bad 82
def ixOf (d : D) : List D → Option Nat
  | [] => none
  | x :: r => cond (deq x d) (some 0) (match ixOf d r with | some k => some (k + 1) | none => none)
mutual
/-- nothing but numbers, marks, None, and these in tuples and lists -/
def lay (d : D) : Bool := match d with
  | .non => true
  | .bl _ => true
  | .int _ => true
  | .tup l => lays l
  | .lst l => lays l
  | _ => false
def lays (l : List D) : Bool := match l with
  | [] => true
  | d :: r => cond (lay d) (lays r) false
end
/-- lists only -/
def pIndex (x y : D) (s : St) : Rv := match vw s x with
  | .lst l => cond (shp 60 y && shps 60 l) (cond (lay y && lays l) (match ixOf y l with | some k => .ok (.int (.ofNat k)) s | none => .bad 83) (.bad 85)) (.bad 84)
  | _ => .bad 87
/-- tuples only -/
def pTix (x y : D) (s : St) : Rv := match x with
  | .tpn l => cond (shp 60 y && shps 60 l) (cond (lay y && lays l) (match ixOf y l with | some k => .ok (.int (.ofNat k)) s | none => .bad 83) (.bad 85)) (.bad 84)
  | _ => .bad 88
def rngD (a : Int) : Nat → List D
  | 0 => []
  | n + 1 => .int a :: rngD (Int.add a (.ofNat 1)) n
def rngN (a : Int) : Nat → List D
  | 0 => []
  | n + 1 => .int a :: rngN (Int.sub a (.ofNat 1)) n
/-- list(range(x, y)) -/
def pLrg (m : Bool) (x y : D) (s : St) : Rv := onI2 170 x y fun a b => cond (small62 a && small62 b && Nat.ble (Int.sub b a).toNat 16777216) (newL m (rngD a (Int.sub b a).toNat) s) (.bad 171)
/-- x[::y], y 1 or -1 -/
def pStp (m : Bool) (x y : D) (s : St) : Rv := match y with
  | .int k => (match lqv s x with | some l => cond (ieqb k (.ofNat 1)) (newL m l s) (cond (ieqb k (.negSucc 0)) (newL m l.reverse s) (.bad 181)) | none => .bad 182)
  | _ => .bad 180
inductive Op2 where | bin (o : BOp) (m : Bool) | cmp (o : COp) | idx | isi | min | max | app | index | tix | ext | lrg (m : Bool) | stp (m : Bool)
def p2 (cb : Nat → Nat) (o : Op2) : D → D → St → Rv := Op2.rec (motive := fun _ => D → D → St → Rv) pBin pCmp pIdx (pIsi cb) pMin2 pMax2 pApp pIndex pTix pExt pLrg pStp o
/-! ### x[lo:hi:step] -/
def sbD (lo hi st : Option Int) (n : Nat) : Int × Int × Int :=
  let step := st.getD 1
  let clip (v : Option Int) (dflt : Int) : Int := match v with
    | none => dflt
    | some i => let i := if i < 0 then i + n else i; if step > 0 then max 0 (min i n) else max (-1) (min i ((n : Int) - 1))
  (clip lo (if step > 0 then 0 else (n : Int) - 1), clip hi (if step > 0 then n else -1), step)
def srD (start stop step : Int) : List Nat :=
  let count : Int := if step > 0 then (if start < stop then (stop - start + step - 1) / step else 0)
                     else (if start > stop then (start - stop - step - 1) / (-step) else 0)
  (List.range count.toNat).map fun (k : Nat) => (start + step * (k : Int)).toNat
def adD (start stop : Option Int) (step len : Int) : Int × Int :=
  let lower : Int := if step < 0 then -1 else 0
  let upper : Int := if step < 0 then len - 1 else len
  let clip (v : Int) : Int := if v < 0 then max (v + len) lower else min v upper
  (match start with | none => (if step < 0 then upper else lower) | some v => clip v,
   match stop with | none => (if step < 0 then lower else upper) | some v => clip v)
def plD (lo hi step : Int) : Nat :=
  (if step > 0 then (if lo < hi then (hi - lo - 1) / step + 1 else 0) else (if lo > hi then (lo - hi - 1) / (-step) + 1 else 0)).toNat
def stpL (l : List D) (lo hi : Option Int) (k : Int) : List D := (srD (sbD lo hi (some k) l.length).1 (sbD lo hi (some k) l.length).2.1 (sbD lo hi (some k) l.length).2.2).filterMap fun i => nth l i
def stpT (l : List D) (lo hi : Option Int) (k : Int) : List D := (List.range (plD (adD lo hi k l.length).1 (adD lo hi k l.length).2 k)).filterMap fun (j : Nat) => nth l ((adD lo hi k l.length).1 + (j : Int) * k).toNat
def optI (p : Bool) (x : D) : Option (Option Int) := cond p (match x with | .int i => some (some i) | _ => none) (some none)
def pSls (m p q : Bool) (x l h st : D) (s : St) : Rv := match optI p l with
  | some lo => (match optI q h with
    | some hi => (match st with
      | .int k => cond (ieqb k (.ofNat 0)) (.bad 201) (match x with
        | .tup z => newT (stpT z lo hi k) s
        | x => (match lqv s x with | some z => newL m (stpL z lo hi k) s | none => .bad 202))
      | _ => .bad 203)
    | none => .bad 204)
  | none => .bad 204
def wkRng (ds : List D) (_ : St) : Option (List D) := match ds with
  | [x] => (match x with | .int b => cond (small62 b) (some (rngD (.ofNat 0) b.toNat)) none | _ => none)
  | [x, y] => (match x with | .int a => (match y with | .int b => cond (small62 a && small62 b) (some (rngD a (Int.sub b a).toNat)) none | _ => none) | _ => none)
  | [x, y, z] => (match x with | .int a => (match y with | .int b => (match z with | .int c => cond (small62 a && small62 b && ieqb c (.negSucc 0)) (some (rngN a (Int.sub a b).toNat)) none | _ => none) | _ => none) | _ => none)
  | _ => none
/-- range(..) as a value -/
def pRgv (ds : List D) (s : St) : Rv := match ds with
  | [x, y] => (match x with | .int a => (match y with | .int b => cond (small62 a && small62 b) (.ok (.rng a (Int.sub b a).toNat) s) (.bad 241) | _ => .bad 242) | _ => .bad 243)
  | _ => .bad 244
/-- what stands at a number in a written dict: the last one of that key -/
def dgl : List Int → List D → Int → Option D → Option D
  | [], _, _, acc => acc
  | k :: ks, vs, j, acc => match vs with | [] => acc | v :: vs => dgl ks vs j (cond (ieqb k j) (some v) acc)
def pDge (ks : List Int) (vs : List D) (ds : List D) (s : St) : Rv := match ds with
  | [y, z] => (match y with | .int j => .ok ((dgl ks vs j none).getD z) s | _ => .bad 231)
  | _ => .bad 230
/-- list(range(..)), tuple(range(..)) -/
def pRgs (t m : Bool) (ds : List D) (s : St) : Rv := match wkRng ds s with
  | some l => cond (Nat.ble l.length 16777216) (cond t (newT l s) (newL m l s)) (.bad 211)
  | none => .bad 210
inductive Opn where | tup | lst (m : Bool) | slc (m p q : Bool) | sls (m p q : Bool) | dct | rgs (t m : Bool) | rgv | dge (ks : List Int) (vs : List D) | dsp
/-- {k: v}: the new dict stands (empty) while key and value are made -/
def pDsp (n : Nat) (ds : List D) (s : St) : Rv := match ds with
  | [k, v] => (match fnd s.cs n with | some (.dct kvs) => (match kvs with | [] => cond (kyt k) (.ok (.loc n) { nx := s.nx, cs := put s.cs n (.dct (dput [] k v)) }) (.bad 251) | _ => .bad 252) | _ => .bad 253)
  | _ => .bad 250
def isDsp (o : Opn) : Bool := match o with | .dsp => true | _ => false
def pn (o : Opn) (ds : List D) (s : St) : Rv := match o with
  | .tup => newT ds s
  | .lst m => newL m ds s
  | .slc m p q => match ds with | [x, l, h] => pSlc m p q x l h s | _ => .bad 90
  | .sls m p q => match ds with | [x, l, h, k] => pSls m p q x l h k s | _ => .bad 91
  | .dct => match ds with | [] => newD [] s | _ => .bad 153
  | .rgs t m => pRgs t m ds s
  | .rgv => pRgv ds s
  | .dge ks vs => pDge ks vs ds s
  | .dsp => .bad 254

/-! ### targets, walks -/
inductive Tg where | nm (i : Nat) | tp (ts : List Tg)
def setE : Env → Nat → D → Env
  | [], _, _ => []
  | a :: r, n, d => Nat.rec (motive := fun _ => Env) (some d :: r) (fun k _ => a :: setE r k d) n
def getE : Env → Nat → Option D
  | [], _ => none
  | a :: r, n => Nat.rec (motive := fun _ => Option D) a (fun k _ => getE r k) n
mutual
def bndT : Tg → D → Env → St → Option Env
  | .nm i, d, e, _ => some (setE e i d)
  | .tp ts, d, e, s => match lstv s d with | some l => bndTs ts l e s | none => none
def bndTs : List Tg → List D → Env → St → Option Env
  | [], l, e, _ => match l with | [] => some e | _ => none
  | t :: r, l, e, s => match l with | d :: l' => (match bndT t d e s with | some e' => bndTs r l' e' s | none => none) | [] => none
end
/-- what is walked: a thing itself; range; enumerate; zip -/
inductive Wk where | val | rng | enum | zip | enr
def enumD (i : Nat) : List D → List D
  | [] => []
  | d :: r => .tup [.int (.ofNat i), d] :: enumD (i + 1) r
def zipD : List D → List D → List D
  | [], _ => []
  | a :: r, l => match l with | b :: t => .tup [a, b] :: zipD r t | [] => []
/-- the cells that are walked are locked meanwhile -/
def lck (s : St) (n : Nat) : St := match fnd s.cs n with | some (.lst k l) => { nx := s.nx, cs := put s.cs n (.lst (k + 1) l) } | _ => s
def ulk (s : St) (n : Nat) : St := match fnd s.cs n with | some (.lst (k + 1) l) => { nx := s.nx, cs := put s.cs n (.lst k l) } | _ => s
def lk1 (s : St) : D → St
  | .loc n => lck s n
  | _ => s
def ul1 (s : St) : D → St
  | .loc n => ulk s n
  | _ => s
def lks (s : St) : List D → St
  | [] => s
  | d :: r => lks (lk1 s d) r
def uls (s : St) : List D → St
  | [] => s
  | d :: r => ul1 (uls s r) d
def wkVal (ds : List D) (s : St) : Option (List D) := match ds with | [x] => (match x with | .rng a n => some (rngD a n) | .str l => some (l.map fun c => .str [c]) | x => sqv s x) | _ => none
def wkEnum (ds : List D) (s : St) : Option (List D) := match ds with | [x] => (match sqv s x with | some l => some (enumD 0 l) | none => none) | _ => none
def wkEnr (ds : List D) (s : St) : Option (List D) := match wkRng ds s with | some l => some (enumD 0 l) | none => none
def tqv : D → Option (List D)
  | .tup l => some l
  | _ => none
def wkZip (ds : List D) (s : St) : Option (List D) := match ds with | [x, y] => (match tqv x with | some l => (match tqv y with | some m => some (zipD l m) | none => none) | none => match lqv s x with | some l => (match lqv s y with | some m => some (zipD l m) | none => none) | none => none) | _ => none
def wk (k : Wk) : List D → St → Option (List D) := Wk.rec (motive := fun _ => List D → St → Option (List D)) wkVal wkRng wkEnum wkZip wkEnr k

/-! ### expressions: what each form makes of what its parts make -/
def eVar (i : Nat) (e : Env) (s : St) : Rv := obnd (getE e i) (.bad 3) fun d => .ok d s
def eCon (d : D) (_ : Env) (s : St) : Rv := .ok d s
def e1 (o : Op1) (a : EvT) (e : Env) (s : St) : Rv := (a e s).bnd (p1 o)
def e2 (cb : Nat → Nat) (o : Op2) (a b : EvT) (e : Env) (s : St) : Rv := (a e s).bnd fun x s => (b e s).bnd fun y s => p2 cb o x y s
def enD (es : EsT) (e : Env) (s : St) : Rv := (es e { nx := s.nx + 1, cs := (s.nx, .dct []) :: s.cs }).bnd (pDsp s.nx)
def en (o : Opn) (es : EsT) (e : Env) (s : St) : Rv := cond (isDsp o) (enD es e s) ((es e s).bnd (pn o))
def esN (_ : Env) (s : St) : Rs := .ok [] s
def esC (a : EvT) (r : EsT) (e : Env) (s : St) : Rs := (a e s).bns fun d s => (r e s).bns fun ds s => .ok (d :: ds) s
def truR (n : Nat) (d : D) (s : St) (a b : Rv) : Rv := obnd (tru s d) (.bad n) fun t => cond t a b
def eIf (c a b : EvT) (e : Env) (s : St) : Rv := (c e s).bnd fun d s => truR 4 d s (a e s) (b e s)
def eAnd (a b : EvT) (e : Env) (s : St) : Rv := (a e s).bnd fun d s => truR 5 d s (b e s) (.ok d s)
def eOr (a b : EvT) (e : Env) (s : St) : Rv := (a e s).bnd fun d s => truR 6 d s (.ok d s) (b e s)
/-- x o1 b o2 ..: x is known -/
def chE (o : COp) (b : EvT) (x : D) (e : Env) (s : St) : Rv := (b e s).bnd fun y s => pCmp o x y s
def chC (o : COp) (b : EvT) (r : D → EvT) (x : D) (e : Env) (s : St) : Rv := (b e s).bnd fun y s => (pCmp o x y s).bnd fun c s => truR 7 c s (r y e s) (.ok c s)
def eChn (a : EvT) (r : D → EvT) (e : Env) (s : St) : Rv := (a e s).bnd fun x s => r x e s
/-- a comprehension's block: one item -/
def lcItem (t : Tg) (c a : EvT) (e : Env) (d : D) (s : St) : Rs :=
  obnd (bndT t d e s) (.bad 100) fun e1 => (c e1 s).bns fun x s => obnd (tru s x) (.bad 101) fun b => cond b ((a e1 s).bns fun v s => .ok [v] s) (.ok [] s)
def noExc (r : Rs) : Rs := Rs.rec (motive := fun _ => Rs) (fun ds s => .ok ds s) (fun _ _ _ => .bad 102) (fun n => .bad n) r
def lcLoop (f : D → St → Rs) : List D → St → Rs
  | [], s => .ok [] s
  | d :: r, s => (f d s).bns fun v s => (lcLoop f r s).bns fun vs s => .ok (v ++ vs) s
def wipeE : Env → Nat → Env
  | [], _ => []
  | a :: r, n => Nat.rec (motive := fun _ => Env) (none :: r) (fun k _ => a :: wipeE r k) n
def wps (e : Env) : List Nat → Env
  | [] => e
  | i :: r => wipeE (wps e r) i
def eLc (m : Bool) (vs : List Nat) (t : Tg) (k : Wk) (es : EsT) (c a : EvT) (e : Env) (s : St) : Rv :=
  (es e s).bnd fun ds s => obnd (wk k ds s) (.bad 103) fun l => (noExc (lcLoop (lcItem t c a (wps e vs)) l (lks s ds))).bnd fun r s => newL m r (uls s ds)
/-- two clauses: the inner one -/
def lcIn (vs : List Nat) (t : Tg) (k : Wk) (es : EsT) (c a : EvT) (t0 : Tg) (e : Env) (d : D) (s : St) : Rs :=
  obnd (bndT t0 d e s) (.bad 104) fun e0 => (es e0 s).bns fun ds s => obnd (wk k ds s) (.bad 105) fun l => (lcLoop (lcItem t c a (wps e0 vs)) l (lks s ds)).bns fun r s => .ok r (uls s ds)
def eLc2 (m : Bool) (vs0 : List Nat) (t0 : Tg) (k0 : Wk) (es0 : EsT) (vs : List Nat) (t : Tg) (k : Wk) (es : EsT) (c a : EvT) (e : Env) (s : St) : Rv :=
  (es0 e s).bnd fun ds s => obnd (wk k0 ds s) (.bad 106) fun l => (noExc (lcLoop (lcIn vs t k es c a t0 (wps e vs0)) l (lks s ds))).bnd fun r s => newL m r (uls s ds)
/-- calls: cl n ds s, the def n of the arguments ds -/
abbrev Cl := Nat → List D → St → Rv
def pick (vs : List D) : List Nat → List D
  | [] => []
  | i :: r => match nth vs i with | some d => d :: pick vs r | none => pick vs r
def eCall (cl : Cl) (f : Nat) (es : EsT) (e : Env) (s : St) : Rv := (es e s).bnd (cl f)
def eCallK (cl : Cl) (f : Nat) (p : List Nat) (es : EsT) (e : Env) (s : St) : Rv := (es e s).bnd fun ds s => cl f (pick ds p) s
def eCallV (cl : Cl) (a : EvT) (es : EsT) (e : Env) (s : St) : Rv := (a e s).bnd fun d s => match d with | .fn f => (es e s).bnd (cl f) | _ => .bad 8
/-- the field of the error at hand -/
def pFld (k : Nat) (d : D) (s : St) : Rv := match d with | .exc c p => cond (Nat.beq c k) (match p with | [v] => .ok v s | _ => .bad 9) (.bad 9) | _ => .bad 9
def eFld (k i : Nat) (e : Env) (s : St) : Rv := obnd (getE e i) (.bad 9) fun d => pFld k d s
def pIsx (cb : Nat → Nat) (k : Nat) (d : D) (s : St) : Rv := match d with | .exc c _ => blR s (Nat.beq c k || Nat.beq (cb c) k) | _ => .bad 9
def eIsx (cb : Nat → Nat) (i k : Nat) (e : Env) (s : St) : Rv := obnd (getE e i) (.bad 9) fun d => pIsx cb k d s
/-- the error at hand is handed to a def that asks for its classes -/
def pSlp (cb : Nat → Nat) (d : D) (s : St) : Rv := match d with | .exc c _ => .ok (.lst [.bl (Nat.beq c 5 || Nat.beq (cb c) 5), .bl (Nat.beq c 6 || Nat.beq (cb c) 6)]) s | _ => .bad 9
def eSlp (cb : Nat → Nat) (i : Nat) (e : Env) (s : St) : Rv := obnd (getE e i) (.bad 9) fun d => pSlp cb d s

/-! ### statements -/
def xExp (a : EvT) (e : Env) (s : St) : Fl := (a e s).bnf e fun _ s => .nx e s
def xAsg (t : Tg) (a : EvT) (e : Env) (s : St) : Fl := (a e s).bnf e fun d s => obnd (bndT t d e s) (.bad 110) fun e => .nx e s
/-- o[i] = a -/
def sSet (x i d : D) (s : St) : Option St := match x with
  | .loc n => (match i with | .int k => (match fnd s.cs n with | some (.lst 0 l) => (match ixn k l.length with | some j => some { nx := s.nx, cs := put s.cs n (.lst 0 (setN l j d)) } | none => none) | _ => none) | i => (match fnd s.cs n with | some (.dct kvs) => cond (kyt i && Nat.blt kvs.length 16777216) (some { nx := s.nx, cs := put s.cs n (.dct (dput kvs i d)) }) none | _ => none))
  | _ => none
def xSet (o i a : EvT) (e : Env) (s : St) : Fl := (a e s).bnf e fun d s => (o e s).bnf e fun x s => (i e s).bnf e fun k s => obnd (sSet x k d s) (.bad 111) fun s => .nx e s
/-- o[i], p[j] = a -/
def xSet2 (o i p j a : EvT) (e : Env) (s : St) : Fl := (a e s).bnf e fun d s => match d with
  | .tup [u, v] => (o e s).bnf e fun x s => (i e s).bnf e fun k s => obnd (sSet x k u s) (.bad 111) fun s => (p e s).bnf e fun y s => (j e s).bnf e fun l s => obnd (sSet y l v s) (.bad 111) fun s => .nx e s
  | _ => .bad 161
/-- o[i], p[j], t = a -/
def xSet3 (o i p j : EvT) (t : Tg) (a : EvT) (e : Env) (s : St) : Fl := (a e s).bnf e fun d s => match d with
  | .tup [u, v, w] => (o e s).bnf e fun x s => (i e s).bnf e fun k s => obnd (sSet x k u s) (.bad 111) fun s => (p e s).bnf e fun y s => (j e s).bnf e fun l s => obnd (sSet y l v s) (.bad 111) fun s => obnd (bndT t w e s) (.bad 110) fun e => .nx e s
  | _ => .bad 162
def xRet (a : EvT) (e : Env) (s : St) : Fl := (a e s).bnf e fun d s => .rt d s
def xIf (c : EvT) (a b : ExT) (e : Env) (s : St) : Fl := (c e s).bnf e fun d s => obnd (tru s d) (.bad 112) fun t => cond t (a e s) (b e s)
def xPas (e : Env) (s : St) : Fl := .nx e s
def xBrk (e : Env) (s : St) : Fl := .bk e s
def xSeq (a b : ExT) (e : Env) (s : St) : Fl := (a e s).seq b
def turnF (r : Fl) (k : Env → St → Fl) : Fl := Fl.rec (motive := fun _ => Fl) k (fun d s => .rt d s) (fun e s => .nx e s) (fun c p e s => .exc c p e s) (fun n => .bad n) r
def loopL (f : D → ExT) : List D → ExT
  | [], e, s => .nx e s
  | d :: r, e, s => turnF (f d e s) (loopL f r)
/-- a walk that left early has not unlocked -/
def forTurn (t : Tg) (b : ExT) (d : D) (e : Env) (s : St) : Fl := obnd (bndT t d e s) (.bad 113) fun e => b e s
def xFor (t : Tg) (k : Wk) (es : EsT) (b : ExT) (e : Env) (s : St) : Fl :=
  (es e s).bnf e fun ds s => obnd (wk k ds s) (.bad 114) fun l => (loopL (forTurn t b) l e (lks s ds)).seq fun e s => .nx e (uls s ds)
def loopW (c : EvT) (b : ExT) (n : Nat) : ExT := Nat.rec (motive := fun _ => ExT) (fun _ _ => .bad 115)
  (fun _ ih e s => (c e s).bnf e fun d s => obnd (tru s d) (.bad 116) fun t => cond t (turnF (b e s) ih) (.nx e s)) n
def xWhl (c : EvT) (b : ExT) : ExT := loopW c b 100000
def xRse (c : Nat) (es : EsT) (e : Env) (s : St) : Fl := (es e s).bnf e fun ds s => .exc c ds e s
abbrev Hd := Nat → List D → ExT
/-- no clause took it -/
def hN (c : Nat) (p : List D) (e : Env) (s : St) : Fl := .exc c p e s
/-- except k (as i) -/
def endS (i : Option Nat) (r : Fl) : Fl := match i with
  | none => r
  | some i => (match r with | .nx e s => .nx (wipeE e i) s | .bk e s => .bk (wipeE e i) s | r => r)
/-- no error leaves a clause -/
def noXF (r : Fl) : Fl := Fl.rec (motive := fun _ => Fl) (fun e s => .nx e s) (fun d s => .rt d s) (fun e s => .bk e s) (fun _ _ _ _ => .bad 130) (fun n => .bad n) r
def hC (cb : Nat → Nat) (k : Nat) (i : Option Nat) (b : ExT) (r : Hd) (c : Nat) (p : List D) (e : Env) (s : St) : Fl :=
  cond (Nat.beq c k || Nat.beq (cb c) k) (match i with | none => noXF (b e s) | some i => cond (Nat.blt i e.length) (endS (some i) (noXF (b (setE e i (.exc c p)) s))) (.bad 131)) (r c p e s)
def xTry (b : ExT) (h : Hd) (e : Env) (s : St) : Fl := Fl.rec (motive := fun _ => Fl) (fun e s => .nx e s) (fun d s => .rt d s) (fun e s => .bk e s) h (fun n => .bad n) (b e s)

/-- a statement that sees no cell, and of the names only these -/
def elemN (n : Nat) : List Nat → Bool
  | [] => false
  | a :: r => cond (Nat.beq a n) true (elemN n r)
def keepE (ks : List Nat) : Nat → Env → Env
  | _, [] => []
  | i, a :: r => cond (elemN i ks) a none :: keepE ks (i + 1) r
def hidS (s s' : St) : St := { nx := cond (Nat.ble s.nx s'.nx) s'.nx s.nx, cs := s.cs }
def hidF (s : St) (r : Fl) : Fl := Fl.rec (motive := fun _ => Fl) (fun e s' => .nx e (hidS s s')) (fun d s' => .rt d (hidS s s')) (fun e s' => .bk e (hidS s s')) (fun c p e s' => .exc c p e (hidS s s')) (fun n => .bad n) r
def xHid (ks : List Nat) (f : ExT) (e : Env) (s : St) : Fl := hidF s (f (keepE ks 0 e) { nx := s.nx, cs := [] })

/-! ### defs -/
def padE (n : Nat) (as : List D) : Env := as.map some ++ List.replicate (n - as.length) none
/-- the cells that stood at the entry -/
def keepC (n : Nat) : List (Nat × Ob) → List (Nat × Ob)
  | [] => []
  | c :: r => cond (Nat.blt c.1 n) (c :: r) (keepC n r)
structure Fd where
  ps : Nat
  n : Nat
  pure : Bool
  /-- how many cells are counted as made by a call, at least -/
  bud : Nat
  /-- the cells that stand are hidden meanwhile -/
  iso : Bool
  /-- where neither arguments nor the answer name a cell: as if no cell stood -/
  zer : Bool
  body : Cl → ExT
  /-- what is known of some calls already (by the depth that they want) -/
  mem : Nat → List D → Option D
mutual
/-- names no cell -/
def nol : D → Bool
  | .loc _ => false
  | .tup ds => nols ds
  | .lst ds => nols ds
  | .tpn ds => nols ds
  | _ => true
def nols : List D → Bool
  | [] => true
  | d :: r => cond (nol d) (nols r) false
end
mutual
/-- the same term -/
def sqd : D → D → Bool
  | .non, e => match e with | .non => true | _ => false
  | .bl a, e => match e with | .bl b => beqb a b | _ => false
  | .int a, e => match e with | .int b => ieqb a b | _ => false
  | .str a, e => match e with | .str b => leqb a b | _ => false
  | .fn a, e => match e with | .fn b => Nat.beq a b | _ => false
  | .loc a, e => match e with | .loc b => Nat.beq a b | _ => false
  | .tup a, e => match e with | .tup b => sqds a b | _ => false
  | .lst a, e => match e with | .lst b => sqds a b | _ => false
  | .tpn a, e => match e with | .tpn b => sqds a b | _ => false
  | _, _ => false
def sqds : List D → List D → Bool
  | [], l => match l with | [] => true | _ => false
  | d :: r, l => match l with | e :: t => cond (sqd d e) (sqds r t) false | [] => false
end
/-- calls that are known: depth, arguments, answer -/
abbrev MemL := List (Nat × List D × D)
def lookM : MemL → Nat → List D → Option D
  | [], _, _ => none
  | e :: r, n, ds => cond (Nat.ble e.1 n && sqds e.2.1 ds) (some e.2.2) (lookM r n ds)
def selM : List (Nat × MemL) → Nat → MemL
  | [], _ => []
  | g :: r, f => cond (Nat.beq g.1 f) g.2 (selM r f)
def memP (P : Nat → Option Fd) (l : List (Nat × MemL)) (n : Nat) : Option Fd := obnd (P n) none fun fd => some { fd with mem := lookM (selM l n) }
def retZ (s : St) (r : Fl) : Rv := Fl.rec (motive := fun _ => Rv) (fun _ _ => .ok .non s) (fun d _ => cond (nol d) (.ok d s) (.bad 125)) (fun _ _ => .bad 120) (fun c p _ _ => cond (nols p) (.exc c p s) (.bad 125)) (fun n => .bad n) r
def finC (pu : Bool) (bud n0 : Nat) (s : St) : St := cond pu (cond (Nat.beq bud 0) { nx := s.nx, cs := keepC n0 s.cs } { nx := cond (Nat.ble (n0 + bud) s.nx) s.nx (n0 + bud), cs := keepC n0 s.cs }) s
def retF (pu : Bool) (bud n0 : Nat) (r : Fl) : Rv := Fl.rec (motive := fun _ => Rv) (fun _ s => .ok .non (finC pu bud n0 s)) (fun d s => .ok d (finC pu bud n0 s)) (fun _ _ => .bad 120) (fun c p _ s => .exc c p (finC pu bud n0 s)) (fun n => .bad n) r
def finI (bud : Nat) (s s' : St) : St := { nx := cond (Nat.ble (s.nx + bud) s'.nx) s'.nx (s.nx + bud), cs := s.cs }
def retI (bud : Nat) (s : St) (r : Fl) : Rv := Fl.rec (motive := fun _ => Rv) (fun _ s' => .ok .non (finI bud s s')) (fun d s' => .ok d (finI bud s s')) (fun _ _ => .bad 120) (fun c p _ s' => .exc c p (finI bud s s')) (fun n => .bad n) r
def callF (fd : Fd) (cl : Cl) (ds : List D) (s : St) : Rv := cond (Nat.beq ds.length fd.ps) (cond (fd.zer && nols ds) (retZ s (fd.body cl (padE fd.n ds) { nx := 0, cs := [] })) (cond fd.iso (retI fd.bud s (fd.body cl (padE fd.n ds) { nx := s.nx, cs := [] })) (retF fd.pure fd.bud s.nx (fd.body cl (padE fd.n ds) s)))) (.bad 121)
def callN (P : Nat → Option Fd) (n : Nat) : Cl := Nat.rec (motive := fun _ => Cl) (fun _ _ _ => .bad 122) (fun k ih f ds s => obnd (P f) (.bad 123) fun fd => obnd (fd.mem k ds) (callF fd ih ds s) fun d => .ok d s) n
end Mv
end
end

section
set_option Elab.async false
set_option linter.all false
set_option autoImplicit false
set_option maxRecDepth 100000
set_option maxHeartbeats 4000000
/-! Srt: sorted of a list or a tuple. -/
namespace Mv.SQ
open PySem PySem.Calls PyProof.Rows PySem.W
section
variable {prog : Program} {w : World} {A : Around} {E : Value → Shared → Prop} {s : Shared}
/-- what a list or tuple at l holds -/
def Holds (h : Heap) (l : Addr) (vs : List Value) : Prop := h.IsList l vs.toArray ∨ IsTup h l vs.toArray
theorem collect_tup {l : Addr} {vs : List Value} {Q : List Value → Shared → Prop} (hl : IsTup s.heap l vs.toArray)
    (h : Q vs { s with heap := (s.heap.push (seqObj "list" #[] 0)).update s.heap.objs.size (Obj.mapSeq (· ++ vs.toArray)) }) (hsz : vs.length ≤ sizeLine := by size_fits) :
    wpAny (model prog w) A (collect (.ref l)) Q E s := by
  obtain ⟨o, ho, hc, n, hd⟩ := id hl
  unfold collect
  refine wpAny_bind (wpAny_runValue (codeAny_builtin entry_proto_collect' ?_))
  show wpAny _ _ (do again (.builtin "list.__iadd__" ⟨[← newList [], .ref l], []⟩)) _ _ s
  refine wpAny_bind (wpAny_newList (wpAny_pure ⟨Code.quiet_builtin _ (by decide +kernel), codeAny_builtin entry_list_iadd' ?_⟩))
  show wpAny _ _ (Builtin.List.listExtendWith (.ref s.heap.objs.size) (.ref l) (.ref s.heap.objs.size)) _ _ { s with heap := s.heap.push (seqObj "list" #[] 0) }
  unfold Builtin.List.listExtendWith
  have ho' : (s.heap.push (seqObj "list" #[] 0)).get? l = some o := Heap.get?_push_of_some _ ho
  refine wpAny_bind (wpAny_typeOf (T := "tuple") ⟨o, ho', hc⟩ ?_)
  have ht : (Value.type "tuple" == Value.type "list") = false := by decide
  have ht2 : (Value.type "tuple" == Value.type "tuple") = true := by rfl
  rw [if_pos (by rw [ht, ht2]; simp)]
  refine wpAny_bind (listItems_at ho' hd ?_)
  refine wpAny_bind (listItems_at (xs := #[]) (n := 0) (Heap.get?_push_size _ rfl) rfl ?_)
  rw [if_neg (by simp)]
  refine wpAny_bind (listUpdate_at (xs := #[]) (n := 0) (Heap.get?_push_size _ rfl) rfl ?_ (Nat.zero_le _) (by show (#[] ++ vs.toArray).size ≤ sizeLine + 1; simp only [Array.size_append, List.size_toArray, List.length_nil]; omega))
  refine wpAny_pure ?_
  show wpAny (model prog w) A (do
      let o ← load s.heap.objs.size
      match o.data with
      | .seq xs _ => pure xs.toList
      | _ => unsupported "internal:collect") Q E { s with heap := (s.heap.push (seqObj "list" #[] 0)).update s.heap.objs.size (Obj.mapSeq (· ++ vs.toArray)) }
  refine wpAny_bind (wpAny_load (get?_update_seq (Heap.get?_push_size _ rfl) _) ?_)
  show wpAny _ _ (pure ((#[] : Array Value) ++ vs.toArray).toList) Q E _
  rw [show ((#[] : Array Value) ++ vs.toArray).toList = vs by simp]
  exact wpAny_pure h
theorem collect_seq {l : Addr} {vs : List Value} {Q : List Value → Shared → Prop} (hl : Holds s.heap l vs)
    (h : Q vs { s with heap := (s.heap.push (seqObj "list" #[] 0)).update s.heap.objs.size (Obj.mapSeq (· ++ vs.toArray)) }) (hsz : vs.length ≤ sizeLine) :
    wpAny (model prog w) A (collect (.ref l)) Q E s := by
  rcases hl with hl | hl
  · exact collect_list hl h hsz
  · exact collect_tup hl h hsz
/-- sorted(xs, ..) is list.sort(..) on a new list of xs's items -/
theorem sorted_of_sort {l : Addr} {vs : List Value} {kw : List (Str × Value)} {Q : Value → Shared → Prop} (hl : Holds s.heap l vs) (hL : vs.length ≤ sizeLine) (ha1 : argsOk "sorted" ⟨[.ref l], kw⟩) (ha2 : ∀ x, argsOk "list.sort" ⟨[.ref x], kw⟩)
    (body : ∀ E' : Value → Shared → Prop, wpAny (model prog w) A.in1.in1 (Builtin.«list.sort» ⟨[.ref (s.heap.objs.size + 1)], kw⟩) (fun f s' => f = .done (.ret .none) ∧ Q (.ref (s.heap.objs.size + 1)) s') E' { s with heap := copyHeap s.heap vs }) :
    wpAny (model prog w) A (call (.builtin "sorted") [.ref l] kw) Q E s := by
  refine call_function_entry_kw kind_sorted plain_sorted entry_sorted ha1 ?_
  unfold Builtin.«sorted»
  refine wpAny_bind (m := checkCount "sorted" 1 1 _) (wpAny_pure ?_)
  refine wpAny_bind (collect_seq hl ?_ hL)
  refine wpAny_bind (wpAny_newList ?_ hL)
  have hsz : ((s.heap.push (seqObj "list" #[] 0)).update s.heap.objs.size (Obj.mapSeq (· ++ vs.toArray))).objs.size = s.heap.objs.size + 1 := by
    rw [Heap.size_update, size_push']
  show wpAny _ _ _ _ _ { s with heap := copyHeap s.heap vs }
  rw [hsz]
  refine wpAny_bind (wpAny_holding (wpAny_call_entry_kw slot_list_sort ⟨_, copyHeap_at s.heap vs, rfl⟩ entry_list_sort ?body (ha2 _)))
  case body =>
    show wpAny (model prog w) A.in1.in1 (Builtin.«list.sort» ⟨[.ref (s.heap.objs.size + 1)], kw⟩) _ _ _
    refine wpAny_mono (body _) (fun f s' hf => ?_) fun _ _ e => e
    obtain ⟨rfl, hq⟩ := hf
    exact ⟨_, rfl, wpAny_pure ⟨_, rfl, hq⟩⟩
variable {β : Type} {vs : List Value} {bs : List β} {enc : β → PyData} {R : Value → β → Prop}
theorem short_perm {out vs : List Value} (h : out.Perm vs) (hl : vs.length ≤ 1) : out = vs := by
  cases vs with
  | nil => exact h.eq_nil
  | cons a r =>
    cases r with
    | nil => exact List.perm_singleton.mp h
    | cons b t => simp at hl
theorem short_sort {β : Type} (le : β → β → Bool) {bs : List β} (hl : bs.length ≤ 1) : bs.mergeSort le = bs := by
  cases bs with
  | nil => exact List.mergeSort_nil
  | cons a r =>
    cases r with
    | nil => exact List.mergeSort_singleton a
    | cons b t => simp at hl
/-- sorted(xs) -/
theorem sorted_data {l : Addr} {Q : Value → Shared → Prop} (hl : Holds s.heap l vs) (e : EachIs R vs bs) (er : EachIs (fun v b => ∃ as, Reads s.heap v (enc b) as) vs bs) (hal : AllAlike (bs.map enc)) (hk : Sortable (bs.map enc) ∨ bs.length ≤ 1) (hL : bs.length ≤ sizeLine)
    (hu : ∀ b, b ∈ bs → A.units + 2 + (enc b).depth < cLine) (h : ∀ out, out.length = bs.length → EachIs R out (bs.mergeSort (dataLe false enc)) → Q (.ref (s.heap.objs.size + 1)) { s with heap := sortedAll s.heap vs (List.toArray out) }) :
    wpAny (model prog w) A (call (.builtin "sorted") [.ref l]) Q E s := by
  rcases hk with hk | hk
  rotate_left
  · have hL1 : vs.length ≤ sizeLine := by rw [e.length]; exact hL
    refine sorted_of_sort hl hL1 (args_sorted1 _) (fun _ => args_list_sort _) fun _ => _root_.Srt.list_sort_any (s := { s with heap := copyHeap s.heap vs }) (copyHeap_at s.heap vs) hL1 (fun z => by have := e.length; omega) fun out hp => ⟨rfl, ?_⟩
    have eo := short_perm hp (by rw [e.length]; exact hk)
    subst eo
    exact h out e.length (by rw [short_sort _ hk]; exact e)
  have er' : EachIs (fun v b => ∃ as, Reads (sortingHeap (copyHeap s.heap vs) (s.heap.objs.size + 1) vs) v (enc b) as) vs bs := er.mono fun _ _ ⟨as, r⟩ => ⟨as, PyProof.Rows.Reads.keeps (fun _ _ => sorting_copy_old) r⟩
  have S := SortsAt.data (prog := prog) (w := w) (A := A.in1.in1) (s := { s with heap := sortingHeap (copyHeap s.heap vs) (s.heap.objs.size + 1) vs }) (each_map (R := fun v d => ∃ as, Reads (sortingHeap (copyHeap s.heap vs) (s.heap.objs.size + 1) vs) v d as) enc er') hal hk (bound_map (A := A.in1.in1) hu)
  have hL' : vs.length ≤ sizeLine := by rw [e.length]; exact hL
  exact sorted_of_sort hl hL' (args_sorted1 _) (fun _ => args_list_sort _) fun _ => list_sort_vals (s := { s with heap := copyHeap s.heap vs }) (copyHeap_at s.heap vs) S hL' ⟨rfl, h _ (by rw [sortVals_length false rfl]; exact e.length) (sortVals_data false e er' hal)⟩
/-- sorted(xs, key=f) -/
theorem sorted_key_data {l : Addr} {f : Value} {kw : List (Str × Value)} {b : Bool} {Q : Value → Shared → Prop} (k : β → PyData) (hl : Holds s.heap l vs) (e : EachIs R vs bs) (hal : AllAlike (bs.map k)) (hk : Sortable (bs.map k)) (hL : bs.length ≤ sizeLine)
    (hu : ∀ x, x ∈ bs → A.units + 2 + (k x).depth < cLine) (ha1 : argsOk "sorted" ⟨[.ref l], kw⟩) (ha2 : ∀ x, argsOk "list.sort" ⟨[.ref x], kw⟩) (ht : ∀ x, Builtin.«list.sort» ⟨[.ref x], kw⟩ = ksk_tree x f b)
    (turn : ∀ (v : Value) (x : β), R v x → x ∈ bs → ∀ (h : Heap) (tk : Nat), (∀ b o, s.heap.get? b = some o → h.get? b = some o) →
      wpAny (model prog w) A.in1.in1 (call f [v]) (KeyPure (k x) { s with heap := h, toks := tk }) (fun _ _ => False) { s with heap := h, toks := tk })
    (h : ∀ out c h' tk, (∀ b o, s.heap.get? b = some o → h'.get? b = some o) → s.heap.get? (s.heap.objs.size + 1) = none → h'.get? (s.heap.objs.size + 1) = some (seqObj "list" (List.toArray out) c) → out.length = bs.length → EachIs R out (bs.mergeSort (dataLe b k)) →
      Q (.ref (s.heap.objs.size + 1)) { s with heap := h', toks := tk }) :
    wpAny (model prog w) A (call (.builtin "sorted") [.ref l] kw) Q E s := by
  have fresh : s.heap.get? (s.heap.objs.size + 1) = none := Heap.get?_none_of_le (Nat.le_succ _)
  have up : ∀ {g : Heap}, KeepsBut (s.heap.objs.size + 1) (copyHeap s.heap vs) g → ∀ b o, s.heap.get? b = some o → g.get? b = some o := fun {g} kp b o q =>
    kp b o (Nat.ne_of_lt (Nat.lt_succ_of_lt (Heap.lt_size q))) (copyHeap_old q)
  refine sorted_of_sort hl (by rw [e.length]; exact hL) ha1 ha2 fun E' => ?_
  rw [ht]
  refine keyH_tree (kz := bs.map k) (s := { s with heap := copyHeap s.heap vs }) (copyHeap_at s.heap vs) (by rw [List.length_map]; exact e.length.symm) (by rw [e.length]; exact hL) hal hk (bound_map (A := A.in1.in1) hu)
    (keyH_turns (s := { s with heap := copyHeap s.heap vs }) e fun v x hR hx h tk kp => turn v x hR hx h tk (up kp)) fun h' tk out c kp hD ko => ⟨rfl, ?_⟩
  exact h out c h' tk (up kp) fresh hD ((ko.length (by rw [List.length_map]; exact e.length.symm)).trans e.length) (keyedOut_each k ko e)
end
section
variable {prog : Program} {w : World} {A : Around} {E : Value → Shared → Prop} {s : Shared} {T : String} {r d : Addr} {n : Nat} {P : Nat → Value → Prop} {OK : Heap → Prop}
theorem code_collect {R : Result → Shared → Prop} (K : KdlSrc prog w T r d n P OK) (hh : A.handled = none) (hok : OK s.heap) (hn : n ≤ sizeLine)
    (hR : ∀ h' tk acc' c', (∀ b o, s.heap.get? b = some o → h'.get? b = some o) → h'.get? s.heap.objs.size = some { cls := .type "list", dict := none, data := .seq acc' c', slots := #[] } → ItemsOf P acc' n → R (.ok (.ret (.ref s.heap.objs.size))) { s with heap := h', toks := tk }) :
    codeAny (model prog w) A (.builtin "proto.collect" ⟨[.ref r], []⟩) R s := by
  refine codeAny_builtin F.entry_proto_collect ?_
  rw [Around.under_plainId F.plain_proto_collect _]
  show wpAny _ A.in1 (newList [] >>= fun l => again (.builtin "list.__iadd__" ⟨[l, .ref r], []⟩)) _ _ s
  refine wpAny_bind (wpAny_newObj_type ?_)
  refine wpAny_pure ⟨plainId_quiet F.plain_list_iadd _, codeAny_builtin F.entry_list_iadd ?_⟩
  rw [Around.under_plainId F.plain_list_iadd _]
  have hlt := K.there _ hok
  have hS : (s.heap.push { cls := .type "list", data := .seq ([] : List Value).toArray }).get? s.heap.objs.size = some { cls := .type "list", data := .seq #[] } := Heap.get?_push_size _ rfl
  show wpAny _ A.in1 (Builtin.List.listExtendWith (.ref s.heap.objs.size) (.ref r) (.ref s.heap.objs.size)) _ _ { s with heap := s.heap.push { cls := .type "list", data := .seq ([] : List Value).toArray } }
  exact kdl_extend (s := { s with heap := s.heap.push { cls := .type "list", data := .seq ([] : List Value).toArray } }) (A := A) K hh (K.keep _ _ hok fun b _ o e => Heap.get?_push_of_some _ e) s.heap.objs.size (Nat.ne_of_gt hlt.1) (Nat.ne_of_gt hlt.2) (.ref s.heap.objs.size) 0 hS
    (fun h' tk acc' c' hk hS' hacc => hR h' tk acc' c' (fun b o e => hk b o (Nat.ne_of_lt (Heap.lt_size e)) (Heap.get?_push_of_some _ e)) hS' hacc) hn
/-- a dict's keys and the like, gathered -/
theorem collect_src (K : KdlSrc prog w T r d n P OK) (hh : A.handled = none) (hok : OK s.heap) (hn : n ≤ sizeLine) {Q : List Value → Shared → Prop}
    (h : ∀ h' tk vs, (∀ b o, s.heap.get? b = some o → h'.get? b = some o) → s.heap.objs.size ≤ h'.objs.size → vs.length = n → (∀ j v, vs[j]? = some v → P j v) → Q vs { s with heap := h', toks := tk }) : wpAny (model prog w) A (collect (.ref r)) Q E s := by
  unfold collect
  refine wpAny_bind (wpAny_runValue (code_collect K hh hok hn fun h' tk acc' c' hk hS' hacc => ?_))
  show wpAny (model prog w) A (do
      let o ← load s.heap.objs.size
      match o.data with
      | .seq xs _ => pure xs.toList
      | _ => unsupported "internal:collect") Q E { s with heap := h', toks := tk }
  refine wpAny_bind (wpAny_load hS' ?_)
  show wpAny _ _ (pure acc'.toList) Q E _
  exact wpAny_pure (h _ _ _ hk (Nat.le_of_lt (Heap.lt_size hS')) (by rw [Array.length_toList]; exact hacc.1) fun j v e => hacc.2 j v (by rw [← Array.getElem?_toList]; exact e))
/-- sorted of what can be gathered -/
theorem sorted_src {β : Type} {bs : List β} {enc : β → PyData} {R : Value → β → Prop} (K : KdlSrc prog w T r d n P OK) (hh : A.handled = none) (hok : OK s.heap) {Q : Value → Shared → Prop} (hn : n = bs.length) (hL : bs.length ≤ sizeLine)
    (e : ∀ vs : List Value, vs.length = n → (∀ j v, vs[j]? = some v → P j v) → EachIs R vs bs ∧ EachIs (fun v b => ∃ as, Reads s.heap v (enc b) as) vs bs) (hal : AllAlike (bs.map enc)) (hk : Sortable (bs.map enc) ∨ bs.length ≤ 1) (hu : ∀ b, b ∈ bs → A.units + 2 + (enc b).depth < cLine)
    (h : ∀ a h' tk out c, (∀ b o, s.heap.get? b = some o → h'.get? b = some o) → s.heap.objs.size ≤ a → h'.get? a = some (seqObj "list" (List.toArray out) c) → out.length = bs.length → EachIs R out (bs.mergeSort (dataLe false enc)) → Q (.ref a) { s with heap := h', toks := tk }) :
    wpAny (model prog w) A (call (.builtin "sorted") [.ref r]) Q E s := by
  refine call_function_entry_kw (kw := []) kind_sorted plain_sorted entry_sorted (args_sorted1 _) ?_
  unfold Builtin.«sorted»
  refine wpAny_bind (m := checkCount "sorted" 1 1 _) (wpAny_pure ?_)
  refine wpAny_bind (collect_src (A := A.in1) K hh hok (by omega) fun h1 tk vs kp hge hvn hvP => ?_)
  obtain ⟨e1, e2⟩ := e vs hvn hvP
  have hL' : vs.length ≤ sizeLine := by omega
  refine wpAny_bind (wpAny_newList ?_ hL')
  have ho : (h1.push (seqObj "list" vs.toArray 0)).get? h1.objs.size = some (seqObj "list" vs.toArray 0) := Heap.get?_push_size _ rfl
  refine wpAny_bind (wpAny_holding (wpAny_call_entry_kw slot_list_sort ⟨_, ho, rfl⟩ entry_list_sort ?body (args_list_sort _)))
  case body =>
    have old : ∀ b o, s.heap.get? b = some o → (sortingHeap (h1.push (seqObj "list" vs.toArray 0)) h1.objs.size vs).get? b = some o := fun b o q =>
      sortingHeap_old (Nat.ne_of_lt (Heap.lt_size (kp b o q))) (Heap.get?_push_of_some _ (kp b o q))
    have er' : EachIs (fun v b => ∃ as, Reads (sortingHeap (h1.push (seqObj "list" vs.toArray 0)) h1.objs.size vs) v (enc b) as) vs bs := e2.mono fun _ _ ⟨as, r⟩ => ⟨as, PyProof.Rows.Reads.keeps old r⟩
    show wpAny (model prog w) A.in1.in1 (Builtin.«list.sort» ⟨[.ref h1.objs.size], []⟩) _ _ { s with heap := h1.push (seqObj "list" vs.toArray 0), toks := tk }
    rcases hk with hk | hk
    rotate_left
    · refine _root_.Srt.list_sort_any (s := { s with heap := h1.push (seqObj "list" vs.toArray 0), toks := tk }) ho hL' (fun z => by omega) fun out hp => ⟨_, rfl, wpAny_pure ⟨_, rfl, ?_⟩⟩
      have eo := short_perm hp (by omega)
      subst eo
      obtain ⟨ep, he'⟩ := PyProof.Rows.sortedHeap_at (vs := out) (out := out.toArray) ho
      refine h h1.objs.size _ tk out ep (fun b o q => ?_) hge he' e1.length (by rw [short_sort _ hk]; exact e1)
      rw [PyProof.Rows.sortedHeap_old (Nat.ne_of_lt (Heap.lt_size (kp b o q))) (by rw [size_push']; exact Nat.lt_succ_of_lt (Heap.lt_size (kp b o q)))]
      exact Heap.get?_push_of_some _ (kp b o q)
    have S := SortsAt.data (prog := prog) (w := w) (A := A.in1.in1) (s := { s with heap := sortingHeap (h1.push (seqObj "list" vs.toArray 0)) h1.objs.size vs, toks := tk }) (each_map (R := fun v d => ∃ as, Reads (sortingHeap (h1.push (seqObj "list" vs.toArray 0)) h1.objs.size vs) v d as) enc er') hal hk (bound_map (A := A.in1.in1) hu)
    show wpAny (model prog w) A.in1.in1 (Builtin.«list.sort» ⟨[.ref h1.objs.size], []⟩) _ _ { s with heap := h1.push (seqObj "list" vs.toArray 0), toks := tk }
    refine list_sort_vals (s := { s with heap := h1.push (seqObj "list" vs.toArray 0), toks := tk }) ho S hL' ⟨_, rfl, wpAny_pure ⟨_, rfl, ?_⟩⟩
    obtain ⟨ep, he'⟩ := PyProof.Rows.sortedHeap_at (vs := vs) (out := (sortVals (dataKind (sortingHeap (h1.push (seqObj "list" vs.toArray 0)) h1.objs.size vs) (bs.map enc)) false vs vs).toArray) ho
    refine h h1.objs.size _ tk _ ep (fun b o q => ?_) ?_ he' (by rw [sortVals_length false rfl]; exact e1.length) (sortVals_data false e1 er' hal)
    · rw [PyProof.Rows.sortedHeap_old (Nat.ne_of_lt (Heap.lt_size (kp b o q))) (by rw [size_push']; exact Nat.lt_succ_of_lt (Heap.lt_size (kp b o q)))]
      exact Heap.get?_push_of_some _ (kp b o q)
    · exact hge
end
/-! ### the order told by a kernel's own sorting -/
section
variable {α : Type} (le : α → α → Bool)
theorem mrgL_eq : ∀ (n : Nat) (xs ys : List α), xs.length + ys.length ≤ n → mrgL le n xs ys = List.merge xs ys le
  | 0, [], ys, _ => by rw [List.nil_merge]; rfl
  | 0, x :: xs, ys, h => by simp at h
  | n + 1, [], ys, _ => by rw [List.nil_merge]; rfl
  | n + 1, x :: xs, [], _ => by rw [List.merge_right]; rfl
  | n + 1, x :: xs, y :: ys, h => by
    rw [List.cons_merge_cons]
    simp only [List.length_cons] at h
    show cond (le x y) (x :: mrgL le n xs (y :: ys)) (y :: mrgL le n (x :: xs) ys) = _
    rw [mrgL_eq n xs (y :: ys) (by simp only [List.length_cons]; omega), mrgL_eq n (x :: xs) ys (by simp only [List.length_cons]; omega)]
    cases le x y <;> simp
theorem msrt_len : ∀ (n : Nat) (l : List α), l.length ≤ n → msrt le n l = l.mergeSort le
  | 0, [], _ => by rw [List.mergeSort_nil]; rfl
  | 0, _ :: _, h => by simp at h
  | n + 1, [], _ => by rw [List.mergeSort_nil]; rfl
  | n + 1, [a], _ => by rw [List.mergeSort_singleton]; rfl
  | n + 1, a :: b :: r, h => by
    have hl : (a :: b :: r).length = r.length + 2 := by simp
    show mrgL le (a :: b :: r).length (msrt le n ((a :: b :: r).take (((a :: b :: r).length + 1) / 2))) (msrt le n ((a :: b :: r).drop (((a :: b :: r).length + 1) / 2))) = _
    have h1 : ((a :: b :: r).take (((a :: b :: r).length + 1) / 2)).length ≤ n := by rw [List.length_take]; omega
    have h2 : ((a :: b :: r).drop (((a :: b :: r).length + 1) / 2)).length ≤ n := by rw [List.length_drop]; omega
    rw [msrt_len n _ h1, msrt_len n _ h2, mrgL_eq le _ _ _ (by rw [List.length_mergeSort, List.length_mergeSort, List.length_take, List.length_drop]; omega)]
    conv => rhs; unfold List.mergeSort
    simp only [List.MergeSort.Internal.splitInTwo_fst, List.MergeSort.Internal.splitInTwo_snd]
end
end Mv.SQ
end

section
set_option maxRecDepth 100000
set_option linter.all false
noncomputable section
namespace Mv
inductive Ex where
  | var (i : Nat) | con (d : D) | o1 (o : Op1) (a : Ex) | o2 (o : Op2) (a b : Ex) | on (o : Opn) (es : List Ex)
  | ife (c a b : Ex) | and (a b : Ex) | or (a b : Ex) | ch2 (o p : COp) (a b c : Ex) | ch3 (o p q : COp) (a b c d : Ex)
  | lc (m : Bool) (vs : List Nat) (t : Tg) (k : Wk) (es : List Ex) (c a : Ex) | lc2 (m : Bool) (vs0 : List Nat) (t0 : Tg) (k0 : Wk) (es0 : List Ex) (vs : List Nat) (t : Tg) (k : Wk) (es : List Ex) (c a : Ex)
  | call (f : Nat) (es : List Ex) | callk (f : Nat) (p : List Nat) (es : List Ex) | callv (a : Ex) (es : List Ex) | fld (k i : Nat) | isx (i k : Nat) | slp (i : Nat)
mutual
inductive Sm where
  | exp (e : Ex) | asg (t : Tg) (e : Ex) | set (o i e : Ex) | set2 (o i p j e : Ex) | set3 (o i p j : Ex) (t : Tg) (e : Ex) | ret (e : Ex) | ife (c : Ex) (a b : List Sm) | for_ (t : Tg) (k : Wk) (es : List Ex) (b : List Sm) | whl (c : Ex) (b : List Sm)
  | pas | brk | rse (c : Nat) (es : List Ex) | try_ (b : List Sm) (hs : Hs) | hid (ks : List Nat) (a : Sm)
inductive Hs where
  | nil | cons (k : Nat) (i : Option Nat) (b : List Sm) (r : Hs)
end
def eCh2 (o p : COp) (a b c : EvT) : EvT := eChn a (chC o b (chE p c))
def eCh3 (o p q : COp) (a b c d : EvT) : EvT := eChn a (chC o b (chC p c (chE q d)))
/-! ### what a term does -/
section
variable (cb : Nat → Nat) (cl : Cl)
def den : Ex → EvT := Ex.rec (motive_1 := fun _ => EvT) (motive_2 := fun _ => EsT) eVar eCon (fun o _ r => e1 o r) (fun o _ _ r q => e2 cb o r q) (fun o _ r => en o r)
  (fun _ _ _ r q u => eIf r q u) (fun _ _ r q => eAnd r q) (fun _ _ r q => eOr r q) (fun o p _ _ _ r q u => eCh2 o p r q u) (fun o p q _ _ _ _ r u v w => eCh3 o p q r u v w)
  (fun m vs t k _ _ _ r q u => eLc m vs t k r q u) (fun m vs0 t0 k0 _ vs t k _ _ _ r q u v => eLc2 m vs0 t0 k0 r vs t k q u v)
  (fun f _ r => eCall cl f r) (fun f p _ r => eCallK cl f p r) (fun _ _ r q => eCallV cl r q) (fun k i => eFld k i) (fun i k => eIsx cb i k) (fun i => eSlp cb i)
  esN (fun _ _ r q => esC r q)
def dens : List Ex → EsT := List.rec (motive := fun _ => EsT) esN (fun a _ q => esC (den cb cl a) q)
def denS : Sm → ExT := Sm.rec (motive_1 := fun _ => ExT) (motive_2 := fun _ => Hd) (motive_3 := fun _ => ExT)
  (fun e => xExp (den cb cl e)) (fun t e => xAsg t (den cb cl e)) (fun o i e => xSet (den cb cl o) (den cb cl i) (den cb cl e)) (fun o i p j e => xSet2 (den cb cl o) (den cb cl i) (den cb cl p) (den cb cl j) (den cb cl e)) (fun o i p j t e => xSet3 (den cb cl o) (den cb cl i) (den cb cl p) (den cb cl j) t (den cb cl e)) (fun e => xRet (den cb cl e)) (fun c _ _ r q => xIf (den cb cl c) r q)
  (fun t k es _ r => xFor t k (dens cb cl es) r) (fun c _ r => xWhl (den cb cl c) r) xPas xBrk (fun c es => xRse c (dens cb cl es)) (fun _ _ r q => xTry r q) (fun ks _ r => xHid ks r)
  hN (fun k i _ _ r q => hC cb k i r q) xPas (fun _ _ r q => xSeq r q)
def denB : List Sm → ExT := List.rec (motive := fun _ => ExT) xPas (fun a _ q => xSeq (denS cb cl a) q)
end
def denr (cb : Nat → Nat) (cl : Cl) : List Ex → EsT := Ex.rec_1 (motive_1 := fun _ => EvT) (motive_2 := fun _ => EsT) eVar eCon (fun o _ r => e1 o r) (fun o _ _ r q => e2 cb o r q) (fun o _ r => en o r)
  (fun _ _ _ r q u => eIf r q u) (fun _ _ r q => eAnd r q) (fun _ _ r q => eOr r q) (fun o p _ _ _ r q u => eCh2 o p r q u) (fun o p q _ _ _ _ r u v w => eCh3 o p q r u v w)
  (fun m vs t k _ _ _ r q u => eLc m vs t k r q u) (fun m vs0 t0 k0 _ vs t k _ _ _ r q u v => eLc2 m vs0 t0 k0 r vs t k q u v)
  (fun f _ r => eCall cl f r) (fun f p _ r => eCallK cl f p r) (fun _ _ r q => eCallV cl r q) (fun k i => eFld k i) (fun i k => eIsx cb i k) (fun i => eSlp cb i)
  esN (fun _ _ r q => esC r q)
theorem dens_rec (cb : Nat → Nat) (cl : Cl) : ∀ es : List Ex, denr cb cl es = dens cb cl es
  | [] => rfl
  | a :: r => by show esC (den cb cl a) (denr cb cl r) = esC (den cb cl a) (dens cb cl r); rw [dens_rec cb cl r]
def denBr (cb : Nat → Nat) (cl : Cl) : List Sm → ExT := Sm.rec_1 (motive_1 := fun _ => ExT) (motive_2 := fun _ => Hd) (motive_3 := fun _ => ExT)
  (fun e => xExp (den cb cl e)) (fun t e => xAsg t (den cb cl e)) (fun o i e => xSet (den cb cl o) (den cb cl i) (den cb cl e)) (fun o i p j e => xSet2 (den cb cl o) (den cb cl i) (den cb cl p) (den cb cl j) (den cb cl e)) (fun o i p j t e => xSet3 (den cb cl o) (den cb cl i) (den cb cl p) (den cb cl j) t (den cb cl e)) (fun e => xRet (den cb cl e)) (fun c _ _ r q => xIf (den cb cl c) r q)
  (fun t k es _ r => xFor t k (dens cb cl es) r) (fun c _ r => xWhl (den cb cl c) r) xPas xBrk (fun c es => xRse c (dens cb cl es)) (fun _ _ r q => xTry r q) (fun ks _ r => xHid ks r)
  hN (fun k i _ _ r q => hC cb k i r q) xPas (fun _ _ r q => xSeq r q)
theorem denBr_eq (cb : Nat → Nat) (cl : Cl) : ∀ l : List Sm, denBr cb cl l = denB cb cl l
  | [] => rfl
  | a :: r => by show xSeq (denS cb cl a) (denBr cb cl r) = xSeq (denS cb cl a) (denB cb cl r); rw [denBr_eq cb cl r]
inductive Tr where | nil | node (v : Option Fd) (l r : Tr)
/-- 0 at the node; odd n left at n / 2, even n right at n / 2 - 1 -/
def Tr.at : Tr → Nat → Nat → Option Fd
  | .nil, _, _ => none
  | .node v l r, k, n => match k with
    | 0 => none
    | k + 1 => cond (Nat.beq n 0) v (cond (Nat.beq (n % 2) 1) (Tr.at l k (n / 2)) (Tr.at r k (n / 2 - 1)))
end Mv
end
end

section
set_option Elab.async false
set_option linter.all false
set_option maxRecDepth 100000
set_option maxHeartbeats 4000000
/-! DctK: dicts whose keys are tuples of any depth: what the hand layer needs of them. -/
namespace Mv
open PySem PySem.Spec PyProof.Rows L2
abbrev NK := NestedKey
abbrev NRow := NK × Addr × V
abbrev NRaw := NK × Addr × Value
def entsN (w : World) (ys : List NRaw) : List DictEntry := ys.map fun x => ⟨x.1.hash w, .ref x.2.1, x.2.2⟩
abbrev DRel : List NRow → List NRaw → Prop := Paired fun x y => x.1 = y.1 ∧ x.2.1 = y.2.1 ∧ RelV x.2.2 y.2.2
def DctP (w : World) (a : Addr) (xs : List NRow) (h : Heap) : Prop := xs.length ≤ sizeLine ∧ (a == sysModules) = false ∧ ∃ ys, DRel xs ys ∧ ∃ o es ep, h.get? a = some o ∧ o.ExactDict ∧ o.data = .dict es ep ∧ es.toList = entsN w ys ∧ (ys.map (·.1)).Nodup
/-- the dict at a -/
def DctO (w : World) (a : Addr) (xs : List NRow) : HO := .ext (DctP w a xs)
def NKey (h : Heap) (k : NK) (b : Addr) : Prop := NestedIs h k (.ref b) ∧ k.depth ≤ 8
def valN (xs : List NRow) (k : NK) : Option V := (xs.find? fun x => decide (x.1 = k)).map (·.2.2)
def putN (xs : List NRow) (k : NK) (b : Addr) (v : V) : List NRow := if (valN xs k).isSome then xs.map (fun x => if x.1 = k then (x.1, x.2.1, v) else x) else xs ++ [(k, b, v)]
theorem DctP.at {w : World} {a : Addr} {xs : List NRow} {h h' : Heap} (x : DctP w a xs h) (k : ∀ o, h.get? a = some o → h'.get? a = some o) : DctP w a xs h' := by
  obtain ⟨z, y, ys, r, o, es, ep, h1, h2⟩ := x
  exact ⟨z, y, ys, r, o, es, ep, k o h1, h2⟩
theorem dct_obj {P : Program} {w : World} {H : Hp} {h : Heap} {a : Addr} {xs : List NRow} (x : DctP w a xs h) : ObjOk P w H h a (DctO w a xs) := by
  have ⟨z, y, ys, r, o, es, ep, h1, h2⟩ := x
  exact ⟨x, ⟨o, h1⟩, fun h1 h2 p k => p.at k⟩
theorem drel_val : ∀ {xs : List NRow} {ys : List NRaw}, DRel xs ys → ∀ k, (∀ v, valN xs k = some v → ∃ p, atKey ys k = some p ∧ RelV v p.2) ∧ (valN xs k = none → atKey ys k = none)
  | _, _, .nil, k => ⟨fun v h => by simp [valN] at h, fun _ => rfl⟩
  | _, _, .cons (a := x) (b := y) h t, k => by
    obtain ⟨i1, i2⟩ := drel_val t k
    obtain ⟨e1, e2, e3⟩ := h
    unfold valN atKey at *
    by_cases q : x.1 = k
    · have q' : y.1 = k := by rw [← e1]; exact q
      simp only [List.find?_cons, q, q', decide_true]
      exact ⟨fun v hv => by simp at hv; subst hv; exact ⟨y.2, rfl, e3⟩, fun hv => by simp at hv⟩
    · have q' : ¬ y.1 = k := by rw [← e1]; exact q
      simp only [List.find?_cons, q, q', decide_false]
      exact ⟨i1, i2⟩
theorem drel_put {xs : List NRow} {ys : List NRaw} (r : DRel xs ys) (k : NK) (b : Addr) {v : V} {u : Value} (rv : RelV v u) : DRel (putN xs k b v) (storedH ys k b u) := by
  have e : (valN xs k).isSome = (atKey ys k).isSome := by
    obtain ⟨i1, i2⟩ := drel_val r k
    cases q : valN xs k with
    | none => rw [i2 q]; rfl
    | some v => obtain ⟨p, hp, _⟩ := i1 v q; rw [hp]; rfl
  unfold putN storedH
  rw [e]
  by_cases q : (atKey ys k).isSome = true
  · rw [if_pos q, if_pos q]
    clear e q
    induction r with
    | nil => exact .nil
    | @cons x y xs ys h t ih =>
      refine .cons ?_ ih
      show ((if x.1 = k then (x.1, x.2.1, v) else x).1 = (putAt k u y).1 ∧ (if x.1 = k then (x.1, x.2.1, v) else x).2.1 = (putAt k u y).2.1 ∧ RelV (if x.1 = k then (x.1, x.2.1, v) else x).2.2 (putAt k u y).2.2)
      unfold putAt
      by_cases q : x.1 = k
      · rw [if_pos q, if_pos (by rw [← h.1]; exact q)]
        exact ⟨h.1, h.2.1, rv⟩
      · rw [if_neg q, if_neg (by rw [← h.1]; exact q)]
        exact h
  · rw [if_neg q, if_neg q]
    exact Paired.snoc r ⟨rfl, rfl, rv⟩
theorem drel_keys {xs : List NRow} {ks : List NRaw} (pr : DRel xs ks) : (xs.map fun x => V.ref x.2.1) = ((ks.map fun x => x.2.1).map V.ref) := by
  induction pr with
  | nil => rfl
  | cons h t ih => rw [List.map_cons, ih, h.2.1]; rfl
theorem putN_len (xs : List NRow) (k : NK) (b : Addr) (v : V) : (putN xs k b v).length ≤ xs.length + 1 := by
  unfold putN
  split
  · rw [List.length_map]; omega
  · rw [List.length_append]; exact Nat.le_refl _
section
variable {X : Cx} {pins : List (Addr × Obj)} {σ : L2.St} {H : Hp} {s : Shared} {a b : Addr} {xs : List NRow} {k : NK}
theorem dct_get (I : L2.Inv X pins σ H s) (e : H a = some (DctO X.w a xs)) : DctP X.w a xs s.heap := (I.hok a _ e).1
theorem dct_at (I : L2.Inv X pins σ H s) (e : H a = some (DctO X.w a xs)) (hk : ∀ x ∈ xs, NKey s.heap x.1 x.2.1) : xs.length ≤ sizeLine ∧ (a == sysModules) = false ∧ ∃ ys, DRel xs ys ∧ s.heap.DictOfH (nestedKind X.prog X.w) a ys := by
  obtain ⟨z, y, ys, r, o, es, ep, h1, h2, h3, h4, h5⟩ := dct_get I e
  refine ⟨z, y, ys, r, o, es, ep, h1, h2, h3, h4, fun q hq => ?_, h5⟩
  clear h4 h5 z e
  induction r with
  | nil => cases hq
  | @cons x y xs ys h t ih =>
    rcases List.mem_cons.mp hq with q1 | q1
    · subst q1
      have := hk x List.mem_cons_self
      rw [h.1, h.2.1] at this
      exact this
    · exact ih (fun z hz => hk z (List.mem_cons_of_mem _ hz)) q1
theorem in1_le (A : Around) : A.in1.units ≤ A.units + 1 := by first | exact Nat.le_refl _ | exact Nat.le_succ _ | (show _ ≤ _; simp [Around.in1]) | omega
theorem room8 {P : Program} {w : World} {A : Around} (hu : A.units + 20 < cLine) : (nestedKind P w).room A.in1 := by
  show A.in1.units + 8 < cLine
  have := in1_le A
  omega
/-- k in d -/
theorem dN_in {A : Around} {Q : Value → Shared → Prop} {E : Value → Shared → Prop} (hu : A.units + 100 < cLine) (I : L2.Inv X pins σ H s) (e : H a = some (DctO X.w a xs)) (hk : ∀ x ∈ xs, NKey s.heap x.1 x.2.1) (kb : NKey s.heap k b) (h : ∀ s', L2.Inv X pins σ H s' → Q (.bool (valN xs k).isSome) s') :
    wpAny (model X.prog X.w) A (compareOp .In (.ref b) (.ref a)) Q E s := by
  obtain ⟨z, y, ys, r, d⟩ := dct_at I e hk
  refine wpAny_in_heap (room8 (by omega)) kb y d ?_
  obtain ⟨i1, i2⟩ := drel_val r k
  have e : (valN xs k).isSome = (atKey ys k).isSome := by
    cases q : valN xs k with
    | none => rw [i2 q]; rfl
    | some v => obtain ⟨p, hp, _⟩ := i1 v q; rw [hp]; rfl
  rw [← e]
  exact h _ (I.tok _)
/-- k not in d -/
theorem dN_notIn {A : Around} {Q : Value → Shared → Prop} {E : Value → Shared → Prop} (hu : A.units + 100 < cLine) (I : L2.Inv X pins σ H s) (e : H a = some (DctO X.w a xs)) (hk : ∀ x ∈ xs, NKey s.heap x.1 x.2.1) (kb : NKey s.heap k b) (h : ∀ s', L2.Inv X pins σ H s' → Q (.bool (!(valN xs k).isSome)) s') :
    wpAny (model X.prog X.w) A (compareOp .NotIn (.ref b) (.ref a)) Q E s := by
  obtain ⟨z, y, ys, r, d⟩ := dct_at I e hk
  refine wpAny_notIn_heap (room8 (by omega)) kb y d ?_
  obtain ⟨i1, i2⟩ := drel_val r k
  have e : (valN xs k).isSome = (atKey ys k).isSome := by
    cases q : valN xs k with
    | none => rw [i2 q]; rfl
    | some v => obtain ⟨p, hp, _⟩ := i1 v q; rw [hp]; rfl
  rw [← e]
  exact h _ (I.tok _)
/-- d[k], there -/
theorem dN_getItem {A : Around} {v : V} {Q : Value → Shared → Prop} {E : Value → Shared → Prop} (hu : A.units + 100 < cLine) (I : L2.Inv X pins σ H s) (e : H a = some (DctO X.w a xs)) (hk : ∀ x ∈ xs, NKey s.heap x.1 x.2.1) (kb : NKey s.heap k b) (hv : valN xs k = some v) (h : ∀ u s', L2.Inv X pins σ H s' → RelV v u → Q u s') :
    wpAny (model X.prog X.w) A (getItem (.ref a) (.ref b)) Q E s := by
  obtain ⟨z, y, ys, r, d⟩ := dct_at I e hk
  obtain ⟨p, hp, rv⟩ := (drel_val r k).1 v hv
  exact wpAny_getItem_heap (room8 (by omega)) kb d hp (h _ _ (I.tok _) rv)
/-- d[k] = v -/
theorem dN_setItem {A : Around} {v : V} {u : Value} {Q : Unit → Shared → Prop} {E : Value → Shared → Prop} (hu : A.units + 100 < cLine) (I : L2.Inv X pins σ H s) (e : H a = some (DctO X.w a xs)) (hk : ∀ x ∈ xs, NKey s.heap x.1 x.2.1) (kb : NKey s.heap k b) (hl : xs.length < sizeLine) (rv : RelV v u) (h : ∀ s', L2.Inv X pins σ (upd H a (DctO X.w a (putN xs k b v))) s' → Q () s') :
    wpAny (model X.prog X.w) A (setItem (.ref a) (.ref b) u) Q E s := by
  obtain ⟨z, y, ys, r, d⟩ := dct_at I e hk
  have hz : ys.length ≤ sizeLine := by rw [← Paired.length r]; exact z
  refine wpAny_setItem_heap (hsz := hz) (room8 (by omega)) kb d fun h' d' hs => h _ ?_
  obtain ⟨q, es, ep, hq, h2, h3, h4, _, h5⟩ := d'
  have hl' := putN_len xs k b v
  exact d_write I (by rw [e]; exact True.intro) hs ⟨q, hq⟩ (dct_obj ⟨by omega, y, _, drel_put r k b rv, q, es, ep, hq, h2, h3, h4, h5⟩)
/-- {} -/
theorem pe_dnewN {pos : Pos} : PE X (.Dict [] [] pos) (fun _ H Q => ∀ p, H p = none → Q (.ref p) (upd H p (DctO X.w p []))) := ⟨fun pins s σ H Q I h =>
  wpAny_Dict_empty ⟨.ref s.heap.objs.size, _, I.laid (a := s.heap.objs.size) (o := DctO X.w s.heap.objs.size []) (t' := s.toks) (fun _ _ q => Heap.get?_push_of_some _ q) (Nat.le_refl _)
    (dct_obj ⟨Nat.zero_le _, beq_eq_false_iff_ne.mpr (Ne.symm (Nat.ne_of_lt I.big)), [], .nil, _, #[], 0, Heap.get?_push_size _ rfl, ⟨rfl, rfl, rfl⟩, rfl, rfl, List.nodup_nil⟩), rfl, h _ (I.hok.fresh (Nat.le_refl _))⟩⟩
/-- list(d): the keys -/
theorem dN_list (hc : X.calm = true) {Q : VK} (I : L2.Inv X pins σ H s) (e : H a = some (DctO X.w a xs)) (q : ∀ p, H p = none → Q (.ref p) (upd H p (.lst (xs.map fun x => V.ref x.2.1)))) :
    wpAny (model X.prog X.w) X.A (call (.type "list") [.ref a]) (EP X pins σ Q) X.xe s := by
  obtain ⟨z, hs, ks, pr, o, es, ep, ho, hx, hdt, he, hn⟩ := dct_get I e
  have l1 : es.size = ks.length := by rw [← Array.length_toList, he]; simp [entsN]
  have l2 : xs.length = ks.length := Paired.length pr
  refine PySem.W.kdl_call (kdl_raw hs hx hdt) (I.ok.hd hc) ho (by omega) fun h' tk acc' c' kp e it => ?_
  have ea : acc'.toList = ks.map fun x => Value.ref x.2.1 := by
    have hl : acc'.toList.length = ks.length := by rw [Array.length_toList, it.1]; exact l1
    apply List.ext_getElem?
    intro j
    rw [List.getElem?_map]
    cases hj : acc'.toList[j]? with
    | none =>
      have h1 := List.getElem?_eq_none_iff.mp hj
      rw [List.getElem?_eq_none (by omega)]
      rfl
    | some v =>
      obtain ⟨en, hen, hv⟩ := it.2 j v (by rw [← Array.getElem?_toList]; exact hj)
      have qe : es[j]? = (ks[j]?).map fun x => (⟨x.1.hash X.w, .ref x.2.1, x.2.2⟩ : DictEntry) := by
        rw [← Array.getElem?_toList, he, entsN, List.getElem?_map]
      rw [hen] at qe
      cases hb : ks[j]? with
      | none => rw [hb] at qe; cases qe
      | some b =>
        rw [hb] at qe
        have e2 := Option.some.inj qe
        rw [hv, e2]; rfl
  have ex := drel_keys pr
  have eb : acc'.toList = (ks.map fun x => x.2.1).map Value.ref := by rw [ea, List.map_map]; rfl
  have rv : Vals ((ks.map fun x => x.2.1).map V.ref) acc'.toList := by rw [eb]; exact vals_refs _
  have hz : ((ks.map fun x => x.2.1).map V.ref).length ≤ sizeLine := by rw [List.length_map, List.length_map]; omega
  refine ⟨.ref s.heap.objs.size, _, I.laid (t' := tk) (o := .lst ((ks.map fun x => x.2.1).map V.ref)) kp (Nat.le_refl _) ?_, rfl, ?_⟩
  · exact ⟨hz, acc'.toList, c', rv, by rw [Array.toArray_toList]; exact e⟩
  · have := q _ (I.hok.fresh (Nat.le_refl _))
    rw [ex] at this
    exact this
end
section
variable {prog : Program} {w : World} {A : Around} {E : Value → Shared → Prop}
def mergedN (acc rest : List NRaw) : List NRaw := rest.foldl (fun a q => storedH a q.1 q.2.1 q.2.2) acc
theorem storedN_le (xs : List NRaw) (k : NK) (b : Addr) (v : Value) : (storedH xs k b v).length ≤ xs.length + 1 := by
  unfold storedH
  split
  · rw [List.length_map]; omega
  · rw [List.length_append]; exact Nat.le_refl _
theorem nkey_move {h h' : Heap} {I : Addr} {k : NK} {b : Addr} (x : NKey h k b) (hI : ∀ o vs n, h.get? I = some o → o.data ≠ .seq vs n) (hk : ∀ c o, c ≠ I → h.get? c = some o → h'.get? c = some o) : NKey h' k b :=
  ⟨NestedIs.at (fun c o vs n hc hd => hk c o (fun e => hI o vs n (e ▸ hc) hd) hc) k _ x.1, x.2⟩
theorem dct_move {h h' : Heap} {S I : Addr} {acc : List NRaw} (x : h.DictOfH (nestedKind prog w) S acc) (hSI : S ≠ I) (hI : ∀ o vs n, h.get? I = some o → o.data ≠ .seq vs n) (hk : ∀ c o, c ≠ I → h.get? c = some o → h'.get? c = some o) : h'.DictOfH (nestedKind prog w) S acc := by
  obtain ⟨o, es, ep, h1, h2, h3, h4, h5, h6⟩ := x
  exact ⟨o, es, ep, hk S o hSI h1, h2, h3, h4, fun q hq => nkey_move (h5 q hq) hI hk, h6⟩
theorem iter_nseq {h : Heap} {I l : Addr} {i : Nat} (x : h.IsListIter I l i) : ∀ o vs n, h.get? I = some o → o.data ≠ .seq vs n := fun o vs n e q => by
  obtain ⟨o', e', _, d⟩ := x
  rw [e] at e'; cases e'
  rw [q] at d; cases d
/-- the pairs of dict(l), one by one -/
theorem upd_loopN (hu : A.units + 20 < cLine) {R : Result → Shared → Prop} {S I l : Addr} {items : Array Value} {res : Value} (hh : A.handled = none) (hlI : l ≠ I) (hSI : S ≠ I) (hSl : S ≠ l) :
    ∀ (rest : List NRaw) (i : Nat) (acc : List NRaw) (ix : Int) (t : Tok) (s : Shared), items.size = i + rest.length → acc.length + rest.length ≤ sizeLine →
      (∀ (j : Nat) (q : NRaw), rest[j]? = some q → ∃ b : Addr, items[i + j]? = some (.ref b) ∧ b ≠ S ∧ b ≠ I ∧ IsTup s.heap b #[.ref q.2.1, q.2.2] ∧ NKey s.heap q.1 q.2.1) →
      s.heap.IsListIter I l i → s.heap.IsList l items → s.heap.DictOfH (nestedKind prog w) S acc →
      (∀ h' tk, h'.DictOfH (nestedKind prog w) S (mergedN acc rest) → (∀ b o, b ≠ S → b ≠ I → s.heap.get? b = some o → h'.get? b = some o) → R (.ok (.ret res)) { s with heap := h', toks := tk }) →
      codeAny (model prog w) A (.builtin "dict.update.loop" ⟨[.ref S, .ref I, .int ix t, res], []⟩) R s
  | [], i, acc, ix, t, s, hsz, hln, ht, hit, hl, hm, hR => by
    refine codeAny_builtin ud_entry ?_
    rw [Around.under_plainId ud_plain _]
    show wpAny _ A.in1 (pyNext (.ref I) >>= _) _ _ s
    refine wpAny_bind (wpAny_pyNext_list_end (A := A.in1) hh hit hl (by first | exact Array.getElem?_eq_none (Nat.le_of_eq hsz) | (simp at hsz; simp; omega)) fun h' he => ?_)
    show wpAny _ A.in1 (Builtin.Dict.addKeywords S [] >>= _) _ _ _
    refine wpAny_bind (wpAny_pure (wpAny_pure ?_))
    exact hR h' s.toks (dct_move hm hSI (iter_nseq hit) fun c o hc e => he c o hc e) fun b o _ hb e => he b o hb e
  | q :: rest, i, acc, ix, t, s, hsz, hln, ht, hit, hl, hm, hR => by
    obtain ⟨b, hb, hbS, hbI, htup, hk⟩ := ht 0 q rfl
    rw [List.length_cons] at hsz hln
    refine codeAny_builtin ud_entry ?_
    rw [Around.under_plainId ud_plain _]
    show wpAny _ A.in1 (pyNext (.ref I) >>= _) _ _ s
    refine wpAny_bind (wpAny_pyNext_list_item (x := .ref b) hit hl (by simpa using hb) fun h1 hit1 hs1 => ?_)
    have mv : ∀ c o, c ≠ I → s.heap.get? c = some o → h1.get? c = some o := fun c o hc e => hs1.extBut c o hc e
    have ht1 : IsTup h1 b #[.ref q.2.1, q.2.2] := htup.extBut hs1.extBut hbI
    have hl1 : h1.IsList l items := hl.extBut hs1.extBut hlI
    have hm1 : h1.DictOfH (nestedKind prog w) S acc := dct_move hm hSI (iter_nseq hit) mv
    have hk1 : NKey h1 q.1 q.2.1 := nkey_move hk (iter_nseq hit) mv
    obtain ⟨o, ho, hc, n, hd⟩ := id ht1
    show wpAny _ A.in1 (holding [Value.ref b] _ >>= _) _ _ _
    refine wpAny_bind (wpAny_holding ?_)
    refine wpAny_bind (wpAny_tryCatch ?_)
    unfold Builtin.Dict.pairItems
    refine wpAny_bind (wpAny_typeOf (T := "tuple") ⟨o, ho, hc⟩ ?_)
    rw [if_pos (by first | decide | rfl | simp)]
    refine wpAny_bind (wpAny_seqItems ho hd (wpAny_pure ?_))
    show wpAny _ A.in1 (holding [Value.ref q.2.1, q.2.2] (dictSet S (.ref q.2.1) q.2.2)) _ _ _
    obtain ⟨oS, esS, epS, hoS, _, hdS, _⟩ := id hm1
    refine wpAny_holding (wpAny_dictSet_heap (knd := nestedKind prog w) (k := q.1) (room8 hu) hk1 hm1 (fun h2 hm2 hs2 => ?_) (by omega))
    refine wpAny_pure ⟨plainId_quiet ud_plain _, upd_loopN hu (items := items) hh hlI hSI hSl rest (i + 1) (storedH acc q.1 q.2.1 q.2.2) (ix + 1) 0 _ (show items.size = i + 1 + rest.length by omega) ?_ (fun j q' e => ?_) ?_ ?_ hm2 fun h' tk hd' k => ?_⟩
    · have z := storedN_le acc q.1 q.2.1 q.2.2
      omega
    · obtain ⟨b', hb', hbS', hbI', htup', hk'⟩ := ht (j + 1) q' (by simpa using e)
      refine ⟨b', ?_, hbS', hbI', (htup'.extBut hs1.extBut hbI').extBut hs2.extBut hbS', (nestedKind prog w).keeps (nkey_move hk' (iter_nseq hit) mv) hoS hdS hs2⟩
      rw [show i + 1 + j = i + (j + 1) by omega]
      exact hb'
    · exact hit1.at fun o' e => hs2.extBut I o' (Ne.symm hSI) e
    · exact hl1.extBut hs2.extBut (Ne.symm hSl)
    · exact hR h' tk hd' fun c oc h3 h4 e => k c oc h3 h4 (hs2.extBut c oc h3 (hs1.extBut c oc h4 e))
theorem dct_keep {h h' : Heap} {S : Addr} {acc : List NRaw} (x : h.DictOfH (nestedKind prog w) S acc) (hk : ∀ c o, h.get? c = some o → h'.get? c = some o) : h'.DictOfH (nestedKind prog w) S acc := by
  obtain ⟨o, es, ep, h1, h2, h3, h4, h5, h6⟩ := x
  exact ⟨o, es, ep, hk S o h1, h2, h3, h4, fun q hq => ⟨NestedIs.at (fun c o vs n hc _ => hk c o hc) _ _ (h5 q hq).1, (h5 q hq).2⟩, h6⟩
/-- dict(l), l a list of pairs whose keys are tuples -/
theorem call_dict_pairsN (hu : A.units + 100 < cLine) {s : Shared} {l : Addr} {ol : Obj} {items : Array Value} {n : Nat} {prs : List NRaw} {Q : Value → Shared → Prop} (hh : A.handled = none) (hl : s.heap.get? l = some ol) (hc : ol.cls = .type "list") (hd : ol.dict = none)
    (hdat : ol.data = .seq items n) (hsz : items.size = prs.length) (hln : prs.length ≤ sizeLine)
    (ht : ∀ (j : Nat) (q : NRaw), prs[j]? = some q → ∃ b : Addr, items[j]? = some (.ref b) ∧ IsTup s.heap b #[.ref q.2.1, q.2.2] ∧ NKey s.heap q.1 q.2.1)
    (h : ∀ h' tk, h'.DictOfH (nestedKind prog w) s.heap.objs.size (mergedN [] prs) → (∀ b o, s.heap.get? b = some o → h'.get? b = some o) → Q (.ref s.heap.objs.size) { s with heap := h', toks := tk }) :
    wpAny (model prog w) A (call (.type "dict") [.ref l]) Q E s := by
  refine callType_codes (Q₁ := fun obj s₁ => obj = .ref s.heap.objs.size ∧ s₁ = { s with heap := s.heap.push { cls := .type "dict", data := .dict #[] } }) PySem.F.kt_called_dict (PySem.F.kt_typeCall_dict_1 _) PySem.F.entry_dict_init (kt_code_dict_new _ ⟨rfl, rfl⟩) ?_
  rintro obj s₁ ⟨rfl, rfl⟩
  have hnew : (s.heap.push { cls := .type "dict", data := .dict #[] }).DictOfH (nestedKind prog w) s.heap.objs.size [] := Heap.DictOfH.new s.heap
  have k0 : ∀ b o, s.heap.get? b = some o → (s.heap.push { cls := .type "dict", data := .dict #[] }).get? b = some o := fun b o e => Heap.get?_push_of_some _ e
  refine ⟨hnew.typeIs, PySem.F.args_dict_init_2 _ _, ?_⟩
  unfold Builtin.«dict.__init__»
  refine wpAny_bind ?_
  unfold Builtin.Dict.selfAndRest
  refine wpAny_bind (wpAny_notOrdered_dict hnew.typeIs ?_)
  show wpAny _ _ (pure (s.heap.objs.size, [Value.ref l])) _ _ _
  refine wpAny_pure ?_
  show wpAny _ _ (Builtin.Dict.updateFrom "dict.__init__" s.heap.objs.size (.ref l) [] .none) _ _ _
  unfold Builtin.Dict.updateFrom
  refine wpAny_bind (wpAny_typeOf (T := "list") ⟨ol, k0 _ _ hl, hc⟩ ?_)
  rw [if_pos (by first | decide | rfl | simp)]
  refine wpAny_bind (miss_list (k0 _ _ hl) hc hdat hd hh fun h1 tk1 hk1 => ?_)
  rw [if_pos (show (none : Option Value).isNone = true from rfl)]
  refine wpAny_bind (wpAny_rule ?_)
  have hl1 : h1.IsList l items := ⟨ol, hk1 _ _ (k0 _ _ hl), hc, n, hdat⟩
  have hS1 : s.heap.objs.size < h1.objs.size := by
    have e : (s.heap.push { cls := .type "dict", data := .dict #[] }).get? s.heap.objs.size = some { cls := .type "dict", data := .dict #[] } := Heap.get?_push_size _ rfl
    exact Heap.lt_size (hk1 _ _ e)
  refine wpAny_bind (wpAny_pyIter_list hl1 ?_)
  have k2 : ∀ b o, h1.get? b = some o → (h1.push { cls := .type "list_iterator", data := .fields #[.ref l, .int 0 0] }).get? b = some o := fun b o e => Heap.get?_push_of_some _ e
  have hlt : l < s.heap.objs.size := Heap.lt_size hl
  have key := upd_loopN (hu := by have := in1_le A; omega) (prog := prog) (w := w) (A := A.in1) (R := wants (fun r s₂ => r = .none ∧ Q (.ref s.heap.objs.size) s₂) E) (S := s.heap.objs.size) (I := h1.objs.size) (l := l) (items := items) (res := Value.none) hh
    (Nat.ne_of_lt (Nat.lt_trans hlt hS1)) (Nat.ne_of_lt hS1) (Nat.ne_of_gt hlt) prs 0 [] 0 0
    { s with heap := h1.push { cls := .type "list_iterator", data := .fields #[.ref l, .int 0 0] }, toks := tk1 } (by rw [hsz, Nat.zero_add]) (by rw [List.length_nil, Nat.zero_add]; exact hln)
    (fun j q e => by
      obtain ⟨b, e1, e2, e3⟩ := ht j q e
      have hb : b < s.heap.objs.size := e2.lt
      exact ⟨b, by rw [Nat.zero_add]; exact e1, Nat.ne_of_lt hb, Nat.ne_of_lt (Nat.lt_trans hb hS1), e2.keeps fun c o z => k2 _ _ (hk1 _ _ (k0 _ _ z)), ⟨NestedIs.at (fun c o vs n hc _ => k2 _ _ (hk1 _ _ (k0 _ _ hc))) _ _ e3.1, e3.2⟩⟩)
    ⟨_, Heap.get?_push_size _ rfl, rfl, rfl⟩ (hl1.at fun o e => k2 _ _ e) (dct_keep (dct_keep hnew hk1) k2)
    (fun h' tk hd' k => ⟨rfl, h h' tk hd' fun b o e => k b o (Nat.ne_of_lt (Heap.lt_size e)) (Nat.ne_of_lt (Nat.lt_trans (Heap.lt_size e) hS1)) (k2 _ _ (hk1 _ _ (k0 _ _ e)))⟩)
  first
    | exact wpAny_pure ⟨plainId_quiet ud_plain _, key⟩
    | exact wpAny_bind (wpAny_pure (wpAny_pure ⟨plainId_quiet ud_plain _, key⟩))
end
def mergeV (acc xs : List NRow) : List NRow := xs.foldl (fun a q => putN a q.1 q.2.1 q.2.2) acc
theorem drel_merge : ∀ {xs : List NRow} {ys : List NRaw} {acc : List NRow} {bcc : List NRaw}, DRel xs ys → DRel acc bcc → DRel (mergeV acc xs) (mergedN bcc ys)
  | _, _, _, _, .nil, r => r
  | _, _, acc, bcc, .cons (a := x) (b := y) h t, r => by
    have e : DRel (putN acc x.1 x.2.1 x.2.2) (storedH bcc y.1 y.2.1 y.2.2) := by
      have := drel_put r x.1 x.2.1 h.2.2
      rw [h.1, h.2.1] at this
      rw [h.1, h.2.1]; exact this
    show DRel (mergeV (putN acc x.1 x.2.1 x.2.2) _) (mergedN (storedH bcc y.1 y.2.1 y.2.2) _)
    exact drel_merge t e
theorem mergeV_len : ∀ (xs acc : List NRow), (mergeV acc xs).length ≤ acc.length + xs.length
  | [], acc => Nat.le_refl _
  | x :: xs, acc => by
    have h1 := mergeV_len xs (putN acc x.1 x.2.1 x.2.2)
    have h2 := putN_len acc x.1 x.2.1 x.2.2
    show (mergeV (putN acc x.1 x.2.1 x.2.2) xs).length ≤ _
    rw [List.length_cons]; omega
section
variable {X : Cx} {pins : List (Addr × Obj)} {σ : L2.St} {H : Hp} {s : Shared}
theorem pairsN_of (I : L2.Inv X pins σ H s) : ∀ {ps : List Addr} {xs : List NRow}, Paired (fun p (x : NRow) => SqT X.K H p [.ref x.2.1, x.2.2]) ps xs →
    ∃ prs : List NRaw, DRel xs prs ∧ prs.length = ps.length ∧ ∀ (j : Nat) (q : NRaw), prs[j]? = some q → ∃ (b : Addr) (x : NRow), ps[j]? = some b ∧ IsTup s.heap b #[.ref q.2.1, q.2.2] ∧ x ∈ xs ∧ x.1 = q.1 ∧ x.2.1 = q.2.1
  | _, _, .nil => ⟨[], .nil, rfl, fun j q e => by simp at e⟩
  | _, _, .cons (a := p) (b := x) h t => by
    obtain ⟨prs, r, hl, hp⟩ := pairsN_of I t
    obtain ⟨its, rv, ht, _⟩ := I.tuple h
    obtain ⟨u, y, ei, ru, ry⟩ := vals2 rv
    subst ei
    cases (show u = Value.ref x.2.1 from ru)
    refine ⟨(x.1, x.2.1, y) :: prs, .cons ⟨rfl, rfl, ry⟩ r, by rw [List.length_cons, List.length_cons, hl], fun j q e => ?_⟩
    cases j with
    | zero =>
      have e' : (x.1, x.2.1, y) = q := Option.some.inj e
      subst e'
      exact ⟨p, x, rfl, ht, List.mem_cons_self, rfl, rfl⟩
    | succ j =>
      obtain ⟨b, x', e1, e2, e3, e4⟩ := hp j q (by simpa using e)
      exact ⟨b, x', by simpa using e1, e2, List.mem_cons_of_mem _ e3, e4⟩
/-- dict(l), l a list of pairs whose keys are tuples: later pairs win, the place is the first one's -/
theorem dN_pairs (hc : X.calm = true) (hu : X.A.units + 100 < cLine) {l : Addr} {ps : List Addr} {xs : List NRow} {Q : VK} (I : L2.Inv X pins σ H s) (hq : SqL X.K H l (ps.map V.ref)) (hp : Paired (fun p (x : NRow) => SqT X.K H p [.ref x.2.1, x.2.2]) ps xs) (hk : ∀ x ∈ xs, NKey s.heap x.1 x.2.1)
    (q : ∀ p, H p = none → Q (.ref p) (upd H p (DctO X.w p (mergeV [] xs)))) : wpAny (model X.prog X.w) X.A (call (.type "dict") [.ref l]) (EP X pins σ Q) X.xe s := by
  obtain ⟨its, rv, pl, hz⟩ := I.list hq
  have ei := refs_at rv
  subst ei
  rw [List.length_map] at hz
  obtain ⟨prs, rel, hl, hpr⟩ := pairsN_of I hp
  obtain ⟨o, n, ho, hcl, hd, hdat⟩ := pl
  refine call_dict_pairsN hu (prs := prs) (I.ok.hd hc) ho hcl hd hdat (by simp [hl]) (by rw [hl]; exact hz) (fun j q' e => ?_) fun h' tk hd' k => ?_
  · obtain ⟨b, x, e1, e2, e3, e4, e5⟩ := hpr j q' e
    exact ⟨b, by simp [e1], e2, by rw [← e4, ← e5]; exact hk x e3⟩
  · have hm : (s.heap.objs.size == sysModules) = false := beq_eq_false_iff_ne.mpr (Nat.ne_of_gt I.big)
    have hlen : (mergeV [] xs).length ≤ sizeLine := by
      have h1 := mergeV_len xs []
      have h2 := Paired.length rel
      have h3 : ([] : List NRow).length = 0 := rfl
      omega
    obtain ⟨o', es, ep, g1, g2, g3, g4, _, g6⟩ := hd'
    exact ⟨.ref s.heap.objs.size, upd H s.heap.objs.size (DctO X.w s.heap.objs.size (mergeV [] xs)), I.laid (t' := tk) k (Nat.le_refl _) (dct_obj ⟨hlen, hm, mergedN [] prs, drel_merge rel .nil, o', es, ep, g1, g2, g3, g4, g6⟩), rfl, q _ (I.hok.fresh (Nat.le_refl _))⟩
end
end Mv
end

section
set_option Elab.async false
set_option linter.all false
set_option maxRecDepth 100000
set_option maxHeartbeats 4000000
/-! Sim: the values and cells of Vm beside the heap of the hand layer. -/
namespace Mv
open PySem PySem.Spec PyProof.Rows L2

/-- what is fixed: the text's written part, where its defs and error classes stand, which field an error class keeps -/
structure ErrAt where
  i : Nat
  a : Addr
  c : Nat
  p : List D
  cls : Value
  d : Option Addr
structure Cn where
  K : PySem.W.Frag
  fa : Nat → Option Addr
  ca : Nat → Option Addr
  fld : Nat → Str
  w : World
  er : Option ErrAt := none
  /-- code objects of defs that make a lambda, their tables, the lambda's name -/
  T : List (Addr × Addr × Str) := []
/-- what is known of a heap: what stays as it is; where cells stand; the cells that are walked; the lists that are being built -/
structure Wd where
  F : Hp
  ρ : Nat → Option Addr
  lk : Nat → Option (Nat × List V)
  hd : Addr → Option HO
/-- more is known -/
structure Wd.Le (W W' : Wd) : Prop where
  F : ∀ a o, W.F a = some o → W'.F a = some o
  ρ : ∀ n a, W.ρ n = some a → W'.ρ n = some a
  lk : W'.lk = W.lk
  hd : W'.hd = W.hd
theorem Wd.Le.refl (W : Wd) : W.Le W := ⟨fun _ _ h => h, fun _ _ h => h, rfl, rfl⟩
theorem Wd.Le.trans {W W1 W2 : Wd} (a : W.Le W1) (b : W1.Le W2) : W.Le W2 := ⟨fun x o h => b.F x o (a.F x o h), fun n x h => b.ρ n x (a.ρ n x h), b.lk.trans a.lk, b.hd.trans a.hd⟩

/-- a tuple that stands; of one's own making: known to the object -/
def TF (F : Hp) (a : Addr) (vs : List V) : Prop := F a = some (.tup vs) ∨ ∃ o : Obj, F a = some (.frz o (.tup vs))
theorem TF.mono {F F' : Hp} {a : Addr} {vs : List V} (h : TF F a vs) (le : ∀ a o, F a = some o → F' a = some o) : TF F' a vs := h.elim (fun h => .inl (le _ _ h)) fun ⟨o, h⟩ => .inr ⟨o, le _ _ h⟩
theorem TF.sq {K : PySem.W.Frag} {F H : Hp} {a : Addr} {vs : List V} (h : TF F a vs) (S : ∀ a o, F a = some o → H a = some o) : SqT K H a vs := h.elim (fun h => .inl (.inl (S _ _ h))) fun ⟨o, h⟩ => .inl (.inr ⟨o, S _ _ h⟩)
/-- a range object: from a on, n numbers -/
def RngP (p : Addr) (a : Int) (n : Nat) (h : Heap) : Prop := ∃ (b : Int) (t u v : Tok), IsRange h p a b 1 t u v ∧ Builtin.Range.small a b 1 = true ∧ Builtin.Range.rangeSize a b 1 = n
def RngO (p : Addr) (a : Int) (n : Nat) : HO := .ext (RngP p a n)
theorem rng_obj {P : Program} {w : World} {H : Hp} {h : Heap} {p : Addr} {a : Int} {n : Nat} (x : RngP p a n h) : ObjOk P w H h p (RngO p a n) := by
  have ⟨b, t, u, v, hr, _⟩ := x
  exact ⟨x, ⟨_, hr⟩, fun h1 h2 y k => let ⟨b, t, u, v, hr, z⟩ := y; ⟨b, t, u, v, k _ hr, z⟩⟩
def tyName (k : Nat) : Option String := match k with
  | 0 => some "int" | 1 => some "bool" | 2 => some "str" | 3 => some "tuple" | 4 => some "list" | 5 => some "LookupError" | 6 => some "ValueError" | _ => none
section
variable (C : Cn)
mutual
inductive RD (W : Wd) : D → V → Prop
  | tpn {a : Addr} {ds : List D} {vs : List V} {o : Obj} (hd : o.dict = none) (h : W.F a = some (.frz o (.tup vs))) (r : RDs W ds vs) : RD W (.tpn ds) (.ref a)
  | non : RD W .non .non
  | bl (b : Bool) : RD W (.bl b) (.bl b)
  | int (i : Int) : RD W (.int i) (.int i)
  | str (l : List Nat) : RD W (.str l) (.str ⟨l.toArray⟩)
  | tup {a : Addr} {ds : List D} {vs : List V} (h : TF W.F a vs) (r : RDs W ds vs) : RD W (.tup ds) (.ref a)
  | lst {a : Addr} {ds : List D} {vs : List V} (h : W.F a = some (.lst vs)) (r : RDs W ds vs) : RD W (.lst ds) (.ref a)
  | loc {n : Nat} {a : Addr} (h : W.ρ n = some a) : RD W (.loc n) (.ref a)
  | fn {n : Nat} {a : Addr} (h : C.fa n = some a) : RD W (.fn n) (.ref a)
  | tyb {k : Nat} {x : String} (h : tyName k = some x) : RD W (.ty k) (.ty x)
  | tyo {k : Nat} {a : Addr} (h : tyName k = none) (h2 : C.ca k = some a) : RD W (.ty k) (.ref a)
  | scr {a : Addr} {ns : List Int} (h : SqL C.K W.F a (ns.map V.int)) : RD W (.scr ns) (.ref a)
  | exc {c : Nat} {p : List D} (v : V) : RD W (.exc c p) v
  | rng {p : Addr} {a : Int} {n : Nat} (h : W.F p = some (RngO p a n)) : RD W (.rng a n) (.ref p)
inductive RDs (W : Wd) : List D → List V → Prop
  | nil : RDs W [] []
  | cons {d : D} {v : V} {ds : List D} {vs : List V} (h : RD W d v) (r : RDs W ds vs) : RDs W (d :: ds) (v :: vs)
end
end
section
variable {C : Cn} {W W' : Wd}
theorem sqL_mono {F F' : Hp} (le : ∀ a o, F a = some o → F' a = some o) {a : Addr} {xs : List V} (h : SqL C.K F a xs) : SqL C.K F' a xs := by
  rcases h with (h | ⟨o, h⟩) | h
  · exact .inl (.inl (le _ _ h))
  · exact .inl (.inr ⟨o, le _ _ h⟩)
  · exact .inr h
mutual
theorem RD.mono (le : W.Le W') : ∀ {d : D} {v : V}, RD C W d v → RD C W' d v
  | _, _, .non => .non
  | _, _, .bl b => .bl b
  | _, _, .int i => .int i
  | _, _, .str l => .str l
  | _, _, .tup h r => .tup (h.mono le.F) (RDs.mono le r)
  | _, _, .tpn hd h r => .tpn hd (le.F _ _ h) (RDs.mono le r)
  | _, _, .lst h r => .lst (le.F _ _ h) (RDs.mono le r)
  | _, _, .loc h => .loc (le.ρ _ _ h)
  | _, _, .fn h => .fn h
  | _, _, .tyb h => .tyb h
  | _, _, .tyo h h2 => .tyo h h2
  | _, _, .scr h => .scr (sqL_mono le.F h)
  | _, _, .rng h => .rng (le.F _ _ h)
  | _, _, .exc v => .exc v
theorem RDs.mono (le : W.Le W') : ∀ {ds : List D} {vs : List V}, RDs C W ds vs → RDs C W' ds vs
  | _, _, .nil => .nil
  | _, _, .cons h r => .cons (RD.mono le h) (RDs.mono le r)
end
mutual
/-- the locks do not matter -/
theorem RD.lk (hF : W'.F = W.F) (hρ : W'.ρ = W.ρ) : ∀ {d : D} {v : V}, RD C W d v → RD C W' d v
  | _, _, .non => .non
  | _, _, .bl b => .bl b
  | _, _, .int i => .int i
  | _, _, .str l => .str l
  | _, _, .tup h r => .tup (by rw [hF]; exact h) (RDs.lk hF hρ r)
  | _, _, .tpn hd h r => .tpn hd (by rw [hF]; exact h) (RDs.lk hF hρ r)
  | _, _, .lst h r => .lst (by rw [hF]; exact h) (RDs.lk hF hρ r)
  | _, _, .loc h => .loc (by rw [hρ]; exact h)
  | _, _, .fn h => .fn h
  | _, _, .tyb h => .tyb h
  | _, _, .tyo h h2 => .tyo h h2
  | _, _, .scr h => .scr (by rw [hF]; exact h)
  | _, _, .rng h => .rng (by rw [hF]; exact h)
  | _, _, .exc v => .exc v
theorem RDs.lk (hF : W'.F = W.F) (hρ : W'.ρ = W.ρ) : ∀ {ds : List D} {vs : List V}, RDs C W ds vs → RDs C W' ds vs
  | _, _, .nil => .nil
  | _, _, .cons h r => .cons (RD.lk hF hρ h) (RDs.lk hF hρ r)
end
theorem RDs.length : ∀ {ds : List D} {vs : List V}, RDs C W ds vs → ds.length = vs.length
  | _, _, .nil => rfl
  | _, _, .cons _ r => by simp only [List.length_cons]; exact congrArg (· + 1) (RDs.length r)
theorem RDs.get : ∀ {ds : List D} {vs : List V} {i : Nat} {d : D}, RDs C W ds vs → ds[i]? = some d → ∃ v, vs[i]? = some v ∧ RD C W d v
  | _, _, i, d, .nil, e => by simp at e
  | _, _, 0, d, .cons h r, e => by simp at e; subst e; exact ⟨_, rfl, h⟩
  | _, _, i + 1, d, .cons h r, e => by
    obtain ⟨v, h1, h2⟩ := RDs.get (i := i) (d := d) r (by simpa using e)
    exact ⟨v, by simpa using h1, h2⟩
theorem RDs.getV : ∀ {ds : List D} {vs : List V} {i : Nat} {v : V}, RDs C W ds vs → vs[i]? = some v → ∃ d, ds[i]? = some d ∧ RD C W d v
  | _, _, i, v, .nil, e => by simp at e
  | _, _, 0, v, .cons h r, e => by simp at e; subst e; exact ⟨_, rfl, h⟩
  | _, _, i + 1, v, .cons h r, e => by
    obtain ⟨d, h1, h2⟩ := RDs.getV (i := i) (v := v) r (by simpa using e)
    exact ⟨d, by simpa using h1, h2⟩
theorem RDs.append : ∀ {ds es : List D} {vs ws : List V}, RDs C W ds vs → RDs C W es ws → RDs C W (ds ++ es) (vs ++ ws)
  | _, _, _, _, .nil, r => r
  | _, _, _, _, .cons h q, r => .cons h (RDs.append q r)
theorem RDs.take : ∀ {ds : List D} {vs : List V} (n : Nat), RDs C W ds vs → RDs C W (ds.take n) (vs.take n)
  | _, _, 0, _ => .nil
  | _, _, _ + 1, .nil => .nil
  | _, _, n + 1, .cons h r => .cons h (RDs.take n r)
theorem RDs.drop : ∀ {ds : List D} {vs : List V} (n : Nat), RDs C W ds vs → RDs C W (ds.drop n) (vs.drop n)
  | _, _, 0, r => r
  | _, _, _ + 1, .nil => .nil
  | _, _, n + 1, .cons h r => RDs.drop n r
theorem RDs.set : ∀ {ds : List D} {vs : List V} (n : Nat) {d : D} {v : V}, RDs C W ds vs → RD C W d v → RDs C W (ds.set n d) (vs.set n v)
  | _, _, _, _, _, .nil, _ => .nil
  | _, _, 0, _, _, .cons _ r, q => .cons q r
  | _, _, n + 1, _, _, .cons h r, q => .cons h (RDs.set n r q)
theorem RDs.reverse {ds : List D} {vs : List V} (h : RDs C W ds vs) : RDs C W ds.reverse vs.reverse := by
  have : ∀ {ds : List D} {vs : List V}, RDs C W ds vs → ∀ {es : List D} {ws : List V}, RDs C W es ws → RDs C W (ds.reverse ++ es) (vs.reverse ++ ws) := by
    intro ds vs h
    induction ds generalizing vs with
    | nil => cases h; intro es ws r; exact r
    | cons d ds ih =>
      cases h with
      | cons h r =>
        intro es ws q
        simp only [List.reverse_cons, List.append_assoc, List.singleton_append]
        exact ih r (.cons h q)
  have := this h (es := []) (ws := []) .nil
  simpa using this
theorem RDs.ints (C : Cn) (W : Wd) : ∀ ns : List Int, RDs C W (ns.map D.int) (ns.map V.int)
  | [] => .nil
  | n :: r => .cons (.int n) (RDs.ints C W r)
end

mutual
/-- a key -/
noncomputable def nkD : Nat → D → Option NK
  | _, .non => some .none
  | _, .bl b => some (.num (b2n b))
  | _, .int i => some (.num i)
  | _, .str l => some (.text ⟨l.toArray⟩)
  | n, .tup ds => obnd (nkDs n ds) none fun l => some (.tup l)
  | _, _ => none
noncomputable def nkDs : Nat → List D → Option (List NK)
  | _, [] => some []
  | 0, _ :: _ => none
  | n + 1, d :: r => obnd (nkD n d) none fun a => obnd (nkDs (n + 1) r) none fun b => some (a :: b)
end
/-- a dict's rows beside its keys and values -/
abbrev RKs (C : Cn) (W : Wd) : List (D × D) → List NRow → Prop := Paired fun kv x => nkD 7 kv.1 = some x.1 ∧ RD C W kv.1 (.ref x.2.1) ∧ RD C W kv.2 x.2.2
/-- what a cell holds beside what stands in the heap -/
def CellR (C : Cn) (W : Wd) (H : Hp) (a : Addr) : Ob → Prop
  | .lst _ l => ∃ vs, H a = some (.lst vs) ∧ RDs C W l vs
  | .dct kvs => ∃ xs, H a = some (DctO C.w a xs) ∧ RKs C W kvs xs
section
variable {C : Cn} {W W' : Wd} {H H' : Hp} {a p : Addr} {o : Ob}
theorem CellR.mono (h : CellR C W H a o) (le : W.Le W') : CellR C W' H a o := by
  cases o with
  | lst k l => obtain ⟨vs, h1, h2⟩ := h; exact ⟨vs, h1, h2.mono le⟩
  | dct kvs => obtain ⟨xs, h1, h2⟩ := h; exact ⟨xs, h1, L2.Paired.mapP h2 fun _ _ z => ⟨z.1, z.2.1.mono le, z.2.2.mono le⟩⟩
theorem CellR.lk (hF : W'.F = W.F) (hρ : W'.ρ = W.ρ) (h : CellR C W H a o) : CellR C W' H a o := by
  cases o with
  | lst k l => obtain ⟨vs, h1, h2⟩ := h; exact ⟨vs, h1, h2.lk hF hρ⟩
  | dct kvs => obtain ⟨xs, h1, h2⟩ := h; exact ⟨xs, h1, L2.Paired.mapP h2 fun _ _ z => ⟨z.1, z.2.1.lk hF hρ, z.2.2.lk hF hρ⟩⟩
theorem CellR.same (h : CellR C W H a o) (e : H' a = H a) : CellR C W H' a o := by
  cases o with
  | lst k l => obtain ⟨vs, h1, h2⟩ := h; exact ⟨vs, e.trans h1, h2⟩
  | dct kvs => obtain ⟨xs, h1, h2⟩ := h; exact ⟨xs, e.trans h1, h2⟩
theorem CellR.to (hF : W'.F = W.F) (hρ : W'.ρ = W.ρ) (h : CellR C W H a o) (e : H' a = H a) : CellR C W' H' a o := (h.lk hF hρ).same e
theorem CellR.ob (h : CellR C W H a o) : ∃ u, H a = some u := by
  cases o with
  | lst k l => obtain ⟨vs, h1, h2⟩ := h; exact ⟨_, h1⟩
  | dct kvs => obtain ⟨xs, h1, h2⟩ := h; exact ⟨_, h1⟩
theorem CellR.ne (h : CellR C W H a o) (hp : H p = none) : a ≠ p := by
  obtain ⟨u, hu⟩ := h.ob
  exact ne_of_none hu hp
end
/-- the tables of code objects of those defs that make lambdas -/
def TabAll (C : Cn) (F H : Hp) : Prop := ∀ p ∈ C.T, F p.2.1 = none ∧ ∃ ps : Array Value, H p.2.1 = some (.tbl ps) ∧ TriplesOk ps.toList ∧ ∀ (pos : Pos) (cv : Value), codeAmong pos ps.toList = some cv → ∃ c, cv = .ref c ∧ F c = some (LamX.CodeO c p.2.2)
theorem TabAll.to {C : Cn} {F F' H H' : Hp} (t : TabAll C F H) (hF : ∀ a o, F a = some o → F' a = some o) (hN : ∀ a ps, H a = some (.tbl ps) → F a = none → H' a = some (.tbl ps) ∧ F' a = none) : TabAll C F' H' := fun p hp => by
  obtain ⟨h1, ps, h2, h3, h4⟩ := t p hp
  obtain ⟨g1, g2⟩ := hN _ _ h2 h1
  exact ⟨g2, ps, g1, h3, fun pos cv e => let ⟨c, e1, e2⟩ := h4 pos cv e; ⟨c, e1, hF _ _ e2⟩⟩
theorem CellR.tbl {C : Cn} {W : Wd} {H : Hp} {a b : Addr} {o : Ob} {ps : Array Value} (h : CellR C W H a o) (e : H b = some (.tbl ps)) : b ≠ a := fun z => by
  rw [z] at e
  cases o with
  | lst k l => obtain ⟨vs, h1, _⟩ := h; rw [h1] at e; cases e
  | dct kvs => obtain ⟨xs, h1, _⟩ := h; rw [h1] at e; have e := Option.some.inj e; unfold DctO at e; cases e
/-- the heap beside the cells -/
structure SimS (C : Cn) (W : Wd) (H : Hp) (s : St) : Prop where
  sub : ∀ a o, W.F a = some o → H a = some o
  cel : ∀ n o, fnd s.cs n = some o → ∃ a, W.ρ n = some a ∧ W.F a = none ∧ CellR C W H a o
  inj : ∀ n m a, (fnd s.cs n).isSome = true → (fnd s.cs m).isSome = true → W.ρ n = some a → W.ρ m = some a → n = m
  new : ∀ n, s.nx ≤ n → fnd s.cs n = none ∧ W.ρ n = none
  lock : ∀ n c vs, W.lk n = some (c, vs) → ∃ k l a, fnd s.cs n = some (.lst (k + c + 1) l) ∧ W.ρ n = some a ∧ H a = some (.lst vs)
  nd : (s.cs.map (·.1)).Nodup
  hd : ∀ a o, W.hd a = some o → H a = some o ∧ W.F a = none ∧ ∀ n, (fnd s.cs n).isSome = true → W.ρ n ≠ some a
  hdT : ∀ a o, W.hd a = some o → ∀ ps, o ≠ .tbl ps
  tab : TabAll C W.F H
theorem SimS.cell {C : Cn} {W : Wd} {H : Hp} {s : St} (S : SimS C W H s) (n k : Nat) (l : List D) (h : fnd s.cs n = some (.lst k l)) : ∃ a vs, W.ρ n = some a ∧ W.F a = none ∧ H a = some (.lst vs) ∧ RDs C W l vs := by
  obtain ⟨a, h1, h2, vs, h3, h4⟩ := S.cel n _ h
  exact ⟨a, vs, h1, h2, h3, h4⟩
/-- an error: its class, its own dict -/
def RX (C : Cn) (W : Wd) (c : Nat) (p : List D) (cls : Value) (d : Option Addr) : Prop :=
  ∃ a, C.ca c = some a ∧ cls = .ref a ∧ ((p = [] ∧ d = none) ∨ ∃ pv v dx, p = [pv] ∧ d = some dx ∧ W.F dx = some (.xd [(C.fld c, v)]) ∧ RD C W pv v)
theorem RX.mono {C : Cn} {W W' : Wd} {c : Nat} {p : List D} {cls : Value} {d : Option Addr} (h : RX C W c p cls d) (le : W.Le W') : RX C W' c p cls d := by
  obtain ⟨a, h1, h2, h3⟩ := h
  refine ⟨a, h1, h2, ?_⟩
  rcases h3 with h3 | ⟨pv, v, dx, e1, e2, e3, r⟩
  · exact .inl h3
  · exact .inr ⟨pv, v, dx, e1, e2, le.F _ _ e3, r.mono le⟩
theorem RX.lk {C : Cn} {W W' : Wd} (hF : W'.F = W.F) (hρ : W'.ρ = W.ρ) {c : Nat} {p : List D} {cls : Value} {d : Option Addr} (h : RX C W c p cls d) : RX C W' c p cls d := by
  obtain ⟨a, h1, h2, h3⟩ := h
  refine ⟨a, h1, h2, ?_⟩
  rcases h3 with h3 | ⟨pv, v, dx, e1, e2, e3, r⟩
  · exact .inl h3
  · exact .inr ⟨pv, v, dx, e1, e2, by rw [hF]; exact e3, r.lk hF hρ⟩
/-- the slots beside the environment -/
structure SimE (C : Cn) (W : Wd) (σ : L2.St) (e : Env) : Prop where
  len : e.length = σ.length
  at_ : ∀ i d, getE e i = some d → ∃ v, σ[i]? = some (some v) ∧ RD C W d v
  er : ∀ x, C.er = some x → σ[x.i]? = some (some (.ref x.a)) ∧ getE e x.i = some (.exc x.c x.p) ∧ RX C W x.c x.p x.cls x.d
theorem SimE.mono {C : Cn} {W W' : Wd} {σ : L2.St} {e : Env} (h : SimE C W σ e) (le : W.Le W') : SimE C W' σ e :=
  ⟨h.len, fun i d q => let ⟨v, h1, h2⟩ := h.at_ i d q; ⟨v, h1, h2.mono le⟩, fun x q => let ⟨h1, h2, h3⟩ := h.er x q; ⟨h1, h2, h3.mono le⟩⟩
theorem SimE.lk {C : Cn} {W W' : Wd} {σ : L2.St} {e : Env} (h : SimE C W σ e) (hF : W'.F = W.F) (hρ : W'.ρ = W.ρ) : SimE C W' σ e :=
  ⟨h.len, fun i d q => let ⟨v, h1, h2⟩ := h.at_ i d q; ⟨v, h1, h2.lk hF hρ⟩, fun x q => let ⟨h1, h2, h3⟩ := h.er x q; ⟨h1, h2, h3.lk hF hρ⟩⟩
/-- what a result asks: Q of a value, E of an error -/
def RvQ (C : Cn) (W : Wd) (r : Rv) (Q : VK) (E : XK) : Prop := match r with
  | .ok d s => ∀ W' H' v, W.Le W' → SimS C W' H' s → RD C W' d v → Q v H'
  | .exc c p s => ∀ W' H' cls dx, W.Le W' → SimS C W' H' s → RX C W' c p cls dx → E cls dx H'
  | .bad _ => False
def RsQ (C : Cn) (W : Wd) (r : Rs) (Q : List V → Hp → Prop) (E : XK) : Prop := match r with
  | .ok ds s => ∀ W' H' vs, W.Le W' → SimS C W' H' s → RDs C W' ds vs → Q vs H'
  | .exc c p s => ∀ W' H' cls dx, W.Le W' → SimS C W' H' s → RX C W' c p cls dx → E cls dx H'
  | .bad _ => False
def tE (C : Cn) (Wx : WX) (r : EvT) : TE := fun σ H Q => ∃ W e s, SimS C W H s ∧ SimE C W σ e ∧ RvQ C W (r e s) Q (fun cls d H' => Wx cls d σ H')
def tA (C : Cn) (Wx : WX) (r : EsT) : TA := fun σ H Q => ∃ W e s, SimS C W H s ∧ SimE C W σ e ∧ RsQ C W (r e s) Q (fun cls d H' => Wx cls d σ H')
/-- .. of a test -/
def RvT (C : Cn) (W : Wd) (r : Rv) (Q : Bool → Hp → Prop) (E : XK) : Prop := match r with
  | .ok d s => ∃ b, tru s d = some b ∧ ∀ W' H', W.Le W' → SimS C W' H' s → Q b H'
  | .exc c p s => ∀ W' H' cls dx, W.Le W' → SimS C W' H' s → RX C W' c p cls dx → E cls dx H'
  | .bad _ => False
def tT (C : Cn) (Wx : WX) (r : EvT) : TT := fun σ H Q => ∃ W e s, SimS C W H s ∧ SimE C W σ e ∧ RvT C W (r e s) Q (fun cls d H' => Wx cls d σ H')
def FlQ (C : Cn) (W : Wd) (σ0 : L2.St) (r : Fl) (D : Ends) (Wx : WX) : Prop := match r with
  | .nx e s => ∀ W' H' σ', W.Le W' → SimS C W' H' s → SimE C W' σ' e → D.nx σ' H'
  | .rt d s => ∀ W' H' v, W.Le W' → SimS C W' H' s → RD C W' d v → D.rt v H'
  | .bk e s => ∀ W' H' σ', W.Le W' → SimS C W' H' s → SimE C W' σ' e → D.bk σ' H'
  | .exc c p e s => ∀ W' H' σ' cls dx, W.Le W' → SimS C W' H' s → SimE C W' σ' e → RX C W' c p cls dx → Wx cls dx σ' H'
  | .bad _ => False
def tS (C : Cn) (Wx : WX) (r : ExT) : TS := fun D σ H => ∃ W e s, SimS C W H s ∧ SimE C W σ e ∧ FlQ C W σ (r e s) D Wx

section
variable {C : Cn} {W W' : Wd}
theorem RvQ.imp {r : Rv} {Q Q' : VK} {E E' : XK} (h : RvQ C W r Q E) (hQ : ∀ v H, Q v H → Q' v H) (hE : ∀ c d H, E c d H → E' c d H) : RvQ C W r Q' E' := by
  cases r with
  | ok d s => exact fun W' H' v a b c => hQ _ _ (h W' H' v a b c)
  | exc c p s => exact fun W' H' cls dx a b c => hE _ _ _ (h W' H' cls dx a b c)
  | bad n => exact h
theorem RvQ.mono {r : Rv} {Q : VK} {E : XK} (h : RvQ C W r Q E) (le : W.Le W') : RvQ C W' r Q E := by
  cases r with
  | ok d s => exact fun W2 H' v a b c => h W2 H' v (le.trans a) b c
  | exc c p s => exact fun W2 H' cls dx a b c => h W2 H' cls dx (le.trans a) b c
  | bad n => exact h
theorem RsQ.mono {r : Rs} {Q : List V → Hp → Prop} {E : XK} (h : RsQ C W r Q E) (le : W.Le W') : RsQ C W' r Q E := by
  cases r with
  | ok d s => exact fun W2 H' v a b c => h W2 H' v (le.trans a) b c
  | exc c p s => exact fun W2 H' cls dx a b c => h W2 H' cls dx (le.trans a) b c
  | bad n => exact h
theorem FlQ.mono {σ : L2.St} {r : Fl} {D : Ends} {Wx : WX} (h : FlQ C W σ r D Wx) (le : W.Le W') : FlQ C W' σ r D Wx := by
  cases r with
  | nx e s => exact fun W2 H' σ' a b c => h W2 H' σ' (le.trans a) b c
  | rt d s => exact fun W2 H' v a b c => h W2 H' v (le.trans a) b c
  | bk e s => exact fun W2 H' σ' a b c => h W2 H' σ' (le.trans a) b c
  | exc c p e s => exact fun W2 H' σ' cls dx a b c d => h W2 H' σ' cls dx (le.trans a) b c d
  | bad n => exact h
/-- a part first -/
theorem RvQ.bnd {r : Rv} {k : D → St → Rv} {Q : VK} {E : XK} (h : RvQ C W (r.bnd k) Q E) :
    RvQ C W r (fun v H => ∃ W' d s, W.Le W' ∧ SimS C W' H s ∧ RD C W' d v ∧ RvQ C W' (k d s) Q E) E := by
  cases r with
  | ok d s => exact fun W' H' v a b c => ⟨W', d, s, a, b, c, RvQ.mono (r := k d s) h a⟩
  | exc c p s => exact h
  | bad n => exact h
theorem RsQ.bnd {r : Rs} {k : List D → St → Rv} {Q : VK} {E : XK} (h : RvQ C W (r.bnd k) Q E) :
    RsQ C W r (fun vs H => ∃ W' ds s, W.Le W' ∧ SimS C W' H s ∧ RDs C W' ds vs ∧ RvQ C W' (k ds s) Q E) E := by
  cases r with
  | ok d s => exact fun W' H' v a b c => ⟨W', d, s, a, b, c, RvQ.mono (r := k d s) h a⟩
  | exc c p s => exact h
  | bad n => exact h
theorem RvQ.bns {r : Rv} {k : D → St → Rs} {Q : List V → Hp → Prop} {E : XK} (h : RsQ C W (r.bns k) Q E) :
    RvQ C W r (fun v H => ∃ W' d s, W.Le W' ∧ SimS C W' H s ∧ RD C W' d v ∧ RsQ C W' (k d s) Q E) E := by
  cases r with
  | ok d s => exact fun W' H' v a b c => ⟨W', d, s, a, b, c, RsQ.mono (r := k d s) h a⟩
  | exc c p s => exact h
  | bad n => exact h
theorem RsQ.bns {r : Rs} {k : List D → St → Rs} {Q : List V → Hp → Prop} {E : XK} (h : RsQ C W (r.bns k) Q E) :
    RsQ C W r (fun v H => ∃ W' d s, W.Le W' ∧ SimS C W' H s ∧ RDs C W' d v ∧ RsQ C W' (k d s) Q E) E := by
  cases r with
  | ok d s => exact fun W' H' v a b c => ⟨W', d, s, a, b, c, RsQ.mono (r := k d s) h a⟩
  | exc c p s => exact h
  | bad n => exact h
end
end Mv
end

section
set_option Elab.async false
set_option linter.all false
set_option maxRecDepth 100000
set_option maxHeartbeats 4000000
/-! Heap: what new things, stores, locks do to the pair of heap and cells. -/
namespace Mv
open PySem PySem.Spec PyProof.Rows L2

/-! ### cells by number -/
theorem beq_true_iff (a b : Nat) : Nat.beq a b = true ↔ a = b := ⟨Nat.eq_of_beq_eq_true, fun h => by rw [h]; exact Nat.beq_refl b⟩
theorem beq_false_iff (a b : Nat) : Nat.beq a b = false ↔ a ≠ b := by
  constructor
  · intro h e; rw [(beq_true_iff a b).mpr e] at h; cases h
  · intro h
    cases q : Nat.beq a b with
    | false => rfl
    | true => exact absurd ((beq_true_iff a b).mp q) h
theorem fnd_cons (c : Nat × Ob) (r : List (Nat × Ob)) (n : Nat) : fnd (c :: r) n = if c.1 = n then some c.2 else fnd r n := by
  show cond (Nat.beq c.1 n) (some c.2) (fnd r n) = _
  by_cases h : c.1 = n
  · rw [if_pos h, (beq_true_iff _ _).mpr h]; rfl
  · rw [if_neg h, (beq_false_iff _ _).mpr h]; rfl
theorem put_cons (c : Nat × Ob) (r : List (Nat × Ob)) (n : Nat) (o : Ob) : put (c :: r) n o = if c.1 = n then (c.1, o) :: r else c :: put r n o := by
  show cond (Nat.beq c.1 n) ((c.1, o) :: r) (c :: put r n o) = _
  by_cases h : c.1 = n
  · rw [if_pos h, (beq_true_iff _ _).mpr h]; rfl
  · rw [if_neg h, (beq_false_iff _ _).mpr h]; rfl
theorem gone_cons (c : Nat × Ob) (r : List (Nat × Ob)) (n : Nat) : gone (c :: r) n = if c.1 = n then r else c :: gone r n := by
  show cond (Nat.beq c.1 n) r (c :: gone r n) = _
  by_cases h : c.1 = n
  · rw [if_pos h, (beq_true_iff _ _).mpr h]; rfl
  · rw [if_neg h, (beq_false_iff _ _).mpr h]; rfl
theorem fnd_mem : ∀ {cs : List (Nat × Ob)} {n : Nat} {o : Ob}, fnd cs n = some o → n ∈ cs.map (·.1)
  | [], _, _, h => by cases h
  | c :: r, n, o, h => by
    rw [fnd_cons] at h
    by_cases e : c.1 = n
    · rw [← e]; simp
    · rw [if_neg e] at h
      rw [List.map_cons]
      exact List.mem_cons_of_mem _ (fnd_mem h)
theorem fnd_none : ∀ {cs : List (Nat × Ob)} {n : Nat}, n ∉ cs.map (·.1) → fnd cs n = none
  | [], _, _ => rfl
  | c :: r, n, h => by
    rw [fnd_cons, if_neg (fun e => h (by rw [← e]; simp))]
    exact fnd_none fun q => h (by rw [List.map_cons]; exact List.mem_cons_of_mem _ q)
theorem put_keys : ∀ (cs : List (Nat × Ob)) (n : Nat) (o : Ob), (put cs n o).map (·.1) = cs.map (·.1)
  | [], _, _ => rfl
  | c :: r, n, o => by
    rw [put_cons]
    by_cases e : c.1 = n
    · rw [if_pos e]; rfl
    · rw [if_neg e, List.map_cons, List.map_cons, put_keys r n o]
theorem fnd_put_self : ∀ {cs : List (Nat × Ob)} {n : Nat} {o o' : Ob}, fnd cs n = some o → fnd (put cs n o') n = some o'
  | [], _, _, _, h => by cases h
  | c :: r, n, o, o', h => by
    rw [fnd_cons] at h
    rw [put_cons]
    by_cases e : c.1 = n
    · rw [if_pos e, fnd_cons, if_pos e]
    · rw [if_neg e] at h
      rw [if_neg e, fnd_cons, if_neg e]
      exact fnd_put_self h
theorem fnd_put_ne : ∀ {cs : List (Nat × Ob)} {n m : Nat} {o : Ob}, m ≠ n → fnd (put cs n o) m = fnd cs m
  | [], _, _, _, _ => rfl
  | c :: r, n, m, o, h => by
    rw [put_cons]
    by_cases e : c.1 = n
    · rw [if_pos e, fnd_cons, fnd_cons, if_neg (fun q => h (q.symm.trans e)), if_neg (fun q => h (q.symm.trans e))]
    · rw [if_neg e, fnd_cons, fnd_cons, fnd_put_ne h]
theorem gone_sub : ∀ (cs : List (Nat × Ob)) (n : Nat), (gone cs n).Sublist cs
  | [], _ => List.Sublist.refl _
  | c :: r, n => by
    rw [gone_cons]
    by_cases e : c.1 = n
    · rw [if_pos e]; exact List.sublist_cons_self c r
    · rw [if_neg e]; exact (gone_sub r n).cons₂ c
theorem fnd_gone_self : ∀ {cs : List (Nat × Ob)} {n : Nat}, (cs.map (·.1)).Nodup → fnd (gone cs n) n = none
  | [], _, _ => rfl
  | c :: r, n, h => by
    rw [List.map_cons, List.nodup_cons] at h
    rw [gone_cons]
    by_cases e : c.1 = n
    · rw [if_pos e]; exact fnd_none (by rw [← e]; exact h.1)
    · rw [if_neg e, fnd_cons, if_neg e]; exact fnd_gone_self h.2
theorem fnd_gone_ne : ∀ {cs : List (Nat × Ob)} {n m : Nat}, m ≠ n → fnd (gone cs n) m = fnd cs m
  | [], _, _, _ => rfl
  | c :: r, n, m, h => by
    rw [gone_cons]
    by_cases e : c.1 = n
    · rw [if_pos e, fnd_cons, if_neg (fun q => h (q.symm.trans e))]
    · rw [if_neg e, fnd_cons, fnd_cons, fnd_gone_ne h]
theorem keepC_cons (n : Nat) (c : Nat × Ob) (r : List (Nat × Ob)) : keepC n (c :: r) = if c.1 < n then c :: r else keepC n r := by
  show cond (Nat.blt c.1 n) (c :: r) (keepC n r) = _
  by_cases h : c.1 < n
  · rw [if_pos h, show Nat.blt c.1 n = true from Nat.ble_eq.mpr h]; rfl
  · rw [if_neg h]
    cases q : Nat.blt c.1 n with
    | false => rfl
    | true => exact absurd (Nat.ble_eq.mp q) h
theorem keepC_sub (n : Nat) : ∀ cs : List (Nat × Ob), (keepC n cs).Sublist cs
  | [] => List.Sublist.refl _
  | c :: r => by
    rw [keepC_cons]
    by_cases h : c.1 < n
    · rw [if_pos h]; exact List.Sublist.refl _
    · rw [if_neg h]; exact (keepC_sub n r).trans (List.sublist_cons_self c r)
theorem fnd_sub : ∀ {cs ds : List (Nat × Ob)} {n : Nat} {o : Ob}, ds.Sublist cs → (cs.map (·.1)).Nodup → fnd ds n = some o → fnd cs n = some o
  | _, _, _, _, .slnil, _, h => h
  | c :: cs, ds, n, o, .cons _ s, nd, h => by
    rw [List.map_cons, List.nodup_cons] at nd
    have q := fnd_sub s nd.2 h
    rw [fnd_cons, if_neg (fun e => nd.1 (by rw [e]; exact fnd_mem q))]
    exact q
  | c :: cs, _ :: ds, n, o, .cons₂ _ s, nd, h => by
    rw [List.map_cons, List.nodup_cons] at nd
    rw [fnd_cons] at h ⊢
    by_cases e : c.1 = n
    · rw [if_pos e] at h ⊢; exact h
    · rw [if_neg e] at h ⊢; exact fnd_sub s nd.2 h
theorem fnd_keepC_lt : ∀ {cs : List (Nat × Ob)} {n m : Nat}, m < n → fnd (keepC n cs) m = fnd cs m
  | [], _, _, _ => rfl
  | c :: r, n, m, h => by
    rw [keepC_cons]
    by_cases e : c.1 < n
    · rw [if_pos e]
    · rw [if_neg e, fnd_cons, if_neg (fun q => e (by rw [q]; exact h))]
      exact fnd_keepC_lt h

section
variable {C : Cn} {W : Wd} {H : Hp} {s : St} {p : Addr}
theorem SimS.F_none (S : SimS C W H s) (hp : H p = none) : W.F p = none := by
  cases q : W.F p with
  | none => rfl
  | some o => rw [S.sub p o q] at hp; cases hp
/-- a thing is frozen: a new one, or one whose cell goes -/
abbrev Wd.frz (W : Wd) (p : Addr) (o : HO) : Wd := { W with F := upd W.F p o }
theorem Wd.le_frz (h : W.F p = none) (o : HO) : W.Le (W.frz p o) :=
  ⟨fun a u q => by show upd W.F p o a = some u; rw [upd_ne (ne_of_none q h)]; exact q, fun _ _ q => q, rfl, rfl⟩
/-- a new frozen thing -/
theorem SimS.laid (S : SimS C W H s) (hp : H p = none) (o : HO) : SimS C (W.frz p o) (upd H p o) s := by
  have le := Wd.le_frz (S.F_none hp) o
  refine ⟨fun a u q => ?_, fun n ob q => ?_, S.inj, S.new, fun n c vs q => ?_, S.nd, fun a vs q => ?_, S.hdT, S.tab.to le.F fun b ps e n => ⟨by rw [upd_ne (ne_of_none e hp)]; exact e, by show upd W.F p o b = none; rw [upd_ne (ne_of_none e hp)]; exact n⟩⟩
  · by_cases e : a = p
    · subst e
      have q' : upd W.F a o a = some u := q
      rw [upd_same] at q'
      rw [upd_same]; exact q'
    · have q' : upd W.F p o a = some u := q
      rw [upd_ne e] at q'
      rw [upd_ne e]; exact S.sub a u q'
  · obtain ⟨a, h1, h2, h3⟩ := S.cel n ob q
    have e : a ≠ p := h3.ne hp
    exact ⟨a, h1, by show upd W.F p o a = none; rw [upd_ne e]; exact h2, (h3.same (upd_ne e)).mono le⟩
  · obtain ⟨k, l, a, h1, h2, h3⟩ := S.lock n c vs q
    exact ⟨k, l, a, h1, h2, by rw [upd_ne (ne_of_none h3 hp)]; exact h3⟩
  · obtain ⟨h1, h2, h3⟩ := S.hd a vs q
    have e : a ≠ p := ne_of_none h1 hp
    exact ⟨by rw [upd_ne e]; exact h1, by show upd W.F p o a = none; rw [upd_ne e]; exact h2, h3⟩
theorem SimS.newT (S : SimS C W H s) (hp : H p = none) {ds : List D} {vs : List V} (r : RDs C W ds vs) :
    W.Le (W.frz p (.tup vs)) ∧ SimS C (W.frz p (.tup vs)) (upd H p (.tup vs)) s ∧ RD C (W.frz p (.tup vs)) (.tup ds) (.ref p) :=
  have le := Wd.le_frz (S.F_none hp) (.tup vs)
  ⟨le, S.laid hp _, .tup (.inl upd_same) (r.mono le)⟩
theorem SimS.newTn (S : SimS C W H s) (hp : H p = none) {o : Obj} (hd : o.dict = none) {ds : List D} {vs : List V} (r : RDs C W ds vs) :
    W.Le (W.frz p (.frz o (.tup vs))) ∧ SimS C (W.frz p (.frz o (.tup vs))) (upd H p (.frz o (.tup vs))) s ∧ RD C (W.frz p (.frz o (.tup vs))) (.tpn ds) (.ref p) :=
  have le := Wd.le_frz (S.F_none hp) (.frz o (.tup vs))
  ⟨le, S.laid hp _, .tpn hd upd_same (r.mono le)⟩
theorem SimS.newF (S : SimS C W H s) (hp : H p = none) {ds : List D} {vs : List V} (r : RDs C W ds vs) :
    W.Le (W.frz p (.lst vs)) ∧ SimS C (W.frz p (.lst vs)) (upd H p (.lst vs)) s ∧ RD C (W.frz p (.lst vs)) (.lst ds) (.ref p) :=
  have le := Wd.le_frz (S.F_none hp) (.lst vs)
  ⟨le, S.laid hp _, .lst upd_same (r.mono le)⟩
/-- a new cell -/
abbrev Wd.cel (W : Wd) (n : Nat) (p : Addr) : Wd := { W with ρ := fun m => if m = n then some p else W.ρ m }
theorem Wd.le_cel {n : Nat} (h : W.ρ n = none) : W.Le (W.cel n p) :=
  ⟨fun _ _ q => q, fun m a q => by
    show (if m = n then some p else W.ρ m) = some a
    rw [if_neg (fun e => by rw [e, h] at q; cases q)]; exact q, rfl, rfl⟩
theorem SimS.newO (S : SimS C W H s) (hp : H p = none) (u0 : HO) (ob : Ob) (hc : CellR C (W.cel s.nx p) (upd H p u0) p ob) :
    W.Le (W.cel s.nx p) ∧ SimS C (W.cel s.nx p) (upd H p u0) ⟨s.nx + 1, (s.nx, ob) :: s.cs⟩ ∧ RD C (W.cel s.nx p) (.loc s.nx) (.ref p) := by
  have hn := S.new s.nx (Nat.le_refl _)
  have le := Wd.le_cel (p := p) hn.2
  have hF := S.F_none hp
  have rho : ∀ m, m ≠ s.nx → (W.cel s.nx p).ρ m = W.ρ m := fun m h => if_neg h
  have rho0 : (W.cel s.nx p).ρ s.nx = some p := if_pos rfl
  have old : ∀ m o, fnd s.cs m = some o → m ≠ s.nx := fun m o h e => by rw [e, hn.1] at h; cases h
  have nep : ∀ m o a, fnd s.cs m = some o → W.ρ m = some a → a ≠ p := fun m o a h1 h2 => by
    obtain ⟨a', g1, _, g3⟩ := S.cel m o h1
    rw [h2] at g1; cases g1
    exact g3.ne hp
  refine ⟨le, ⟨fun a u q => ?_, fun n o q => ?_, fun n m a h1 h2 e1 e2 => ?_, fun n hle => ?_, fun n c ws q => ?_, ?_, fun a ws q => ?_, S.hdT, S.tab.to (fun _ _ q => q) fun b ps e n => ⟨by rw [upd_ne (ne_of_none e hp)]; exact e, n⟩⟩, .loc rho0⟩
  · rw [upd_ne (ne_of_none q hF)]; exact S.sub a u q
  · have q' : fnd ((s.nx, ob) :: s.cs) n = some o := q
    rw [fnd_cons] at q'
    by_cases e : s.nx = n
    · rw [if_pos e] at q'
      cases q'
      exact ⟨p, by rw [← e]; exact rho0, hF, hc⟩
    · rw [if_neg e] at q'
      obtain ⟨a, h1, h2, h3⟩ := S.cel n o q'
      exact ⟨a, le.ρ _ _ h1, h2, (h3.same (upd_ne (h3.ne hp))).mono le⟩
  · rw [fnd_cons] at h1 h2
    have key : ∀ m, (if s.nx = m then some ob else fnd s.cs m).isSome = true → m ≠ s.nx → ∃ o, fnd s.cs m = some o := fun m h ne => by
      rw [if_neg (Ne.symm ne)] at h
      exact Option.isSome_iff_exists.mp h
    by_cases en : n = s.nx
    · by_cases em : m = s.nx
      · rw [en, em]
      · exfalso
        obtain ⟨o, hm⟩ := key m h2 em
        rw [rho m em] at e2
        rw [en, rho0] at e1; cases e1
        exact nep m o p hm e2 rfl
    · by_cases em : m = s.nx
      · exfalso
        obtain ⟨o, hn'⟩ := key n h1 en
        rw [rho n en] at e1
        rw [em, rho0] at e2; cases e2
        exact nep n o p hn' e1 rfl
      · obtain ⟨o, hn'⟩ := key n h1 en
        obtain ⟨o', hm'⟩ := key m h2 em
        exact S.inj n m a (by rw [hn']; rfl) (by rw [hm']; rfl) (by rw [← rho n en]; exact e1) (by rw [← rho m em]; exact e2)
  · have hle' : s.nx + 1 ≤ n := hle
    obtain ⟨g1, g2⟩ := S.new n (by omega)
    exact ⟨by rw [fnd_cons, if_neg (show ¬ s.nx = n by omega)]; exact g1, by rw [rho n (by omega)]; exact g2⟩
  · obtain ⟨k, l, a, h1, h2, h3⟩ := S.lock n c ws q
    exact ⟨k, l, a, by rw [fnd_cons, if_neg (Ne.symm (old n _ h1))]; exact h1, le.ρ _ _ h2, by rw [upd_ne (ne_of_none h3 hp)]; exact h3⟩
  · show ((s.nx, ob) :: s.cs).map (·.1) |>.Nodup
    rw [List.map_cons, List.nodup_cons]
    refine ⟨fun hm => ?_, S.nd⟩
    obtain ⟨c, hc, e⟩ := List.mem_map.mp hm
    have : ∃ o, fnd s.cs s.nx = some o := by
      clear le rho rho0 old nep
      have : ∀ cs : List (Nat × Ob), c ∈ cs → ∃ o, fnd cs c.1 = some o := by
        intro cs
        induction cs with
        | nil => intro h; cases h
        | cons b r ih =>
          intro h
          rw [fnd_cons]
          by_cases e : b.1 = c.1
          · exact ⟨_, if_pos e⟩
          · rw [if_neg e]
            rcases List.mem_cons.mp h with q | q
            · exact absurd (by rw [q]) e
            · exact ih q
      have e' : c.1 = s.nx := e
      rw [← e']; exact this _ hc
    obtain ⟨o, ho⟩ := this
    rw [hn.1] at ho; cases ho
  · obtain ⟨h1, h2, h3⟩ := S.hd a ws q
    have e : a ≠ p := ne_of_none h1 hp
    refine ⟨by rw [upd_ne e]; exact h1, h2, fun n hn' z => ?_⟩
    rw [fnd_cons] at hn'
    by_cases e2 : n = s.nx
    · rw [e2, rho0] at z; cases z; exact e rfl
    · rw [if_neg (Ne.symm e2)] at hn'
      rw [rho n e2] at z
      exact h3 n hn' z
theorem SimS.newC (S : SimS C W H s) (hp : H p = none) {ds : List D} {vs : List V} (r : RDs C W ds vs) :
    W.Le (W.cel s.nx p) ∧ SimS C (W.cel s.nx p) (upd H p (.lst vs)) ⟨s.nx + 1, (s.nx, .lst 0 ds) :: s.cs⟩ ∧ RD C (W.cel s.nx p) (.loc s.nx) (.ref p) :=
  S.newO hp _ _ ⟨vs, upd_same, r.mono (Wd.le_cel (S.new s.nx (Nat.le_refl _)).2)⟩
/-- a new list of either kind -/
theorem newL_ok (S : SimS C W H s) (hp : H p = none) {m : Bool} {ds : List D} {vs : List V} (r : RDs C W ds vs) {Q : VK} {E : XK} (h : RvQ C W (newL m ds s) Q E) : vs.length ≤ sizeLine ∧ Q (.ref p) (upd H p (.lst vs)) := by
  unfold newL at h
  have hs : sizeLine = 16777216 := sizeLine_eq
  cases hb : Nat.ble ds.length 16777216 with
  | false => rw [hb] at h; exact h.elim
  | true =>
    rw [hb] at h
    have hl := Nat.ble_eq.mp hb
    refine ⟨by rw [← r.length, hs]; exact hl, ?_⟩
    cases m with
    | true =>
      obtain ⟨le, S', q⟩ := S.newC hp r
      exact h _ _ _ le S' q
    | false =>
      obtain ⟨le, S', q⟩ := S.newF hp r
      exact h _ _ _ le S' q
theorem newT_ok (S : SimS C W H s) (hp : H p = none) {ds : List D} {vs : List V} (r : RDs C W ds vs) {Q : VK} {E : XK} (h : RvQ C W (newT ds s) Q E) : Q (.ref p) (upd H p (.tup vs)) := by
  unfold newT at h
  cases hb : Nat.ble ds.length 16777216 with
  | false => rw [hb] at h; exact h.elim
  | true =>
    rw [hb] at h
    obtain ⟨le, S', q⟩ := S.newT hp r
    exact h _ _ _ le S' q
theorem newT_len {ds : List D} {s : St} {Q : VK} {E : XK} (h : RvQ C W (newT ds s) Q E) : ds.length ≤ sizeLine := by
  unfold newT at h
  cases hb : Nat.ble ds.length 16777216 with
  | false => rw [hb] at h; exact h.elim
  | true => rw [sizeLine_eq]; exact Nat.ble_eq.mp hb
/-- a cell is written -/
theorem SimS.writeO (S : SimS C W H s) {n : Nat} {o0 ob : Ob} {a : Addr} {u0 : HO} (hf : fnd s.cs n = some o0) (hnl : ∀ k l, o0 ≠ .lst (k + 1) l) (ha : W.ρ n = some a) (hc : CellR C W (upd H a u0) a ob) :
    SimS C W (upd H a u0) ⟨s.nx, put s.cs n ob⟩ := by
  obtain ⟨a', g1, g2, g3⟩ := S.cel n o0 hf
  rw [ha] at g1; cases g1
  have live : ∀ m, (fnd (put s.cs n ob) m).isSome = true → (fnd s.cs m).isSome = true := fun m h => by
    by_cases e : m = n
    · rw [e, hf]; rfl
    · rw [fnd_put_ne e] at h; exact h
  refine ⟨fun b u q => ?_, fun m o q => ?_, fun m m' b h1 h2 e1 e2 => S.inj m m' b (live m h1) (live m' h2) e1 e2, fun m h => ?_, fun m c ws q => ?_, by show ((put s.cs n _).map (·.1)).Nodup; rw [put_keys]; exact S.nd, fun b ws q => ?_, S.hdT, S.tab.to (fun _ _ q => q) fun b ps e n => ⟨by rw [upd_ne (g3.tbl e)]; exact e, n⟩⟩
  · rw [upd_ne (fun e => by rw [e, g2] at q; cases q)]; exact S.sub b u q
  · by_cases e : m = n
    · rw [e] at q
      have q' : fnd (put s.cs n ob) n = some o := q
      rw [fnd_put_self hf] at q'; cases q'
      exact ⟨a, by rw [e]; exact ha, g2, hc⟩
    · have q' : fnd (put s.cs n ob) m = some o := q
      rw [fnd_put_ne e] at q'
      obtain ⟨b, h1, h2, h3⟩ := S.cel m o q'
      exact ⟨b, h1, h2, h3.same (upd_ne (fun z => e (S.inj m n b (by rw [q']; rfl) (by rw [hf]; rfl) h1 (by rw [z]; exact ha))))⟩
  · obtain ⟨h1, h2⟩ := S.new m h
    have e : m ≠ n := fun z => by rw [z, hf] at h1; cases h1
    exact ⟨by show fnd (put s.cs n _) m = none; rw [fnd_put_ne e]; exact h1, h2⟩
  · obtain ⟨k, t, b, h1, h2, h3⟩ := S.lock m c ws q
    have e : m ≠ n := fun z => by rw [z, hf] at h1; cases h1; exact hnl _ _ rfl
    refine ⟨k, t, b, by show fnd (put s.cs n _) m = _; rw [fnd_put_ne e]; exact h1, h2, ?_⟩
    rw [upd_ne (fun z => e (S.inj m n b (by rw [h1]; rfl) (by rw [hf]; rfl) h2 (by rw [z]; exact ha)))]
    exact h3
  · obtain ⟨h1, h2, h3⟩ := S.hd b ws q
    have e : b ≠ a := fun z => h3 n (by rw [hf]; rfl) (by rw [z]; exact ha)
    exact ⟨by rw [upd_ne e]; exact h1, h2, fun m hm => h3 m (live m hm)⟩
theorem SimS.write (S : SimS C W H s) {n : Nat} {l l' : List D} {a : Addr} {vs' : List V} (hf : fnd s.cs n = some (.lst 0 l)) (ha : W.ρ n = some a) (r : RDs C W l' vs') :
    SimS C W (upd H a (.lst vs')) ⟨s.nx, put s.cs n (.lst 0 l')⟩ := S.writeO hf (fun k l e => by cases e) ha ⟨vs', upd_same, r⟩
/-- a cell goes, its list is frozen -/
theorem SimS.freeze (S : SimS C W H s) {n : Nat} {l : List D} {a : Addr} (hf : fnd s.cs n = some (.lst 0 l)) (ha : W.ρ n = some a) :
    ∃ vs, W.Le (W.frz a (.lst vs)) ∧ SimS C (W.frz a (.lst vs)) H ⟨s.nx, gone s.cs n⟩ ∧ RD C (W.frz a (.lst vs)) (.lst l) (.ref a) := by
  obtain ⟨a', vs, g1, g2, g3, g4⟩ := S.cell n 0 l hf
  rw [ha] at g1; cases g1
  have le := Wd.le_frz g2 (.lst vs)
  have sub := gone_sub s.cs n
  have back : ∀ m o, fnd (gone s.cs n) m = some o → m ≠ n ∧ fnd s.cs m = some o := fun m o h => by
    have e : m ≠ n := fun e => by rw [e, fnd_gone_self S.nd] at h; cases h
    exact ⟨e, by rw [fnd_gone_ne e] at h; exact h⟩
  refine ⟨vs, le, ⟨fun b u q => ?_, fun m o q => ?_, fun m m' b h1 h2 e1 e2 => ?_, fun m h => ?_, fun m c ws q => ?_, S.nd.sublist (sub.map _), fun b ws q => ?_, S.hdT, S.tab.to le.F fun b ps e n => have ne : b ≠ a := fun z => by { rw [z, g3] at e; cases e }; ⟨e, by show upd W.F a (.lst vs) b = none; rw [upd_ne ne]; exact n⟩⟩, .lst upd_same (g4.mono le)⟩
  · by_cases e : b = a
    · subst e
      have q' : upd W.F b (.lst vs) b = some u := q
      rw [upd_same] at q'; cases q'; exact g3
    · have q' : upd W.F a (.lst vs) b = some u := q
      rw [upd_ne e] at q'; exact S.sub b u q'
  · obtain ⟨e, q'⟩ := back m _ q
    obtain ⟨b, h1, h2, h3⟩ := S.cel m o q'
    have ne : b ≠ a := fun z => e (S.inj m n b (by rw [q']; rfl) (by rw [hf]; rfl) h1 (by rw [z]; exact ha))
    exact ⟨b, h1, by show upd W.F a _ b = none; rw [upd_ne ne]; exact h2, h3.mono le⟩
  · obtain ⟨o1, q1⟩ := Option.isSome_iff_exists.mp h1
    obtain ⟨o2, q2⟩ := Option.isSome_iff_exists.mp h2
    obtain ⟨_, z1⟩ := back m _ q1
    obtain ⟨_, z2⟩ := back m' _ q2
    exact S.inj m m' b (by rw [z1]; rfl) (by rw [z2]; rfl) e1 e2
  · obtain ⟨h1, h2⟩ := S.new m h
    have e : m ≠ n := fun z => by rw [z, hf] at h1; cases h1
    exact ⟨by show fnd (gone s.cs n) m = none; rw [fnd_gone_ne e]; exact h1, h2⟩
  · obtain ⟨k, t, b, h1, h2, h3⟩ := S.lock m c ws q
    have e : m ≠ n := fun z => by rw [z, hf] at h1; cases h1
    exact ⟨k, t, b, by show fnd (gone s.cs n) m = _; rw [fnd_gone_ne e]; exact h1, h2, h3⟩
  · obtain ⟨h1, h2, h3⟩ := S.hd b ws q
    have e : b ≠ a := fun z => h3 n (by rw [hf]; rfl) (by rw [z]; exact ha)
    refine ⟨h1, by show upd W.F a _ b = none; rw [upd_ne e]; exact h2, fun m hm => ?_⟩
    obtain ⟨o1, q1⟩ := Option.isSome_iff_exists.mp hm
    obtain ⟨_, z1⟩ := back m _ q1
    exact h3 m (by rw [z1]; rfl)
/-- the cells of a def go at its end -/
theorem SimS.keep (S : SimS C W H s) (n0 : Nat) (hl : ∀ n c vs, W.lk n = some (c, vs) → n < n0) : SimS C W H ⟨s.nx, keepC n0 s.cs⟩ := by
  have sub := keepC_sub n0 s.cs
  have back : ∀ m o, fnd (keepC n0 s.cs) m = some o → fnd s.cs m = some o := fun m o h => fnd_sub sub S.nd h
  refine ⟨S.sub, fun m o q => S.cel m o (back m _ q), fun m m' b h1 h2 e1 e2 => ?_, fun m h => ⟨?_, (S.new m h).2⟩, fun m c ws q => ?_, S.nd.sublist (sub.map _), fun b ws q => ?_, S.hdT, S.tab⟩
  · obtain ⟨o1, q1⟩ := Option.isSome_iff_exists.mp h1
    obtain ⟨o2, q2⟩ := Option.isSome_iff_exists.mp h2
    exact S.inj m m' b (by rw [back m _ q1]; rfl) (by rw [back m' _ q2]; rfl) e1 e2
  · show fnd (keepC n0 s.cs) m = none
    cases q : fnd (keepC n0 s.cs) m with
    | none => rfl
    | some o => have z := back m _ q; rw [(S.new m h).1] at z; cases z
  · obtain ⟨k, t, b, h1, h2, h3⟩ := S.lock m c ws q
    exact ⟨k, t, b, by show fnd (keepC n0 s.cs) m = _; rw [fnd_keepC_lt (hl m c ws q)]; exact h1, h2, h3⟩
  · obtain ⟨h1, h2, h3⟩ := S.hd b ws q
    refine ⟨h1, h2, fun m hm => ?_⟩
    obtain ⟨o1, q1⟩ := Option.isSome_iff_exists.mp hm
    exact h3 m (by rw [back m _ q1]; rfl)

/-! ### locks -/
theorem SimS.relk (S : SimS C W H s) {W' : Wd} (hF : W'.F = W.F) (hρ : W'.ρ = W.ρ) (hl : ∀ n c vs, W'.lk n = some (c, vs) → ∃ k l a, fnd s.cs n = some (.lst (k + c + 1) l) ∧ W.ρ n = some a ∧ H a = some (.lst vs)) (hh : ∀ a o, W'.hd a = some o → H a = some o ∧ W.F a = none ∧ ∀ n, (fnd s.cs n).isSome = true → W.ρ n ≠ some a) (hT : ∀ a o, W'.hd a = some o → ∀ ps, o ≠ .tbl ps) : SimS C W' H s :=
  ⟨by rw [hF]; exact S.sub, fun n o q => by
    obtain ⟨a, h1, h2, h3⟩ := S.cel n o q
    exact ⟨a, by rw [hρ]; exact h1, by rw [hF]; exact h2, h3.lk hF hρ⟩, by rw [hρ]; exact S.inj, fun n h => by rw [hρ]; exact S.new n h, fun n c vs q => by rw [hρ]; exact hl n c vs q, S.nd, fun a vs q => by rw [hF, hρ]; exact hh a vs q, hT, by rw [hF]; exact S.tab⟩
/-- the count of a lock changes, its list stays -/
theorem SimS.recount (S : SimS C W H s) {n k k' : Nat} {l : List D} (hf : fnd s.cs n = some (.lst k l)) (hk : ∀ c vs, W.lk n = some (c, vs) → c < k') : SimS C W H ⟨s.nx, put s.cs n (.lst k' l)⟩ := by
  have live : ∀ m, (fnd (put s.cs n (.lst k' l)) m).isSome = true → (fnd s.cs m).isSome = true := fun m h => by
    by_cases e : m = n
    · rw [e, hf]; rfl
    · rw [fnd_put_ne e] at h; exact h
  refine ⟨S.sub, fun m o q => ?_, fun m m' b h1 h2 e1 e2 => S.inj m m' b (live m h1) (live m' h2) e1 e2, fun m h => ?_, fun m c ws q => ?_, by show ((put s.cs n _).map (·.1)).Nodup; rw [put_keys]; exact S.nd, fun b ws q => ?_, S.hdT, S.tab⟩
  · by_cases e : m = n
    · have q' : fnd (put s.cs n (.lst k' l)) m = some o := q
      rw [e, fnd_put_self hf] at q'; cases q'
      rw [e]
      obtain ⟨a, h1, h2, h3⟩ := S.cel n _ hf
      exact ⟨a, h1, h2, h3⟩
    · have q' : fnd (put s.cs n (.lst k' l)) m = some o := q
      rw [fnd_put_ne e] at q'; exact S.cel m o q'
  · obtain ⟨h1, h2⟩ := S.new m h
    have e : m ≠ n := fun z => by rw [z, hf] at h1; cases h1
    exact ⟨by show fnd (put s.cs n _) m = none; rw [fnd_put_ne e]; exact h1, h2⟩
  · obtain ⟨j, t, b, h1, h2, h3⟩ := S.lock m c ws q
    by_cases e : m = n
    · rw [e, hf] at h1; cases h1
      have hp := hk c ws (by rw [← e, q])
      refine ⟨k' - c - 1, l, b, ?_, h2, h3⟩
      show fnd (put s.cs n _) m = _
      rw [e, fnd_put_self hf, show k' - c - 1 + c + 1 = k' by omega]
    · exact ⟨j, t, b, by show fnd (put s.cs n _) m = _; rw [fnd_put_ne e]; exact h1, h2, h3⟩
  · obtain ⟨h1, h2, h3⟩ := S.hd b ws q
    exact ⟨h1, h2, fun m hm => h3 m (live m hm)⟩
end
end Mv
end

section
set_option Elab.async false
set_option linter.all false
set_option maxRecDepth 100000
set_option maxHeartbeats 4000000
/-! Data: D beside the model's plain data. -/
namespace Mv
open PySem PySem.Spec PyProof.Rows L2
mutual
def dv : D → PyData
  | .non => .none
  | .bl b => .bool b
  | .int i => .int i
  | .str l => .str ⟨l.toArray⟩
  | .tup ds => .tuple (dvs ds)
  | .lst ds => .list (dvs ds)
  | _ => .none
def dvs : List D → List PyData
  | [] => []
  | d :: r => dv d :: dvs r
end
theorem cond_eq_true {a b : Bool} (h : cond a b false = true) : a = true ∧ b = true := by cases a <;> cases b <;> simp_all
mutual
theorem shp_plain : ∀ (n : Nat) (d : D), shp n d = true → (dv d).plain = true ∧ (dv d).depth ≤ n + 1
  | _, .non, _ => ⟨by simp [dv, PyData.plain], by simp [dv, PyData.depth]⟩
  | _, .bl _, _ => ⟨by simp [dv, PyData.plain], by simp [dv, PyData.depth]⟩
  | _, .int _, _ => ⟨by simp [dv, PyData.plain], by simp [dv, PyData.depth]⟩
  | _, .str _, _ => ⟨by simp [dv, PyData.plain], by simp [dv, PyData.depth]⟩
  | n, .tup ds, h => by
    have := shps_plain n ds (by simpa [shp] using h)
    exact ⟨by simp [dv, PyData.plain, this.1], by simp [dv, PyData.depth]; omega⟩
  | n, .lst ds, h => by
    have := shps_plain n ds (by simpa [shp] using h)
    exact ⟨by simp [dv, PyData.plain, this.1], by simp [dv, PyData.depth]; omega⟩
  | _, .loc _, h => by simp [shp] at h
  | _, .fn _, h => by simp [shp] at h
  | _, .ty _, h => by simp [shp] at h
  | _, .exc _ _, h => by simp [shp] at h
  | _, .scr _, h => by simp [shp] at h
  | _, .rng _ _, h => by simp [shp] at h
theorem shps_plain : ∀ (n : Nat) (ds : List D), shps n ds = true → PyData.plainAll (dvs ds) = true ∧ PyData.depthAll (dvs ds) ≤ n
  | _, [], _ => ⟨by simp [dvs, PyData.plainAll], by simp [dvs, PyData.depthAll]⟩
  | 0, _ :: _, h => by simp [shps] at h
  | n + 1, d :: r, h => by
    have h := cond_eq_true (by simpa [shps] using h)
    have a := shp_plain n d h.1
    have b := shps_plain (n + 1) r h.2
    refine ⟨by simp [dvs, PyData.plainAll, a.1, b.1], ?_⟩
    simp [dvs, PyData.depthAll]
    omega
end
section
variable {C : Cn} {W : Wd} {H : Hp}
mutual
theorem RD.dp (hF : ∀ a o, W.F a = some o → H a = some o) : ∀ {n : Nat} {d : D} {v : V}, shp n d = true → RD C W d v → Dp C.K H v (dv d)
  | _, _, _, _, .non => by simp only [dv]; exact .non
  | _, _, _, _, .bl b => by simp only [dv]; exact .bl b
  | _, _, _, _, .int i => by simp only [dv]; exact .int i
  | _, _, _, _, .str l => by simp only [dv]; exact .str _
  | n, _, _, h, .tup q r => by simp only [dv]; exact .tup (q.sq hF) (RDs.dp (n := n) hF (by simpa [shp] using h) r)
  | _, _, _, h, .tpn _ _ _ => by simp [shp] at h
  | n, _, _, h, .lst q r => by simp only [dv]; exact .lst (.inl (.inl (hF _ _ q))) (RDs.dp (n := n) hF (by simpa [shp] using h) r)
  | _, _, _, h, .loc _ => by simp [shp] at h
  | _, _, _, h, .fn _ => by simp [shp] at h
  | _, _, _, h, .tyb _ => by simp [shp] at h
  | _, _, _, h, .tyo _ _ => by simp [shp] at h
  | _, _, _, h, .scr _ => by simp [shp] at h
  | _, _, _, h, .rng _ => by simp [shp] at h
  | _, _, _, h, .exc _ => by simp [shp] at h
theorem RDs.dp (hF : ∀ a o, W.F a = some o → H a = some o) : ∀ {n : Nat} {ds : List D} {vs : List V}, shps n ds = true → RDs C W ds vs → DpAll C.K H vs (dvs ds)
  | _, _, _, _, .nil => by simp only [dvs]; exact .nil
  | 0, _, _, h, .cons _ _ => by simp [shps] at h
  | n + 1, _, _, h, .cons q r => by
    have h := cond_eq_true (by simpa [shps] using h)
    simp only [dvs]
    exact .cons (RD.dp (n := n) hF h.1 q) (RDs.dp (n := n + 1) hF h.2 r)
end
end
theorem ieqb_eq (a b : Int) : ieqb a b = (a == b) := by
  rw [Bool.eq_iff_iff]
  cases a with
  | ofNat a => cases b with
    | ofNat b => simp [ieqb]; omega
    | negSucc b => simp [ieqb]
  | negSucc a => cases b with
    | ofNat b => simp [ieqb]
    | negSucc b => simp [ieqb]
theorem iltb_eq (a b : Int) : iltb a b = decide (a < b) := by
  rw [Bool.eq_iff_iff]
  cases a with
  | ofNat a => cases b with
    | ofNat b => simp [iltb, Nat.blt]; omega
    | negSucc b => simp [iltb]; omega
  | negSucc a => cases b with
    | ofNat b => simp [iltb]; omega
    | negSucc b => simp [iltb, Nat.blt]; omega
theorem leqb_eq : ∀ a b : List Nat, leqb a b = (a == b)
  | [], [] => by simp [leqb]
  | [], _ :: _ => by simp [leqb]
  | _ :: _, [] => by simp [leqb]
  | x :: a, y :: b => by
    simp only [leqb, leqb_eq a b]
    rw [List.cons_beq_cons]
    cases h : Nat.beq x y with
    | true => rw [(beq_true_iff x y).mp h]; simp
    | false => simp [(beq_false_iff x y).mp h]
theorem beqb_eq (a b : Bool) : beqb a b = (a == b) := by cases a <;> cases b <;> rfl
theorem str_beq (a b : List Nat) : ((⟨a.toArray⟩ : Str) == ⟨b.toArray⟩) = (a == b) := by
  rw [Bool.eq_iff_iff]
  simp
mutual
theorem deq_eqv : ∀ (n m : Nat) (d e : D), shp n d = true → shp m e = true → deq d e = (dv d).eqv (dv e)
  | n, m, .non, e, _, h => by cases e <;> simp_all [deq, dv, PyData.eqv, shp]
  | n, m, .bl b, e, _, h => by cases e <;> simp_all [deq, dv, PyData.eqv, shp, beqb_eq, ieqb_eq, b2n] <;> (cases b <;> rfl)
  | n, m, .int i, e, _, h => by
    cases e <;> simp_all [deq, dv, PyData.eqv, shp, beqb_eq, ieqb_eq, b2n]
    rename_i b; cases b <;> rfl
  | n, m, .str l, e, _, h => by cases e <;> simp_all [deq, dv, PyData.eqv, shp, leqb_eq, -Str.mk.injEq, str_beq]
  | n, m, .tup l, e, g, h => by
    have g : shps n l = true := by simpa [shp] using g
    cases e <;> simp_all [deq, dv, PyData.eqv, shp]
    exact deqs_eqv n m l _ g h
  | n, m, .lst l, e, g, h => by
    have g : shps n l = true := by simpa [shp] using g
    cases e <;> simp_all [deq, dv, PyData.eqv, shp]
    exact deqs_eqv n m l _ g h
  | _, _, .loc _, _, h, _ => by simp [shp] at h
  | _, _, .fn _, _, h, _ => by simp [shp] at h
  | _, _, .ty _, _, h, _ => by simp [shp] at h
  | _, _, .exc _ _, _, h, _ => by simp [shp] at h
  | _, _, .scr _, _, h, _ => by simp [shp] at h
  | _, _, .rng _ _, _, h, _ => by simp [shp] at h
theorem deqs_eqv : ∀ (n m : Nat) (d e : List D), shps n d = true → shps m e = true → deqs d e = PyData.eqvAll (dvs d) (dvs e)
  | _, _, [], e, _, _ => by cases e <;> simp [deqs, dvs, PyData.eqvAll]
  | _, _, _ :: _, [], _, _ => by simp [deqs, dvs, PyData.eqvAll]
  | 0, _, _ :: _, _ :: _, h, _ => by simp [shps] at h
  | _ + 1, 0, _ :: _, _ :: _, _, h => by simp [shps] at h
  | n + 1, m + 1, a :: d, b :: e, g, h => by
    have g := cond_eq_true (by simpa [shps] using g)
    have h := cond_eq_true (by simpa [shps] using h)
    have h1 := deq_eqv n m a b g.1 h.1
    have h2 := deqs_eqv (n + 1) (m + 1) d e g.2 h.2
    simp only [deqs, dvs, PyData.eqvAll, h1, h2]
    cases (dv a).eqv (dv b) <;> rfl
end
theorem memD_eq : ∀ (n m : Nat) (d : D) (l : List D), shp n d = true → shps m l = true → memD d l = (dvs l).any (fun y => y.eqv (dv d))
  | _, _, _, [], _, _ => by simp [memD, dvs]
  | _, 0, _, _ :: _, _, h => by simp [shps] at h
  | n, m + 1, d, x :: r, g, h => by
    have h := cond_eq_true (by simpa [shps] using h)
    simp only [memD, dvs, List.any_cons, memD_eq n (m + 1) d r g h.2, deq_eqv m n x d h.1 g]
    cases (dv x).eqv (dv d) <;> rfl
theorem lltb_eq : ∀ a b : List Nat, lltb a b = decide (a < b)
  | [], [] => by simp [lltb]
  | [], _ :: _ => by simp [lltb]
  | _ :: _, [] => by simp [lltb]
  | x :: a, y :: b => by
    simp only [lltb, lltb_eq a b]
    rw [Bool.eq_iff_iff]
    cases h : Nat.beq x y with
    | true =>
      have := (beq_true_iff x y).mp h
      subst this
      simp [List.cons_lt_cons_iff]
    | false =>
      have := (beq_false_iff x y).mp h
      simp only [cond_false, decide_eq_true_eq, List.cons_lt_cons_iff]
      constructor
      · intro q; exact .inl (Nat.ble_eq.mp q)
      · intro q
        rcases q with q | q
        · exact Nat.ble_eq.mpr q
        · exact absurd q.1 this
mutual
theorem alk_ok : ∀ d e : D, alk d e = true → W.alike (dv d) (dv e) = true ∧ dv d ≠ .none
  | .non, e, h => by simp [alk] at h
  | .bl b, e, h => by simp [alk] at h
  | .int i, e, h => by cases e <;> simp_all [alk, dv, W.alike]
  | .str l, e, h => by cases e <;> simp_all [alk, dv, W.alike]
  | .tup l, e, h => by
    cases e <;> simp_all [alk, dv, W.alike]
    exact alks_ok _ _ h
  | .lst l, e, h => by
    cases e <;> simp_all [alk, dv, W.alike]
    exact alks_ok _ _ h
  | .loc _, _, h => by simp [alk] at h
  | .fn _, _, h => by simp [alk] at h
  | .ty _, _, h => by simp [alk] at h
  | .exc _ _, _, h => by simp [alk] at h
  | .scr _, _, h => by simp [alk] at h
  | .rng _ _, _, h => by simp [alk] at h
theorem alks_ok : ∀ d e : List D, alks d e = true → W.alikeAll (dvs d) (dvs e) = true
  | [], e, _ => by cases e <;> simp [dvs, W.alikeAll]
  | _ :: _, [], _ => by simp [dvs, W.alikeAll]
  | a :: d, b :: e, h => by
    have h := cond_eq_true (by simpa [alks] using h)
    simp [dvs, W.alikeAll, (alk_ok a b h.1).1, alks_ok d e h.2]
end
theorem lex_nil_cons (y : PyData) (ys : List PyData) : PyProof.Rows.lexLt itemOrd (W.keyToksAll []) (W.keyToksAll (y :: ys)) = true := by
  unfold W.keyToksAll PyProof.Rows.lexLt
  simp [itemLt]
theorem lex_cons_nil (y : PyData) (ys : List PyData) : PyProof.Rows.lexLt itemOrd (W.keyToksAll (y :: ys)) (W.keyToksAll []) = false := by
  unfold W.keyToksAll PyProof.Rows.lexLt
  simp [itemLt]
theorem lex_nil_nil : PyProof.Rows.lexLt itemOrd (W.keyToksAll []) (W.keyToksAll []) = false := by
  unfold W.keyToksAll PyProof.Rows.lexLt
  simp [itemLt]
  simp [PyProof.Rows.lexLt]
mutual
theorem dlt_ok : ∀ (n m : Nat) (d e : D), shp n d = true → shp m e = true → alk d e = true → dlt d e = W.dataLt (dv d) (dv e)
  | _, _, .non, e, _, _, h => by simp [alk] at h
  | _, _, .bl b, e, _, _, h => by simp [alk] at h
  | _, _, .int i, e, _, _, h => by
    cases e <;> simp_all [alk, dv]
    rw [W.dataLt_int]; simp only [dlt]; exact iltb_eq _ _
  | _, _, .str l, e, _, _, h => by
    cases e <;> simp_all [alk, dv]
    rw [W.dataLt_str]; simp only [dlt]; exact lltb_eq _ _
  | n, m, .tup l, e, g1, g2, h => by
    have g1 : shps n l = true := by simpa [shp] using g1
    cases e <;> simp_all [alk, dv]
    rename_i l2
    have g2 : shps m l2 = true := by simpa [shp] using g2
    rw [W.dataLt_tuple]; simp only [dlt]; exact dlts_ok n m _ _ g1 g2 h
  | n, m, .lst l, e, g1, g2, h => by
    have g1 : shps n l = true := by simpa [shp] using g1
    cases e <;> simp_all [alk, dv]
    rename_i l2
    have g2 : shps m l2 = true := by simpa [shp] using g2
    rw [W.dataLt_list]; simp only [dlt]; exact dlts_ok n m _ _ g1 g2 h
  | _, _, .loc _, _, _, _, h => by simp [alk] at h
  | _, _, .fn _, _, _, _, h => by simp [alk] at h
  | _, _, .ty _, _, _, _, h => by simp [alk] at h
  | _, _, .exc _ _, _, _, _, h => by simp [alk] at h
  | _, _, .scr _, _, _, _, h => by simp [alk] at h
  | _, _, .rng _ _, _, _, _, h => by simp [alk] at h
theorem dlts_ok : ∀ (n m : Nat) (d e : List D), shps n d = true → shps m e = true → alks d e = true → dlts d e = PyProof.Rows.lexLt itemOrd (W.keyToksAll (dvs d)) (W.keyToksAll (dvs e))
  | _, _, [], [], _, _, _ => by simp only [dlts, dvs]; exact lex_nil_nil.symm
  | _, _, [], _ :: _, _, _, _ => by simp only [dlts, dvs]; exact (lex_nil_cons _ _).symm
  | _, _, _ :: _, [], _, _, _ => by simp only [dlts, dvs]; exact (lex_cons_nil _ _).symm
  | 0, _, _ :: _, _ :: _, h, _, _ => by simp [shps] at h
  | _ + 1, 0, _ :: _, _ :: _, _, h, _ => by simp [shps] at h
  | n + 1, m + 1, a :: d, b :: e, g1, g2, h => by
    have g1 := cond_eq_true (by simpa [shps] using g1)
    have g2 := cond_eq_true (by simpa [shps] using g2)
    have h := cond_eq_true (by simpa [alks] using h)
    have q := deq_eqv n m a b g1.1 g2.1
    have hk := (alk_ok a b h.1).1
    simp only [dlts, dvs]
    cases z : deq a b with
    | true =>
      rw [z] at q
      rw [W.dataLt_all_yes hk q.symm]
      exact dlts_ok (n + 1) (m + 1) d e g1.2 g2.2 h.2
    | false =>
      rw [z] at q
      rw [W.dataLt_all_no hk q.symm]
      exact dlt_ok n m a b g1.1 g2.1 h.1
end
end Mv
end

section
set_option Elab.async false
set_option linter.all false
set_option maxRecDepth 100000
set_option maxHeartbeats 4000000
/-! DctR: dict cells beside the dicts of the heap. -/
namespace Mv
open PySem PySem.Spec PyProof.Rows L2
mutual
theorem kyo_nk : ∀ {n : Nat} {d : D}, kyo n d = true → ∃ k, nkD n d = some k
  | n, .non, _ => ⟨_, by rw [nkD]⟩
  | n, .bl _, _ => ⟨_, by rw [nkD]⟩
  | n, .int _, _ => ⟨_, by rw [nkD]⟩
  | n, .str _, _ => ⟨_, by rw [nkD]⟩
  | n, .tup ds, h => by
    obtain ⟨k, hk⟩ := kyos_nk (n := n) (d := ds) (by simpa [kyo] using h)
    exact ⟨.tup k, by rw [nkD, hk]; rfl⟩
  | n, .lst _, h => by simp [kyo] at h
  | n, .tpn _, h => by simp [kyo] at h
  | n, .loc _, h => by simp [kyo] at h
  | n, .fn _, h => by simp [kyo] at h
  | n, .ty _, h => by simp [kyo] at h
  | n, .exc _ _, h => by simp [kyo] at h
  | n, .scr _, h => by simp [kyo] at h
  | n, .rng _ _, h => by simp [kyo] at h
theorem kyos_nk : ∀ {n : Nat} {d : List D}, kyos n d = true → ∃ k, nkDs n d = some k
  | n, [], _ => ⟨[], by cases n <;> rw [nkDs]⟩
  | 0, _ :: _, h => by simp [kyos] at h
  | n + 1, d :: r, h => by
    have h := cond_eq_true (show cond (kyo n d) (kyos (n + 1) r) false = true by simpa [kyos] using h)
    obtain ⟨a, ha⟩ := kyo_nk h.1
    obtain ⟨b, hb⟩ := kyos_nk h.2
    exact ⟨a :: b, by rw [nkDs, ha, hb]; rfl⟩
end
theorem obnd_ex {α β : Type} {o : Option α} {k : α → Option β} {b : β} (h : obnd o none k = some b) : ∃ a, o = some a ∧ k a = some b := by
  cases o with
  | none => cases h
  | some a => exact ⟨a, rfl, h⟩
theorem nkD_tup {n : Nat} {ds : List D} {k : NK} (h : nkD n (.tup ds) = some k) : ∃ ks, nkDs n ds = some ks ∧ k = .tup ks := by
  rw [nkD] at h
  obtain ⟨ks, h1, h2⟩ := obnd_ex h
  cases h2
  exact ⟨ks, h1, rfl⟩
theorem nkDs_cons {n : Nat} {d : D} {r : List D} {ks : List NK} (h : nkDs n (d :: r) = some ks) : ∃ m a b, n = m + 1 ∧ nkD m d = some a ∧ nkDs (m + 1) r = some b ∧ ks = a :: b := by
  cases n with
  | zero => rw [nkDs] at h; cases h
  | succ m =>
    rw [nkDs] at h
    obtain ⟨a, h1, h2⟩ := obnd_ex h
    obtain ⟨b, h3, h4⟩ := obnd_ex h2
    cases h4
    exact ⟨m, a, b, rfl, h1, h3, rfl⟩
mutual
theorem nk_dep : ∀ {d : D} {n : Nat} {k : NK}, nkD n d = some k → k.depth ≤ n + 1
  | .non, n, k, h => by rw [nkD] at h; cases h; simp [NestedKey.depth]
  | .bl _, n, k, h => by rw [nkD] at h; cases h; simp [NestedKey.depth]
  | .int _, n, k, h => by rw [nkD] at h; cases h; simp [NestedKey.depth]
  | .str _, n, k, h => by rw [nkD] at h; cases h; simp [NestedKey.depth]
  | .tup ds, n, k, h => by
    obtain ⟨ks, h1, h2⟩ := nkD_tup h
    subst h2
    have := nks_dep h1
    simp only [NestedKey.depth]; omega
  | .lst _, n, k, h => by rw [nkD] at h <;> first | cases h | (intros; contradiction)
  | .tpn _, n, k, h => by rw [nkD] at h <;> first | cases h | (intros; contradiction)
  | .loc _, n, k, h => by rw [nkD] at h <;> first | cases h | (intros; contradiction)
  | .fn _, n, k, h => by rw [nkD] at h <;> first | cases h | (intros; contradiction)
  | .ty _, n, k, h => by rw [nkD] at h <;> first | cases h | (intros; contradiction)
  | .exc _ _, n, k, h => by rw [nkD] at h <;> first | cases h | (intros; contradiction)
  | .scr _, n, k, h => by rw [nkD] at h <;> first | cases h | (intros; contradiction)
  | .rng _ _, n, k, h => by rw [nkD] at h <;> first | cases h | (intros; contradiction)
theorem nks_dep : ∀ {ds : List D} {n : Nat} {ks : List NK}, nkDs n ds = some ks → NestedKey.depthAll ks ≤ n
  | [], n, ks, h => by cases n <;> (rw [nkDs] at h; cases h; simp [NestedKey.depthAll])
  | d :: r, n, ks, h => by
    obtain ⟨m, a, b, e, h1, h2, h3⟩ := nkDs_cons h
    subst e; subst h3
    have g1 := nk_dep h1
    have g2 := nks_dep h2
    simp only [NestedKey.depthAll]; omega
end
theorem not_key {n : Nat} {d : D} {k : NK} (h : nkD n d = some k) : (∃ ds, d = .tup ds) ∨ d = .non ∨ (∃ b, d = .bl b) ∨ (∃ i, d = .int i) ∨ ∃ l, d = .str l := by
  cases d with
  | non => exact .inr (.inl rfl)
  | bl b => exact .inr (.inr (.inl ⟨b, rfl⟩))
  | int i => exact .inr (.inr (.inr (.inl ⟨i, rfl⟩)))
  | str l => exact .inr (.inr (.inr (.inr ⟨l, rfl⟩)))
  | tup ds => exact .inl ⟨ds, rfl⟩
  | _ => rw [nkD] at h <;> first | cases h | (intros; contradiction)
theorem beqb_dec (a b : Bool) : beqb a b = decide (NestedKey.num (b2n a) = NestedKey.num (b2n b)) := by
  cases a <;> cases b <;> rfl
theorem ieqb_dec (a b : Int) : ieqb a b = decide (NestedKey.num a = NestedKey.num b) := by
  rw [ieqb_eq]
  by_cases h : a = b
  · subst h; simp
  · rw [decide_eq_false (fun e => h (by cases e; rfl))]; simpa using h
theorem leqb_dec (a b : List Nat) : leqb a b = decide (NestedKey.text ⟨a.toArray⟩ = NestedKey.text ⟨b.toArray⟩) := by
  rw [leqb_eq]
  by_cases h : a = b
  · subst h; simp
  · rw [decide_eq_false (fun e => h (by simpa using e))]; simpa using h
mutual
theorem keq : ∀ {d e : D} {n m : Nat} {k l : NK}, nkD n d = some k → nkD m e = some l → deq d e = decide (k = l)
  | .non, e, n, m, k, l, h, h2 => by
    rw [nkD] at h; cases h
    rcases not_key h2 with ⟨_, q⟩ | q | ⟨_, q⟩ | ⟨_, q⟩ | ⟨_, q⟩ <;> subst q
    · obtain ⟨_, _, q⟩ := nkD_tup h2; subst q; exact (decide_eq_false (by intro z; cases z)).symm
    all_goals (rw [nkD] at h2; cases h2)
    · rfl
    all_goals exact (decide_eq_false (by intro z; cases z)).symm
  | .bl a, e, n, m, k, l, h, h2 => by
    rw [nkD] at h; cases h
    rcases not_key h2 with ⟨_, q⟩ | q | ⟨b, q⟩ | ⟨_, q⟩ | ⟨_, q⟩ <;> subst q
    · obtain ⟨_, _, q⟩ := nkD_tup h2; subst q; exact (decide_eq_false (by intro z; cases z)).symm
    all_goals (rw [nkD] at h2; cases h2)
    · exact (decide_eq_false (by intro z; cases z)).symm
    · exact beqb_dec a b
    · exact ieqb_dec _ _
    · exact (decide_eq_false (by intro z; cases z)).symm
  | .int a, e, n, m, k, l, h, h2 => by
    rw [nkD] at h; cases h
    rcases not_key h2 with ⟨_, q⟩ | q | ⟨b, q⟩ | ⟨_, q⟩ | ⟨_, q⟩ <;> subst q
    · obtain ⟨_, _, q⟩ := nkD_tup h2; subst q; exact (decide_eq_false (by intro z; cases z)).symm
    all_goals (rw [nkD] at h2; cases h2)
    · exact (decide_eq_false (by intro z; cases z)).symm
    · exact ieqb_dec _ _
    · exact ieqb_dec _ _
    · exact (decide_eq_false (by intro z; cases z)).symm
  | .str a, e, n, m, k, l, h, h2 => by
    rw [nkD] at h; cases h
    rcases not_key h2 with ⟨_, q⟩ | q | ⟨b, q⟩ | ⟨_, q⟩ | ⟨_, q⟩ <;> subst q
    · obtain ⟨_, _, q⟩ := nkD_tup h2; subst q; exact (decide_eq_false (by intro z; cases z)).symm
    all_goals (rw [nkD] at h2; cases h2)
    · exact (decide_eq_false (by intro z; cases z)).symm
    · exact (decide_eq_false (by intro z; cases z)).symm
    · exact (decide_eq_false (by intro z; cases z)).symm
    · exact leqb_dec _ _
  | .tup ds, e, n, m, k, l, h, h2 => by
    obtain ⟨ks, g1, g2⟩ := nkD_tup h
    subst g2
    rcases not_key h2 with ⟨es, q⟩ | q | ⟨b, q⟩ | ⟨_, q⟩ | ⟨_, q⟩ <;> subst q
    · obtain ⟨ls, g3, g4⟩ := nkD_tup h2
      subst g4
      show deqs ds es = _
      rw [keqs g1 g3]
      by_cases q : ks = ls
      · subst q; rw [decide_eq_true rfl, decide_eq_true rfl]
      · rw [decide_eq_false q, decide_eq_false (fun z => q (by cases z; rfl))]
    all_goals (rw [nkD] at h2; cases h2; exact (decide_eq_false (by intro z; cases z)).symm)
  | .lst _, e, n, m, k, l, h, h2 => by rw [nkD] at h <;> first | cases h | (intros; contradiction)
  | .tpn _, e, n, m, k, l, h, h2 => by rw [nkD] at h <;> first | cases h | (intros; contradiction)
  | .loc _, e, n, m, k, l, h, h2 => by rw [nkD] at h <;> first | cases h | (intros; contradiction)
  | .fn _, e, n, m, k, l, h, h2 => by rw [nkD] at h <;> first | cases h | (intros; contradiction)
  | .ty _, e, n, m, k, l, h, h2 => by rw [nkD] at h <;> first | cases h | (intros; contradiction)
  | .exc _ _, e, n, m, k, l, h, h2 => by rw [nkD] at h <;> first | cases h | (intros; contradiction)
  | .scr _, e, n, m, k, l, h, h2 => by rw [nkD] at h <;> first | cases h | (intros; contradiction)
  | .rng _ _, e, n, m, k, l, h, h2 => by rw [nkD] at h <;> first | cases h | (intros; contradiction)
theorem keqs : ∀ {ds es : List D} {n m : Nat} {ks ls : List NK}, nkDs n ds = some ks → nkDs m es = some ls → deqs ds es = decide (ks = ls)
  | [], [], n, m, ks, ls, h, h2 => by
    have e1 : ks = [] := by cases n <;> (rw [nkDs] at h; cases h; rfl)
    have e2 : ls = [] := by cases m <;> (rw [nkDs] at h2; cases h2; rfl)
    subst e1; subst e2; rfl
  | [], e :: es, n, m, ks, ls, h, h2 => by
    have e1 : ks = [] := by cases n <;> (rw [nkDs] at h; cases h; rfl)
    obtain ⟨_, _, _, _, _, _, q⟩ := nkDs_cons h2
    subst e1; subst q
    exact (decide_eq_false (by intro z; cases z)).symm
  | d :: ds, [], n, m, ks, ls, h, h2 => by
    have e1 : ls = [] := by cases m <;> (rw [nkDs] at h2; cases h2; rfl)
    obtain ⟨_, _, _, _, _, _, q⟩ := nkDs_cons h
    subst e1; subst q
    exact (decide_eq_false (by intro z; cases z)).symm
  | d :: ds, e :: es, n, m, ks, ls, h, h2 => by
    obtain ⟨_, a, b, q1, q2, q3, q4⟩ := nkDs_cons h
    obtain ⟨_, a', b', p1, p2, p3, p4⟩ := nkDs_cons h2
    subst q1; subst q4; subst p1; subst p4
    show cond (deq d e) (deqs ds es) false = _
    rw [keq q2 p2, keqs q3 p3]
    by_cases z : a = a'
    · subst z
      rw [decide_eq_true rfl]
      show decide (b = b') = _
      by_cases z2 : b = b'
      · subst z2; rw [decide_eq_true rfl, decide_eq_true rfl]
      · rw [decide_eq_false z2, decide_eq_false (fun w => z2 (by cases w; rfl))]
    · rw [decide_eq_false z, decide_eq_false (fun w : a :: b = a' :: b' => z (List.cons.inj w).1)]; rfl
end
mutual
/-- a key's value in the heap -/
theorem rd_nested {P : Program} {w : World} {C : Cn} {W : Wd} {H : Hp} {h : Heap} (S : ∀ a o, W.F a = some o → H a = some o) (ok : HOk P w H h) : ∀ {d : D} {n : Nat} {k : NK} {v : V} {u : Value}, nkD n d = some k → RD C W d v → RelV v u → NestedIs h k u
  | .non, n, k, v, u, hk, r, ru => by
    rw [nkD] at hk; cases hk; cases r
    cases (show u = Value.none from ru)
    exact .none
  | .bl b, n, k, v, u, hk, r, ru => by
    rw [nkD] at hk; cases hk; cases r
    cases (show u = Value.bool b from ru)
    exact .bool (by cases b <;> rfl)
  | .int i, n, k, v, u, hk, r, ru => by
    rw [nkD] at hk; cases hk; cases r
    obtain ⟨t, e⟩ := (show ∃ t, u = Value.int i t from ru)
    subst e; exact .int i t
  | .str l, n, k, v, u, hk, r, ru => by
    rw [nkD] at hk; cases hk; cases r
    obtain ⟨t, e⟩ := (show ∃ t, u = Value.str ⟨l.toArray⟩ t from ru)
    subst e; exact .text _ t
  | .tup ds, n, k, v, u, hk, r, ru => by
    obtain ⟨ks, g1, g2⟩ := nkD_tup hk
    subst g2
    cases r with | tup hf rr =>
    rename_i a vs
    cases (show u = Value.ref a from ru)
    obtain ⟨_, its, rv, o, h1, h2, n', h3⟩ : ObjOk P w H h a (.tup vs) := by
      rcases hf with hf | ⟨o, hf⟩
      · exact ok a _ (S _ _ hf)
      · exact (ok a _ (S _ _ hf)).2
    exact .tup h1 h2 h3 (by simpa using rd_nesteds S ok g1 rr rv)
  | .lst _, n, k, v, u, hk, r, ru => by rw [nkD] at hk <;> first | cases hk | (intros; contradiction)
  | .tpn _, n, k, v, u, hk, r, ru => by rw [nkD] at hk <;> first | cases hk | (intros; contradiction)
  | .loc _, n, k, v, u, hk, r, ru => by rw [nkD] at hk <;> first | cases hk | (intros; contradiction)
  | .fn _, n, k, v, u, hk, r, ru => by rw [nkD] at hk <;> first | cases hk | (intros; contradiction)
  | .ty _, n, k, v, u, hk, r, ru => by rw [nkD] at hk <;> first | cases hk | (intros; contradiction)
  | .exc _ _, n, k, v, u, hk, r, ru => by rw [nkD] at hk <;> first | cases hk | (intros; contradiction)
  | .scr _, n, k, v, u, hk, r, ru => by rw [nkD] at hk <;> first | cases hk | (intros; contradiction)
  | .rng _ _, n, k, v, u, hk, r, ru => by rw [nkD] at hk <;> first | cases hk | (intros; contradiction)
theorem rd_nesteds {P : Program} {w : World} {C : Cn} {W : Wd} {H : Hp} {h : Heap} (S : ∀ a o, W.F a = some o → H a = some o) (ok : HOk P w H h) : ∀ {ds : List D} {n : Nat} {ks : List NK} {vs : List V} {us : List Value}, nkDs n ds = some ks → RDs C W ds vs → Vals vs us → NestedAll h ks us
  | [], n, ks, vs, us, hk, r, ru => by
    have e1 : ks = [] := by cases n <;> (rw [nkDs] at hk; cases hk; rfl)
    subst e1; cases r; cases ru; exact .nil
  | d :: ds, n, ks, vs, us, hk, r, ru => by
    obtain ⟨_, a, b, q1, q2, q3, q4⟩ := nkDs_cons hk
    subst q1; subst q4
    cases r with | cons r1 r2 =>
    cases ru with | cons u1 u2 =>
    exact .cons (rd_nested S ok q2 r1 u1) (rd_nesteds S ok q3 r2 u2)
end
theorem kyt_tup {d : D} (h : kyt d = true) : ∃ k, nkD 7 d = some k ∧ ∃ l, d = .tup l := by
  cases d with
  | tup l =>
    obtain ⟨k, hk⟩ := kyo_nk (n := 7) (d := .tup l) h
    exact ⟨k, hk, l, rfl⟩
  | _ => cases h
theorem rd_nkey {P : Program} {w : World} {C : Cn} {W : Wd} {H : Hp} {h : Heap} (S : ∀ a o, W.F a = some o → H a = some o) (ok : HOk P w H h) {d : D} {k : NK} {b : Addr} (hk : nkD 7 d = some k) (r : RD C W d (.ref b)) : NKey h k b :=
  ⟨rd_nested S ok hk r rfl, nk_dep hk⟩
section
variable {C : Cn} {W : Wd}
theorem dfnd_ok {k : D} {nk : NK} (hk : nkD 7 k = some nk) : ∀ {kvs : List (D × D)} {xs : List NRow}, RKs C W kvs xs → (∀ d, dfnd kvs k = some d → ∃ v, valN xs nk = some v ∧ RD C W d v) ∧ (dfnd kvs k = none → valN xs nk = none)
  | _, _, .nil => ⟨fun d h => (by cases h), fun _ => rfl⟩
  | _, _, .cons (a := kv) (b := x) h t => by
    obtain ⟨i1, i2⟩ := dfnd_ok hk t
    obtain ⟨e1, e2, e3⟩ := h
    have q := keq e1 hk
    have ed : ∀ r, dfnd (kv :: r) k = cond (deq kv.1 k) (some kv.2) (dfnd r k) := fun r => rfl
    rw [ed]
    unfold valN at *
    by_cases z : x.1 = nk
    · rw [q, decide_eq_true z]
      simp only [List.find?_cons, z, decide_true, cond_true]
      exact ⟨fun d hd => by cases hd; exact ⟨x.2.2, rfl, e3⟩, fun hd => by cases hd⟩
    · rw [q, decide_eq_false z]
      simp only [List.find?_cons, z, decide_false, cond_false]
      exact ⟨i1, i2⟩
theorem dput_ok {k d : D} {nk : NK} {b : Addr} {v : V} (hk : nkD 7 k = some nk) (rk : RD C W k (.ref b)) (rv : RD C W d v) {kvs : List (D × D)} {xs : List NRow} (r : RKs C W kvs xs) : RKs C W (dput kvs k d) (putN xs nk b v) := by
  obtain ⟨i1, i2⟩ := dfnd_ok hk r
  unfold dput putN
  cases q : dfnd kvs k with
  | none =>
    rw [i2 q]
    exact Paired.snoc r ⟨hk, rk, rv⟩
  | some z =>
    obtain ⟨v', g1, _⟩ := i1 z q
    rw [g1]
    show RKs C W (kvs.map fun x => cond (deq x.1 k) (x.1, d) x) (xs.map fun x => if x.1 = nk then (x.1, x.2.1, v) else x)
    clear i1 i2 q g1
    induction r with
    | nil => exact .nil
    | @cons kv x kvs xs h t ih =>
      refine .cons ?_ ih
      obtain ⟨e1, e2, e3⟩ := h
      have q := keq e1 hk
      by_cases z : x.1 = nk
      · show nkD 7 (cond (deq kv.1 k) (kv.1, d) kv).1 = some (if x.1 = nk then (x.1, x.2.1, v) else x).1 ∧ RD C W (cond (deq kv.1 k) (kv.1, d) kv).1 (.ref (if x.1 = nk then (x.1, x.2.1, v) else x).2.1) ∧ RD C W (cond (deq kv.1 k) (kv.1, d) kv).2 (if x.1 = nk then (x.1, x.2.1, v) else x).2.2
        rw [q, decide_eq_true z, if_pos z]
        exact ⟨e1, e2, rv⟩
      · show nkD 7 (cond (deq kv.1 k) (kv.1, d) kv).1 = some (if x.1 = nk then (x.1, x.2.1, v) else x).1 ∧ RD C W (cond (deq kv.1 k) (kv.1, d) kv).1 (.ref (if x.1 = nk then (x.1, x.2.1, v) else x).2.1) ∧ RD C W (cond (deq kv.1 k) (kv.1, d) kv).2 (if x.1 = nk then (x.1, x.2.1, v) else x).2.2
        rw [q, decide_eq_false z, if_neg z]
        exact ⟨e1, e2, e3⟩
theorem rks_keys {P : Program} {w : World} {H : Hp} {h : Heap} (S : ∀ a o, W.F a = some o → H a = some o) (ok : HOk P w H h) : ∀ {kvs : List (D × D)} {xs : List NRow}, RKs C W kvs xs → ∀ x ∈ xs, NKey h x.1 x.2.1
  | _, _, .nil, x, hx => by cases hx
  | _, _, .cons (a := kv) (b := y) h t, x, hx => by
    rcases List.mem_cons.mp hx with e | e
    · subst e; exact rd_nkey S ok h.1 h.2.1
    · exact rks_keys S ok t x e
/-- a dict cell -/
theorem SimS.dct {H : Hp} {s : St} (S : SimS C W H s) {n : Nat} {kvs : List (D × D)} (h : fnd s.cs n = some (.dct kvs)) : ∃ a xs, W.ρ n = some a ∧ W.F a = none ∧ H a = some (DctO C.w a xs) ∧ RKs C W kvs xs := by
  obtain ⟨a, h1, h2, xs, h3, h4⟩ := S.cel n _ h
  exact ⟨a, xs, h1, h2, h3, h4⟩
theorem dctv_ok {H : Hp} {s : St} (S : SimS C W H s) {d : D} {v : V} {kvs : List (D × D)} (r : RD C W d v) (e : dctv s d = some kvs) : ∃ n a xs, d = .loc n ∧ fnd s.cs n = some (.dct kvs) ∧ v = .ref a ∧ W.ρ n = some a ∧ H a = some (DctO C.w a xs) ∧ RKs C W kvs xs := by
  unfold dctv at e
  split at e
  · rename_i n
    split at e
    · rename_i q
      cases e
      cases r with | loc hp =>
      obtain ⟨a, xs, h1, h2, h3, h4⟩ := S.dct q
      rw [hp] at h1; cases h1
      exact ⟨n, _, xs, rfl, q, rfl, hp, h3, h4⟩
    · cases e
  · cases e
/-- a new dict -/
theorem newD_ok {H : Hp} {s : St} {p : Addr} (S : SimS C W H s) (hp : H p = none) {kvs : List (D × D)} {xs : List NRow} (r : RKs C W kvs xs) {Q : VK} {E : XK} (h : RvQ C W (newD kvs s) Q E) : Q (.ref p) (upd H p (DctO C.w p xs)) := by
  unfold newD at h
  cases hb : Nat.ble kvs.length 16777216 with
  | false => rw [hb] at h; exact h.elim
  | true =>
    rw [hb] at h
    have le := Wd.le_cel (p := p) (S.new s.nx (Nat.le_refl _)).2
    obtain ⟨le, S', q⟩ := S.newO hp (DctO C.w p xs) (.dct kvs) ⟨xs, upd_same, L2.Paired.mapP r fun _ _ z => ⟨z.1, z.2.1.mono le, z.2.2.mono le⟩⟩
    exact h _ _ _ le S' q
/-- a dict is written -/
theorem SimS.dset {H : Hp} {s : St} (S : SimS C W H s) {n : Nat} {kvs kvs' : List (D × D)} {a : Addr} {xs' : List NRow} (hf : fnd s.cs n = some (.dct kvs)) (ha : W.ρ n = some a) (r : RKs C W kvs' xs') : SimS C W (upd H a (DctO C.w a xs')) ⟨s.nx, put s.cs n (.dct kvs')⟩ :=
  S.writeO hf (fun k l e => by cases e) ha ⟨xs', upd_same, r⟩
end
end Mv
end

section
set_option Elab.async false
set_option linter.all false
set_option maxRecDepth 100000
set_option maxHeartbeats 4000000
/-! Prim: the operations of Vm are right. -/
namespace Mv
open PySem PySem.Spec PyProof.Rows L2
section
variable {C : Cn} {W : Wd} {H : Hp} {s : St}
theorem RvQ.here {d : D} {v : V} {Q : VK} {E : XK} (S : SimS C W H s) (r : RD C W d v) (h : RvQ C W (.ok d s) Q E) : Q v H := h W H v (.refl W) S r
theorem vw_lst (S : SimS C W H s) {d : D} {v : V} {l : List D} (r : RD C W d v) (e : vw s d = .lst l) : ∃ a vs, v = .ref a ∧ H a = some (.lst vs) ∧ RDs C W l vs := by
  cases r with
  | lst h r => simp only [vw] at e; cases e; exact ⟨_, _, rfl, S.sub _ _ h, r⟩
  | loc h =>
    rename_i n a
    simp only [vw] at e
    cases q : fnd s.cs n with
    | none => rw [q] at e; cases e
    | some o =>
      cases o with
      | lst k m =>
        rw [q] at e; cases e
        obtain ⟨a', vs, h1, h2, h3, h4⟩ := S.cell n k l q
        rw [h] at h1; cases h1
        exact ⟨_, _, rfl, h3, h4⟩
      | dct kvs => rw [q] at e; cases e
  | _ => simp only [vw] at e; cases e
theorem vw_tup {d : D} {l : List D} (e : vw s d = .tup l) : d = .tup l := by
  cases d with
  | loc n =>
    simp only [vw] at e
    cases q : fnd s.cs n with
    | none => rw [q] at e; cases e
    | some o => cases o with
      | lst k m => rw [q] at e; cases e
      | dct kvs => rw [q] at e; cases e
  | _ => exact e
/-- a cell seen as the list that it is: the same value -/
theorem vw_dp (S : SimS C W H s) {d : D} {v : V} {n : Nat} (h : shp n (vw s d) = true) (r : RD C W d v) : Dp C.K H v (dv (vw s d)) := by
  cases d with
  | loc m =>
    simp only [vw] at h ⊢
    cases q : fnd s.cs m with
    | none => rw [q] at h; simp [shp] at h
    | some o => cases o with
      | lst k l =>
        rw [q] at h
        obtain ⟨a, vs, e, h3, r'⟩ := vw_lst S r (show vw s (.loc m) = .lst l by simp only [vw, q])
        subst e
        simp only [dv]
        exact .lst (.inl (.inl h3)) (RDs.dp (n := n) S.sub (by simpa [shp] using h) r')
      | dct kvs => rw [q] at h; simp [shp] at h
  | _ => exact RD.dp (n := n) S.sub h r
theorem lqv_sqv {s : St} {x : D} {l : List D} (h : lqv s x = some l) : sqv s x = some l ∧ ∀ z, x ≠ .tup z := by
  cases x <;> first | exact ⟨h, fun z e => by cases e⟩ | cases h
theorem sqv_ok (S : SimS C W H s) {d : D} {v : V} {l : List D} (r : RD C W d v) (e : sqv s d = some l) : ∃ a vs, v = .ref a ∧ (SqL C.K H a vs ∨ SqT C.K H a vs) ∧ RDs C W l vs := by
  cases r with
  | tup h r => simp only [sqv] at e; cases e; exact ⟨_, _, rfl, .inr (h.sq S.sub), r⟩
  | lst h r => simp only [sqv] at e; cases e; exact ⟨_, _, rfl, .inl (.inl (.inl (S.sub _ _ h))), r⟩
  | loc h =>
    rename_i n a
    simp only [sqv] at e
    cases q : fnd s.cs n with
    | none => rw [q] at e; cases e
    | some o =>
      cases o with
      | lst k m =>
        rw [q] at e; cases e
        obtain ⟨a', vs, h1, h2, h3, h4⟩ := S.cell n k l q
        rw [h] at h1; cases h1
        exact ⟨_, _, rfl, .inl (.inl (.inl h3)), h4⟩
      | dct kvs => rw [q] at e; cases e
  | scr h => simp only [sqv] at e; cases e; exact ⟨_, _, rfl, .inl (sqL_mono S.sub h), RDs.ints C W _⟩
  | _ => simp only [sqv] at e; cases e
theorem sqv_lst (S : SimS C W H s) {d : D} {v : V} {l : List D} (r : RD C W d v) (e : sqv s d = some l) (ne : ∀ z, d ≠ .tup z) : ∃ a vs, v = .ref a ∧ SqL C.K H a vs ∧ RDs C W l vs := by
  cases r with
  | tup h r => exact absurd rfl (ne _)
  | lst h r => simp only [sqv] at e; cases e; exact ⟨_, _, rfl, .inl (.inl (S.sub _ _ h)), r⟩
  | loc h =>
    rename_i n a
    simp only [sqv] at e
    cases q : fnd s.cs n with
    | none => rw [q] at e; cases e
    | some o =>
      cases o with
      | lst k m =>
        rw [q] at e; cases e
        obtain ⟨a', vs, h1, h2, h3, h4⟩ := S.cell n k l q
        rw [h] at h1; cases h1
        exact ⟨_, _, rfl, .inl (.inl h3), h4⟩
      | dct kvs => rw [q] at e; cases e
  | scr h => simp only [sqv] at e; cases e; exact ⟨_, _, rfl, sqL_mono S.sub h, RDs.ints C W _⟩
  | _ => simp only [sqv] at e; cases e
end
theorem ble16 {n : Nat} (h : Nat.ble n 16777216 = true) : n ≤ sizeLine := by rw [sizeLine_eq]; exact Nat.ble_eq.mp h
theorem str_len (l : List Nat) : Str.length ⟨l.toArray⟩ = l.length := by simp [Str.length]
theorem str_app (a b : List Nat) : (⟨a.toArray⟩ : Str) ++ ⟨b.toArray⟩ = ⟨(a ++ b).toArray⟩ := by
  show Str.mk _ = _
  simp
theorem blt_iff (a b : Nat) : Nat.blt a b = true ↔ a < b := ⟨fun h => Nat.ble_eq.mp h, fun h => Nat.ble_eq.mpr h⟩
theorem RvQ.cnd {C : Cn} {W : Wd} {b : Bool} {r : Rv} {n : Nat} {Q : VK} {E : XK} (h : RvQ C W (cond b r (.bad n)) Q E) : b = true ∧ RvQ C W r Q E := by
  cases b with
  | true => exact ⟨rfl, h⟩
  | false => exact h.elim
theorem RvQ.bl {C : Cn} {W : Wd} {H : Hp} {s : St} {b b' : Bool} {Q : VK} {E : XK} (S : SimS C W H s) (e : b = b') (h : RvQ C W (blR s b) Q E) : Q (.bl b') H := by
  subst e; exact RvQ.here S (.bl _) h

/-! ### operations of two things -/
section
variable {X : Cx} {C : Cn} (hK : C.K = X.K)
def rP2 (C : Cn) (pr : D → D → St → Rv) : R2 := fun x y H Q => ∃ W dx dy s E, SimS C W H s ∧ RD C W dx x ∧ RD C W dy y ∧ RvQ C W (pr dx dy s) Q E

theorem ok_add (m : Bool) : OpR X (binaryOp .Add) (rP2 C (pAdd m)) := by
  intro pins t σ H x y v u Q I rx ry ⟨W, dx, dy, s, E, S, hx, hy, h⟩
  unfold pAdd at h
  split at h
  · split at h
    · cases hx; cases hy
      exact op_add _ _ _ _ _ _ _ _ _ I rx ry ⟨_, _, rfl, rfl, RvQ.here S (.int _) h⟩
    · exact h.elim
  · split at h
    · cases hx; cases hy
      obtain ⟨hl, h⟩ := RvQ.cnd h
      refine op_add_str _ _ _ _ _ _ _ _ _ I rx ry ⟨_, _, rfl, rfl, ?_, ?_⟩
      · rw [str_len, str_len]; exact ble16 hl
      · rw [str_app]; exact RvQ.here S (.str _) h
    · exact h.elim
  · split at h
    · cases hx with | tup ha ra =>
      cases hy with | tup hb rb =>
      have hlen := newT_len h
      rw [List.length_append, ra.length, rb.length] at hlen
      refine op_catA _ _ _ _ _ _ _ _ _ I rx ry ⟨_, _, _, _, rfl, rfl, ha.sq S.sub, hb.sq S.sub, hlen, ?_, ?_, ?_⟩
      · intro e
        subst e
        cases ra
        unfold newT at h
        exact RvQ.here S (.tup hb rb) (RvQ.cnd h).2
      · intro _ e
        subst e
        cases rb
        unfold newT at h
        rw [List.append_nil] at h
        exact RvQ.here S (.tup ha ra) (RvQ.cnd h).2
      · intro _ _ p hp
        exact newT_ok S hp (ra.append rb) h
    · exact h.elim
  · split at h
    · rename_i e
      split at h
      · rename_i e2
        obtain ⟨a, vs, q, ha, ra⟩ := vw_lst S hx e
        obtain ⟨b, ws, q2, hb, rb⟩ := vw_lst S hy e2
        subst q; subst q2
        refine op_cat _ _ _ _ _ _ _ _ _ I rx ry ⟨_, _, _, _, rfl, rfl, ha, hb, ?_, fun p hp => (newL_ok S hp (ra.append rb) h).2⟩
        unfold newL at h
        have := ble16 (RvQ.cnd h).1
        rw [List.length_append, ra.length, rb.length] at this
        exact this
      · exact h.elim
    · exact h.elim
theorem ok_sub : OpR X (binaryOp .Sub) (rP2 C pSub) := by
  intro pins t σ H x y v u Q I rx ry ⟨W, dx, dy, s, E, S, hx, hy, h⟩
  unfold pSub onI2 at h
  split at h
  · split at h
    · cases hx; cases hy
      exact op_sub _ _ _ _ _ _ _ _ _ I rx ry ⟨_, _, rfl, rfl, RvQ.here S (.int _) h⟩
    · exact h.elim
  · exact h.elim
theorem small64_iff {i : Int} (h : small64 i = true) : -2 ^ 64 < i ∧ i < 2 ^ 64 := by
  have := (blt_iff _ _).mp h
  omega
theorem small62_iff {i : Int} (h : small62 i = true) : -2 ^ 62 < i ∧ i < 2 ^ 62 := by
  have := (blt_iff _ _).mp h
  omega
theorem rep_eq (l : List D) : ∀ n, rep n l = (List.replicate n l).flatten
  | 0 => rfl
  | n + 1 => by
    rw [List.replicate_succ, List.flatten_cons, ← rep_eq l n]; rfl
theorem RDs.rep {W : Wd} {l : List D} {vs : List V} (r : RDs C W l vs) : ∀ n, RDs C W (rep n l) (List.replicate n vs).flatten
  | 0 => .nil
  | n + 1 => by
    rw [List.replicate_succ, List.flatten_cons]
    exact r.append (RDs.rep r n)
theorem ok_mul (hK : C.K = X.K) (m : Bool) : OpR X (binaryOp .Mult) (rP2 C (pMul m)) := by
  intro pins t σ H x y v u Q I rx ry ⟨W, dx, dy, s, E, S, hx, hy, h⟩
  unfold pMul at h
  split at h
  · split at h
    · cases hx; cases hy
      obtain ⟨hc, h⟩ := RvQ.cnd h
      rcases (Bool.or_eq_true _ _).mp hc with hc | hw
      · refine op_mul _ _ _ _ _ _ _ _ _ I rx ry ⟨_, _, rfl, rfl, ?_, RvQ.here S (.int _) h⟩
        rcases (Bool.or_eq_true _ _).mp hc with q | q
        · exact .inl (small64_iff q)
        · exact .inr (small64_iff q)
      · have hw := (Bool.and_eq_true _ _).mp hw
        refine op_mulW _ _ _ _ _ _ _ _ _ I rx ry ⟨_, _, rfl, rfl, ?_, RvQ.here S (.int _) h⟩
        exact wide_mul ((blt_iff _ _).mp hw.1) ((blt_iff _ _).mp hw.2) (by decide) (by decide) (by decide)
    · exact h.elim
  · split at h
    · rename_i e
      split at h
      · obtain ⟨hc, h⟩ := RvQ.cnd h
        obtain ⟨hc2, h⟩ := RvQ.cnd h
        obtain ⟨a, vs, q, ha, ra⟩ := vw_lst S hx e
        subst q
        cases hy
        have hs := small62_iff hc
        refine op_rep _ _ _ _ _ _ _ _ _ I rx ry ⟨_, _, _, rfl, rfl, ha, by omega, by omega, ?_, fun p hp => (newL_ok S hp (RDs.rep ra _) h).2⟩
        rw [← ra.length]; exact ble16 hc2
      · exact h.elim
    · rename_i a e
      split at h
      · rename_i k
        obtain ⟨hc, h⟩ := RvQ.cnd h
        obtain ⟨hc2, h⟩ := RvQ.cnd h
        have e := vw_tup e
        subst e
        have hc := (Bool.and_eq_true _ _).mp hc
        have l1 := (blt_iff _ _).mp hc.1
        have l2 := Nat.le_of_ble_eq_true hc.2
        have hk : 2 ≤ k ∧ k ≤ 10000 := by
          cases k with
          | ofNat n =>
            have hc2 : (Nat.ble 2 n && Nat.ble n 10000) = true := hc2
            have hc2 := (Bool.and_eq_true _ _).mp hc2
            have k1 := Nat.le_of_ble_eq_true hc2.1
            have k2 := Nat.le_of_ble_eq_true hc2.2
            exact ⟨by show (2 : Int) ≤ (n : Int); omega, by show (n : Int) ≤ 10000; omega⟩
          | negSucc n => cases hc2
        cases hy
        cases hx with | tup hh ra =>
        have hl := ra.length
        refine op_repU _ _ _ _ _ _ _ _ _ I rx ry ⟨_, _, _, rfl, rfl, by rw [← hK]; exact hh.sq S.sub, fun z => ?_, hk.1, hk.2, by omega, fun p hp => newT_ok S hp (RDs.rep ra _) h⟩
        rw [z] at hl
        have : a.length = 0 := hl
        omega
      · exact h.elim
    · exact h.elim
theorem ieqb_false {a b : Int} (h : ieqb a b = false) : a ≠ b := by
  rw [ieqb_eq] at h; simpa using h
theorem cnd_bad {C : Cn} {W : Wd} {b : Bool} {r : Rv} {n : Nat} {Q : VK} {E : XK} (h : RvQ C W (cond b (.bad n) r) Q E) : b = false ∧ RvQ C W r Q E := by
  cases b with
  | false => exact ⟨rfl, h⟩
  | true => exact h.elim
theorem wid_ok {b : Int} (h : wid b = true) : ∃ n : Nat, b = Int.ofNat n ∧ n < 2 ^ 8000 := by
  unfold wid at h
  split at h
  · rename_i n; exact ⟨n, rfl, (blt_iff _ _).mp h⟩
  · cases h
theorem ok_div : OpR X (binaryOp .FloorDiv) (rP2 C pDiv) := by
  intro pins t σ H x y v u Q I rx ry ⟨W, dx, dy, s, E, S, hx, hy, h⟩
  unfold pDiv onI2 at h
  split at h
  · split at h
    · cases hx; cases hy
      obtain ⟨h0, h⟩ := cnd_bad h
      obtain ⟨h1, h⟩ := RvQ.cnd h
      rcases (Bool.or_eq_true _ _).mp h1 with h1 | h1
      · exact op_fdivN _ _ _ _ _ _ _ _ _ I rx ry ⟨_, _, rfl, rfl, ⟨ieqb_false h0, (blt_iff _ _).mp h1⟩, RvQ.here S (.int _) h⟩
      · have hb0 := ieqb_false h0
        obtain ⟨n, en, hn⟩ := wid_ok h1
        subst en
        · have hp : 0 < n := Nat.pos_of_ne_zero fun z => hb0 (by rw [z] <;> rfl)
          refine op_fdivW _ _ _ _ _ _ _ _ _ I rx ry ⟨_, _, rfl, rfl, ⟨by show (0 : Int) < (n : Int); omega, ?_⟩, ?_⟩
          · show Nat.log2 n < 9000
            exact Nat.lt_of_lt_of_le ((Nat.log2_lt (Nat.ne_of_gt hp)).mpr hn) (by decide)
          · have q := RvQ.here S (.int _) h
            rw [show Int.fdiv _ (Int.ofNat n) = _ / (Int.ofNat n) from Int.fdiv_eq_ediv_of_nonneg _ (Int.natCast_nonneg n)] at q
            exact q
    · exact h.elim
  · exact h.elim
theorem ok_mod : OpR X (binaryOp .Mod) (rP2 C pMod) := by
  intro pins t σ H x y v u Q I rx ry ⟨W, dx, dy, s, E, S, hx, hy, h⟩
  unfold pMod onI2 at h
  split at h
  · split at h
    · cases hx; cases hy
      obtain ⟨h0, h⟩ := cnd_bad h
      exact op_modN _ _ _ _ _ _ _ _ _ I rx ry ⟨_, _, rfl, rfl, ieqb_false h0, RvQ.here S (.int _) h⟩
    · exact h.elim
  · exact h.elim
theorem ok_pow : OpR X (binaryOp .Pow) (rP2 C pPow) := by
  intro pins t σ H x y v u Q I rx ry ⟨W, dx, dy, s, E, S, hx, hy, h⟩
  unfold pPow onI2 at h
  split at h
  · split at h
    · dsimp only at h
      split at h
      · cases hx; cases hy
        obtain ⟨h0, h⟩ := RvQ.cnd h
        have h0 := (Bool.and_eq_true _ _).mp h0
        refine op_pow _ _ _ _ _ _ _ _ _ I rx ry ⟨_, _, rfl, rfl, ⟨Int.natCast_nonneg _, ?_, ?_⟩, RvQ.here S (.int _) h⟩
        · have := Nat.ble_eq.mp h0.1; show ((_ : Nat) : Int) ≤ _; omega
        · exact (blt_iff _ _).mp h0.2
      · exact h.elim
    · exact h.elim
  · exact h.elim
def binOp : BOp → Operator
  | .add => .Add | .sub => .Sub | .mul => .Mult | .fdiv => .FloorDiv | .mod => .Mod | .pow => .Pow
theorem ok_bin (hK : C.K = X.K) (o : BOp) (m : Bool) : OpR X (binaryOp (binOp o)) (rP2 C (pBin o m)) := by
  cases o
  · exact ok_add m
  · exact ok_sub
  · exact ok_mul hK m
  · exact ok_div
  · exact ok_mod
  · exact ok_pow
/-! ### comparisons -/
theorem xor_not (b : Bool) : Bool.xor true b = !b := by cases b <;> rfl
theorem xor_f (b : Bool) : Bool.xor false b = b := by cases b <;> rfl
def cmpOp : COp → CmpOp
  | .eq => .Eq | .ne => .NotEq | .lt => .Lt | .le => .LtE | .gt => .Gt | .ge => .GtE | .in_ => .In | .nin => .NotIn | .is_ => .Is | .isn => .IsNot
theorem int_deq (a b : Int) : decide ((V.int a) = V.int b) = ieqb a b := by
  rw [ieqb_eq, Bool.eq_iff_iff]; simp
theorem EP.bl {X : Cx} {pins : List (Addr × Obj)} {σ : L2.St} {Q : VK} {H : Hp} {t : Shared} (I : L2.Inv X pins σ H t) (b : Bool) (h : Q (.bl b) H) : EP X pins σ Q (.bool b) t := ⟨.bl b, H, I, rfl, h⟩
theorem ok_eq (hK : C.K = X.K) (hu : X.A.units + 100 < cLine) : OpR X (compareOp .Eq) (rP2 C (pEqN false)) := by
  intro pins t σ H x y v u Q I rx ry ⟨W, dx, dy, s, E, S, hx, hy, h⟩
  unfold pEqN at h
  split at h
  · cases hx; cases hy
    exact op_eq _ _ _ _ _ _ _ _ _ I rx ry ⟨rfl, RvQ.bl S (by rw [xor_f, int_deq]) h⟩
  · obtain ⟨hs, h⟩ := RvQ.cnd h
    have hs := (Bool.and_eq_true _ _).mp hs
    have q1 := vw_dp S hs.1 hx
    have q2 := vw_dp S hs.2 hy
    rw [hK] at q1 q2
    obtain ⟨as, r1⟩ := Dp.reads I _ _ _ q1 rx
    obtain ⟨bs, r2⟩ := Dp.reads I _ _ _ q2 ry
    have g1 := shp_plain _ _ hs.1
    have g2 := shp_plain _ _ hs.2
    exact SeqAt.eq_plain r1 r2 g1.1 g2.1 (by omega) (EP.bl I _ (RvQ.bl S (by rw [xor_f]; exact deq_eqv _ _ _ _ hs.1 hs.2) h))
theorem ok_ne (hK : C.K = X.K) (hu : X.A.units + 100 < cLine) : OpR X (compareOp .NotEq) (rP2 C (pEqN true)) := by
  intro pins t σ H x y v u Q I rx ry ⟨W, dx, dy, s, E, S, hx, hy, h⟩
  unfold pEqN at h
  split at h
  · cases hx; cases hy
    exact op_ne _ _ _ _ _ _ _ _ _ I rx ry ⟨rfl, RvQ.bl S (by rw [xor_not, int_deq]) h⟩
  · obtain ⟨hs, h⟩ := RvQ.cnd h
    have hs := (Bool.and_eq_true _ _).mp hs
    have q1 := vw_dp S hs.1 hx
    have q2 := vw_dp S hs.2 hy
    rw [hK] at q1 q2
    obtain ⟨as, r1⟩ := Dp.reads I _ _ _ q1 rx
    obtain ⟨bs, r2⟩ := Dp.reads I _ _ _ q2 ry
    have g1 := shp_plain _ _ hs.1
    have g2 := shp_plain _ _ hs.2
    exact SeqAt.ne_plain r1 r2 g1.1 g2.1 (by omega) (EP.bl I _ (RvQ.bl S (by rw [xor_not]; exact congrArg _ (deq_eqv _ _ _ _ hs.1 hs.2)) h))
theorem dp_list {K : W.Frag} {H : Hp} {v : V} {a : Addr} {vs : List V} {ds : List D} {W : Wd} (S : ∀ a o, W.F a = some o → H a = some o) (hs : shps 60 ds = true) (q : H a = some (.lst vs)) (r : RDs C W ds vs) (hK : C.K = K) : Dp K H (.ref a) (.list (dvs ds)) := by
  subst hK; exact .lst (.inl (.inl q)) (RDs.dp S hs r)
theorem ok_in (hK : C.K = X.K) (hw : C.w = X.w) (hu : X.A.units + 100 < cLine) : OpR X (compareOp .In) (rP2 C (pIn false)) := by
  intro pins t σ H x y v u Q I rx ry ⟨W, dx, dy, s, E, S, hx, hy, h⟩
  unfold pIn at h
  split at h
  · split at h
    · split at h
      · cases hx; cases hy
        exact op_in_sign _ _ _ _ _ _ _ _ _ I rx ry ⟨_, _, rfl, rfl, RvQ.bl S (by
          rw [xor_f, Bool.eq_iff_iff]
          simp only [List.any_eq_true, decide_eq_true_eq]
          exact ⟨fun ⟨z, hz, e⟩ => by rw [← (beq_true_iff _ _).mp e]; exact hz, fun hz => ⟨_, hz, Nat.beq_refl _⟩⟩) h⟩
      · exact h.elim
    · exact h.elim
  · split at h
    · rename_i e
      obtain ⟨hs, h⟩ := RvQ.cnd h
      have hs := (Bool.and_eq_true _ _).mp hs
      obtain ⟨a, vs, q, hl, r⟩ := vw_lst S hy e
      subst q
      have q1 := RD.dp S.sub hs.1 hx
      have q2 := dp_list (v := x) S.sub hs.2 hl r hK
      rw [hK] at q1
      obtain ⟨as, r1⟩ := Dp.reads I _ _ _ q1 rx
      obtain ⟨bs, r2⟩ := Dp.reads I _ _ _ q2 ry
      have g1 := shp_plain _ _ hs.1
      have g2 := shps_plain _ _ hs.2
      exact SeqAt.in_list_data r2 r1 g2.1 g1.1 (by omega) (EP.bl I _ (RvQ.bl S (by rw [xor_f]; exact memD_eq _ _ _ _ hs.1 hs.2) h))
    · rename_i e
      obtain ⟨hs, h⟩ := RvQ.cnd h
      have hs := (Bool.and_eq_true _ _).mp hs
      have e := vw_tup e
      subst e
      have q1 := RD.dp S.sub hs.1 hx
      have q2 := RD.dp (n := 60) S.sub (show shp 60 (.tup _) = true by simpa [shp] using hs.2) hy
      rw [hK] at q1 q2
      obtain ⟨as, r1⟩ := Dp.reads I _ _ _ q1 rx
      obtain ⟨bs, r2⟩ := Dp.reads I _ _ _ q2 ry
      have g1 := shp_plain _ _ hs.1
      have g2 := shps_plain _ _ hs.2
      simp only [dv] at r2
      exact SeqAt.in_tuple_data r2 r1 g2.1 g1.1 (by omega) (EP.bl I _ (RvQ.bl S (by rw [xor_f]; exact memD_eq _ _ _ _ hs.1 hs.2) h))
    · split at h
      · rename_i kvs e
        obtain ⟨hk, h⟩ := RvQ.cnd h
        obtain ⟨nk, h1, l, h2⟩ := kyt_tup hk
        subst h2
        obtain ⟨n, a, xs, g1, g2, g3, g4, g5, g6⟩ := dctv_ok S hy e
        subst g3
        rw [hw] at g5
        cases ry
        have hx' := hx
        cases hx with | tup hf hr =>
        cases rx
        obtain ⟨i1, i2⟩ := dfnd_ok h1 g6
        have eq : (valN xs nk).isSome = (dfnd kvs (.tup l)).isSome := by
          cases q : dfnd kvs (.tup l) with
          | none => rw [i2 q]; rfl
          | some z => obtain ⟨v', q1, _⟩ := i1 z q; rw [q1]; rfl
        refine dN_in hu I g5 (rks_keys S.sub I.hok g6) (rd_nkey S.sub I.hok h1 hx') fun t' I' => EP.bl I' _ (RvQ.bl S (by rw [xor_f, eq]) h)
      · exact h.elim
theorem ok_nin (hK : C.K = X.K) (hw : C.w = X.w) (hu : X.A.units + 100 < cLine) : OpR X (compareOp .NotIn) (rP2 C (pIn true)) := by
  intro pins t σ H x y v u Q I rx ry ⟨W, dx, dy, s, E, S, hx, hy, h⟩
  unfold pIn at h
  split at h
  · split at h
    · split at h
      · cases hx; cases hy
        exact op_notIn_sign _ _ _ _ _ _ _ _ _ I rx ry ⟨_, _, rfl, rfl, RvQ.bl S (by
          rw [xor_not]
          apply congrArg
          rw [Bool.eq_iff_iff]
          simp only [List.any_eq_true, decide_eq_true_eq]
          exact ⟨fun ⟨z, hz, e⟩ => by rw [← (beq_true_iff _ _).mp e]; exact hz, fun hz => ⟨_, hz, Nat.beq_refl _⟩⟩) h⟩
      · exact h.elim
    · exact h.elim
  · split at h
    · rename_i e
      obtain ⟨hs, h⟩ := RvQ.cnd h
      have hs := (Bool.and_eq_true _ _).mp hs
      obtain ⟨a, vs, q, hl, r⟩ := vw_lst S hy e
      subst q
      have q1 := RD.dp S.sub hs.1 hx
      have q2 := dp_list (v := x) S.sub hs.2 hl r hK
      rw [hK] at q1
      obtain ⟨as, r1⟩ := Dp.reads I _ _ _ q1 rx
      obtain ⟨bs, r2⟩ := Dp.reads I _ _ _ q2 ry
      have g1 := shp_plain _ _ hs.1
      have g2 := shps_plain _ _ hs.2
      exact SeqAt.notIn_list_data r2 r1 g2.1 g1.1 (by omega) (EP.bl I _ (RvQ.bl S (by rw [xor_not]; exact congrArg _ (memD_eq _ _ _ _ hs.1 hs.2)) h))
    · rename_i e
      obtain ⟨hs, h⟩ := RvQ.cnd h
      have hs := (Bool.and_eq_true _ _).mp hs
      have e := vw_tup e
      subst e
      have q1 := RD.dp S.sub hs.1 hx
      have q2 := RD.dp (n := 60) S.sub (show shp 60 (.tup _) = true by simpa [shp] using hs.2) hy
      rw [hK] at q1 q2
      obtain ⟨as, r1⟩ := Dp.reads I _ _ _ q1 rx
      obtain ⟨bs, r2⟩ := Dp.reads I _ _ _ q2 ry
      have g1 := shp_plain _ _ hs.1
      have g2 := shps_plain _ _ hs.2
      simp only [dv] at r2
      exact SeqAt.notIn_tuple_data r2 r1 g2.1 g1.1 (by omega) (EP.bl I _ (RvQ.bl S (by rw [xor_not]; exact congrArg _ (memD_eq _ _ _ _ hs.1 hs.2)) h))
    · split at h
      · rename_i kvs e
        obtain ⟨hk, h⟩ := RvQ.cnd h
        obtain ⟨nk, h1, l, h2⟩ := kyt_tup hk
        subst h2
        obtain ⟨n, a, xs, g1, g2, g3, g4, g5, g6⟩ := dctv_ok S hy e
        subst g3
        rw [hw] at g5
        cases ry
        have hx' := hx
        cases hx with | tup hf hr =>
        cases rx
        obtain ⟨i1, i2⟩ := dfnd_ok h1 g6
        have eq : (valN xs nk).isSome = (dfnd kvs (.tup l)).isSome := by
          cases q : dfnd kvs (.tup l) with
          | none => rw [i2 q]; rfl
          | some z => obtain ⟨v', q1, _⟩ := i1 z q; rw [q1]; rfl
        refine dN_notIn hu I g5 (rks_keys S.sub I.hok g6) (rd_nkey S.sub I.hok h1 hx') fun t' I' => EP.bl I' _ (RvQ.bl S (by rw [xor_not, eq]) h)
      · exact h.elim
theorem isNon_ok {W : Wd} {d : D} {v : V} (r : RD C W d v) (ne : ∀ c p, d ≠ .exc c p) : decide (v = .non) = isNon d := by
  cases r with
  | exc v => exact absurd rfl (ne _ _)
  | _ => simp [isNon]
theorem ok_is : OpR X (compareOp .Is) (rP2 C (pIs false)) := by
  intro pins t σ H x y v u Q I rx ry ⟨W, dx, dy, s, E, S, hx, hy, h⟩
  unfold pIs at h
  split at h
  · cases hy
    split at h
    · exact h.elim
    · rename_i ne
      exact op_isN _ _ _ _ _ _ _ _ _ I rx ry ⟨rfl, RvQ.bl S (by rw [xor_f]; exact (isNon_ok hx ne).symm) h⟩
  · exact h.elim
theorem ok_isn : OpR X (compareOp .IsNot) (rP2 C (pIs true)) := by
  intro pins t σ H x y v u Q I rx ry ⟨W, dx, dy, s, E, S, hx, hy, h⟩
  unfold pIs at h
  split at h
  · cases hy
    split at h
    · exact h.elim
    · rename_i ne
      exact op_notN _ _ _ _ _ _ _ _ _ I rx ry ⟨rfl, RvQ.bl S (by rw [xor_not]; exact congrArg _ (isNon_ok hx ne).symm) h⟩
  · exact h.elim
theorem ok_lt (hK : C.K = X.K) (hu : X.A.units + 100 < cLine) : OpR X (compareOp .Lt) (rP2 C (pLt false false)) := by
  intro pins t σ H x y v u Q I rx ry ⟨W, dx, dy, s, E, S, hx, hy, h⟩
  unfold pLt at h
  split at h
  · cases hx; cases hy
    exact op_lt _ _ _ _ _ _ _ _ _ I rx ry ⟨_, _, rfl, rfl, RvQ.bl S (by rw [xor_f]; exact iltb_eq _ _) h⟩
  · cases hx; cases hy
    exact op_lt_str _ _ _ _ _ _ _ _ _ I rx ry ⟨_, _, rfl, rfl, RvQ.bl S (by rw [xor_f]; exact lltb_eq _ _) h⟩
  · obtain ⟨hs, h⟩ := RvQ.cnd h
    have hs := (Bool.and_eq_true _ _).mp hs
    have hs0 := (Bool.and_eq_true _ _).mp hs.1
    have hs1 := (Bool.and_eq_true _ _).mp hs0.1
    have q1 := vw_dp S hs1.1 hx
    have q2 := vw_dp S hs1.2 hy
    rw [hK] at q1 q2
    obtain ⟨as, r1⟩ := Dp.reads I _ _ _ q1 rx
    obtain ⟨bs, r2⟩ := Dp.reads I _ _ _ q2 ry
    have g1 := shp_plain _ _ hs1.1
    have g2 := shp_plain _ _ hs1.2
    have ak := alk_ok _ _ hs0.2
    exact PySem.W.lt_data r1 r2 ak.1 ak.2 (by omega) (EP.bl I _ (RvQ.bl S (by rw [xor_f]; exact dlt_ok _ _ _ _ hs1.1 hs1.2 hs0.2) h))
theorem ok_le (hK : C.K = X.K) (hu : X.A.units + 100 < cLine) : OpR X (compareOp .LtE) (rP2 C (pLt true true)) := by
  intro pins t σ H x y v u Q I rx ry ⟨W, dx, dy, s, E, S, hx, hy, h⟩
  unfold pLt at h
  split at h
  · cases hx; cases hy
    exact op_le _ _ _ _ _ _ _ _ _ I rx ry ⟨_, _, rfl, rfl, RvQ.bl S (by rw [xor_not]; show (!iltb _ _) = _; rw [iltb_eq, Bool.eq_iff_iff]; simp) h⟩
  · cases hx; cases hy
    exact op_le_str _ _ _ _ _ _ _ _ _ I rx ry ⟨_, _, rfl, rfl, RvQ.bl S (by rw [xor_not]; show (!lltb _ _) = _; rw [lltb_eq]) h⟩
  · obtain ⟨hs, h⟩ := RvQ.cnd h
    have hs := (Bool.and_eq_true _ _).mp hs
    have hs0 := (Bool.and_eq_true _ _).mp hs.1
    have hs1 := (Bool.and_eq_true _ _).mp hs0.1
    have q1 := vw_dp S hs1.1 hx
    have q2 := vw_dp S hs1.2 hy
    rw [hK] at q1 q2
    obtain ⟨as, r1⟩ := Dp.reads I _ _ _ q1 rx
    obtain ⟨bs, r2⟩ := Dp.reads I _ _ _ q2 ry
    have g1 := shp_plain _ _ hs1.1
    have g2 := shp_plain _ _ hs1.2
    have ak := alk_ok _ _ hs0.2
    exact PySem.W.le_data r1 r2 ak.1 ak.2 (by omega) (EP.bl I _ (RvQ.bl S (by rw [xor_not]; exact congrArg _ (dlt_ok _ _ _ _ hs1.2 hs1.1 hs.2)) h))
theorem ok_gt (hK : C.K = X.K) (hu : X.A.units + 100 < cLine) : OpR X (compareOp .Gt) (rP2 C (pLt true false)) := by
  intro pins t σ H x y v u Q I rx ry ⟨W, dx, dy, s, E, S, hx, hy, h⟩
  unfold pLt at h
  split at h
  · cases hx; cases hy
    exact op_gt _ _ _ _ _ _ _ _ _ I rx ry ⟨_, _, rfl, rfl, RvQ.bl S (by rw [xor_f]; exact iltb_eq _ _) h⟩
  · cases hx; cases hy
    exact op_gt_str _ _ _ _ _ _ _ _ _ I rx ry ⟨_, _, rfl, rfl, RvQ.bl S (by rw [xor_f]; exact lltb_eq _ _) h⟩
  · obtain ⟨hs, h⟩ := RvQ.cnd h
    have hs := (Bool.and_eq_true _ _).mp hs
    have hs0 := (Bool.and_eq_true _ _).mp hs.1
    have hs1 := (Bool.and_eq_true _ _).mp hs0.1
    have q1 := vw_dp S hs1.1 hx
    have q2 := vw_dp S hs1.2 hy
    rw [hK] at q1 q2
    obtain ⟨as, r1⟩ := Dp.reads I _ _ _ q1 rx
    obtain ⟨bs, r2⟩ := Dp.reads I _ _ _ q2 ry
    have g1 := shp_plain _ _ hs1.1
    have g2 := shp_plain _ _ hs1.2
    have ak := alk_ok _ _ hs0.2
    exact PySem.W.gt_data r1 r2 ak.1 ak.2 (by omega) (EP.bl I _ (RvQ.bl S (by rw [xor_f]; exact dlt_ok _ _ _ _ hs1.2 hs1.1 hs.2) h))
theorem ok_ge (hK : C.K = X.K) (hu : X.A.units + 100 < cLine) : OpR X (compareOp .GtE) (rP2 C (pLt false true)) := by
  intro pins t σ H x y v u Q I rx ry ⟨W, dx, dy, s, E, S, hx, hy, h⟩
  unfold pLt at h
  split at h
  · cases hx; cases hy
    exact op_ge _ _ _ _ _ _ _ _ _ I rx ry ⟨_, _, rfl, rfl, RvQ.bl S (by rw [xor_not]; show (!iltb _ _) = _; rw [iltb_eq, Bool.eq_iff_iff]; simp) h⟩
  · cases hx; cases hy
    exact op_ge_str _ _ _ _ _ _ _ _ _ I rx ry ⟨_, _, rfl, rfl, RvQ.bl S (by rw [xor_not]; show (!lltb _ _) = _; rw [lltb_eq]) h⟩
  · obtain ⟨hs, h⟩ := RvQ.cnd h
    have hs := (Bool.and_eq_true _ _).mp hs
    have hs0 := (Bool.and_eq_true _ _).mp hs.1
    have hs1 := (Bool.and_eq_true _ _).mp hs0.1
    have q1 := vw_dp S hs1.1 hx
    have q2 := vw_dp S hs1.2 hy
    rw [hK] at q1 q2
    obtain ⟨as, r1⟩ := Dp.reads I _ _ _ q1 rx
    obtain ⟨bs, r2⟩ := Dp.reads I _ _ _ q2 ry
    have g1 := shp_plain _ _ hs1.1
    have g2 := shp_plain _ _ hs1.2
    have ak := alk_ok _ _ hs0.2
    exact PySem.W.ge_data r1 r2 ak.1 ak.2 (by omega) (EP.bl I _ (RvQ.bl S (by rw [xor_not]; exact congrArg _ (dlt_ok _ _ _ _ hs1.1 hs1.2 hs0.2)) h))
theorem ok_cmp (hK : C.K = X.K) (hw : C.w = X.w) (hu : X.A.units + 100 < cLine) (o : COp) : OpR X (compareOp (cmpOp o)) (rP2 C (pCmp o)) := by
  cases o
  · exact ok_eq hK hu
  · exact ok_ne hK hu
  · exact ok_lt hK hu
  · exact ok_le hK hu
  · exact ok_gt hK hu
  · exact ok_ge hK hu
  · exact ok_in hK hw hu
  · exact ok_nin hK hw hu
  · exact ok_is
  · exact ok_isn
/-! ### places -/
theorem nth_eq : ∀ (l : List D) (n : Nat), nth l n = l[n]?
  | [], _ => by simp [nth]
  | d :: r, 0 => rfl
  | d :: r, n + 1 => by rw [List.getElem?_cons_succ, ← nth_eq r n]; rfl
theorem nthN_eq : ∀ (l : List Nat) (n : Nat), nthN l n = l[n]?
  | [], _ => by simp [nthN]
  | d :: r, 0 => rfl
  | d :: r, n + 1 => by rw [List.getElem?_cons_succ, ← nthN_eq r n]; rfl
theorem ixn_eq (i : Int) (n k : Nat) (h : ixn i n = some k) : ixN n i = some k ∧ k < n := by
  unfold ixn at h
  unfold ixN
  split at h
  · rename_i a
    cases q : Nat.blt a n with
    | false => rw [q] at h; cases h
    | true =>
      rw [q] at h; cases h
      have := (blt_iff _ _).mp q
      have h1 : (0 : Int) ≤ Int.ofNat k := Int.natCast_nonneg k
      have h2 : Int.ofNat k < (n : Int) := by show ((k : Nat) : Int) < _; omega
      rw [if_pos h1, if_pos h2]
      exact ⟨rfl, this⟩
  · rename_i a
    cases q : Nat.blt a n with
    | false => rw [q] at h; cases h
    | true =>
      rw [q] at h; cases h
      have := (blt_iff _ _).mp q
      rw [if_neg (by omega), if_pos (by omega)]
      exact ⟨congrArg some (by omega), by omega⟩
theorem at_ok {W : Wd} {l : List D} {vs : List V} {i : Int} {d : D} (r : RDs C W l vs) (h : at_ l i = some d) : ∃ v, atI vs i = some v ∧ RD C W d v := by
  unfold at_ at h
  split at h
  · rename_i k e
    rw [nth_eq] at h
    obtain ⟨v, h1, h2⟩ := r.get h
    refine ⟨v, ?_, h2⟩
    unfold atI
    rw [← r.length, (ixn_eq _ _ _ e).1]
    exact h1
  · cases h
theorem RvQ.opt {W : Wd} {s : St} {n : Nat} {o : Option D} {Q : VK} {E : XK} (h : RvQ C W (optR s n o) Q E) : ∃ d, o = some d ∧ RvQ C W (.ok d s) Q E := by
  cases o with
  | none => exact h.elim
  | some d => exact ⟨d, rfl, h⟩
theorem ok_idx (hK : C.K = X.K) (hw : C.w = X.w) (hu : X.A.units + 100 < cLine) : IxR X (rP2 C pIdx) := by
  intro ve se pins t σ H x y v u Q I rx ry ⟨W, dx, dy, s, E, S, hx, hy, h⟩ hs
  unfold pIdx at h
  split at h
  · refine ix_seq ve se pins t σ H x y v u Q I rx ry ?_ hs
    cases hy
    split at h
    · cases hx
      rename_i l
      obtain ⟨hl, h⟩ := RvQ.cnd h
      split at h
      · rename_i k e
        obtain ⟨d, hd, h⟩ := RvQ.opt h
        rw [nthN_eq] at hd
        split at hd
        · rename_i c hc
          cases hd
          refine .inr (.inr ⟨_, _, c, rfl, rfl, by rw [str_len]; exact ble16 hl, ?_, RvQ.here S (.str _) h⟩)
          unfold atI
          rw [(ixn_eq _ _ _ e).1]
          exact hc
        · cases hd
      · exact h.elim
    · split at h
      · rename_i e
        obtain ⟨d, hd, h⟩ := RvQ.opt h
        obtain ⟨a, vs, q, hl, r⟩ := sqv_ok S hx e
        subst q
        obtain ⟨w, h1, h2⟩ := at_ok r hd
        rw [hK] at hl
        rcases hl with hl | hl
        · exact .inl ⟨_, _, _, _, rfl, rfl, hl, h1, RvQ.here S h2 h⟩
        · exact .inr (.inl ⟨_, _, _, _, rfl, rfl, hl, h1, RvQ.here S h2 h⟩)
      · exact h.elim
  · split at h
    · rename_i kvs e
      obtain ⟨hk, hc⟩ := RvQ.cnd h
      obtain ⟨d, hd, hz⟩ := RvQ.opt hc
      obtain ⟨nk, h1, l, h2⟩ := kyt_tup hk
      subst h2
      obtain ⟨n, a, xs, g1, g2, g3, g4, g5, g6⟩ := dctv_ok S hx e
      subst g3
      rw [hw] at g5
      cases rx
      have hy' := hy
      cases hy with | tup hf hr =>
      cases ry
      obtain ⟨v', q1, q2⟩ := (dfnd_ok h1 g6).1 d hd
      have hT : t.TypeIs (.ref a) "dict" := by
        obtain ⟨_, _, _, _, o, _, _, h1', h2', _⟩ := dct_get I g5
        exact ⟨o, h1', h2'.1⟩
      exact tail_any hT PySem.F.slot_dict_getitem.lookup (dN_getItem hu I g5 (rks_keys S.sub I.hok g6) (rd_nkey S.sub I.hok h1 hy') q1 fun u' t' I' ru => ⟨v', H, I', ru, RvQ.here S q2 hz⟩) hs
    · exact h.elim
theorem takeD_eq : ∀ (n : Nat) (l : List D), takeD n l = l.take n
  | 0, _ => by simp [takeD]
  | _ + 1, [] => by simp [takeD]
  | n + 1, _ :: r => by simp [takeD, takeD_eq n r]
theorem dropD_eq : ∀ (n : Nat) (l : List D), dropD n l = l.drop n
  | 0, _ => by simp [dropD]
  | _ + 1, [] => by simp [dropD]
  | n + 1, _ :: r => by simp [dropD, dropD_eq n r]
theorem takeN_eq : ∀ (n : Nat) (l : List Nat), takeN n l = l.take n
  | 0, _ => by simp [takeN]
  | _ + 1, [] => by simp [takeN]
  | n + 1, _ :: r => by simp [takeN, takeN_eq n r]
theorem dropN_eq : ∀ (n : Nat) (l : List Nat), dropN n l = l.drop n
  | 0, _ => by simp [dropN]
  | _ + 1, [] => by simp [dropN]
  | n + 1, _ :: r => by simp [dropN, dropN_eq n r]
/-- a part's bound -/
def bdv (b : Bool) (x : D) : Option Int := cond b (match x with | .int i => some i | _ => none) none
theorem clp_eq {b : Bool} {n d k : Nat} {x : D} (h : clp b n d x = some k) : HT.sIx n d (bdv b x) = k := by
  unfold clp at h
  cases b with
  | false => cases h; rfl
  | true =>
    rw [cond_true] at h
    split at h
    · cases h
      rename_i a
      show HT.sIx n d (some (Int.ofNat a)) = _
      unfold HT.sIx
      have h1 : ¬ (Int.ofNat a) < 0 := by have : (0 : Int) ≤ Int.ofNat a := Int.natCast_nonneg a; omega
      dsimp only
      rw [if_neg h1]
      rfl
    · cases h
      rename_i a
      show HT.sIx n d (some (Int.negSucc a)) = _
      unfold HT.sIx
      dsimp only
      rw [if_pos (by omega)]
      omega
    · cases h
def rSl (C : Cn) (m p q : Bool) : V → Option Int → Option Int → Hp → VK → Prop := fun x lo hi H Q => ∃ W dx dl dh s E, SimS C W H s ∧ RD C W dx x ∧ bdv p dl = lo ∧ bdv q dh = hi ∧ RvQ C W (pSlc m p q dx dl dh s) Q E
theorem cutD_eq {W : Wd} {p q : Bool} {l : List D} {vs : List V} {a b : Nat} {dl dh : D} (r : RDs C W l vs) (ha : clp p l.length 0 dl = some a) (hb : clp q l.length l.length dh = some b) : RDs C W (cutD l a b) (cutV vs (bdv p dl) (bdv q dh)) := by
  unfold cutD cutV
  rw [takeD_eq, dropD_eq, ← r.length, clp_eq ha, clp_eq hb]
  exact (r.drop _).take _
theorem cutD_all (l : List D) : cutD l 0 l.length = l := by unfold cutD; rw [takeD_eq, dropD_eq]; simp
theorem ok_slc (hK : C.K = X.K) (m p q : Bool) : SlR X (rSl C m p q) := by
  intro pins t σ H x v vl vu lo hi sl Q I rx hsl p1 p2 ⟨W, dx, dl, dh, s, E, S, hx, e1, e2, h⟩
  unfold pSlc at h
  split at h
  · obtain ⟨hl, h⟩ := RvQ.cnd h
    split at h
    · rename_i a b ha hb
      cases hx
      refine sl_str pins t σ H _ v vl vu lo hi sl Q I rx hsl p1 p2 ⟨_, rfl, by rw [str_len]; exact ble16 hl, ?_⟩
      subst e1; subst e2
      have := RvQ.here S (.str _) h
      rw [takeN_eq, dropN_eq] at this
      unfold cutS
      rw [str_len, clp_eq ha, clp_eq hb]
      exact this
    · exact h.elim
  · split at h
    · rename_i a b ha hb
      cases hx with | tup hp r =>
      subst e1; subst e2
      have q0 := cutD_eq r ha hb
      refine sl_tupA pins t σ H _ v vl vu _ _ sl Q I rx hsl p1 p2 ⟨_, _, rfl, hp.sq S.sub, fun ⟨g1, g2⟩ => ?_, fun _ p hp => ?_⟩
      · have h1 := clp_eq ha
        have h2 := clp_eq hb
        rw [r.length] at h1 h2
        rw [g1] at h1
        rw [g2] at h2
        rw [← h1, ← h2, ← r.length, cutD_all] at h
        exact RvQ.here S (.tup hp r) h
      · obtain ⟨le, S', q'⟩ := S.newT hp q0
        exact h _ _ _ le S' q'
    · exact h.elim
  · split at h
    · rename_i z e
      split at h
      · rename_i a b ha hb
        obtain ⟨p, vs, q, hl, r⟩ := sqv_lst S hx e (by assumption)
        subst q; subst e1; subst e2
        rw [hK] at hl
        exact sl_list pins t σ H _ v vl vu _ _ sl Q I rx hsl p1 p2 ⟨_, _, rfl, hl, fun p hp => (newL_ok S hp (cutD_eq r ha hb) h).2⟩
      · exact h.elim
    · exact h.elim
end
end Mv
end

section
set_option Elab.async false
set_option linter.all false
set_option maxRecDepth 100000
set_option maxHeartbeats 4000000
/-! Prim2: truth, functions of one and two things, isinstance, methods. -/
namespace Mv
open PySem PySem.Spec PyProof.Rows L2
theorem isEmpty_len {α β : Type} {a : List α} {b : List β} (h : a.length = b.length) : a.isEmpty = b.isEmpty := by
  cases a <;> cases b <;> simp_all
section
variable {C : Cn} {W : Wd} {H : Hp} {s : St}
theorem tru_ok (S : SimS C W H s) {d : D} {v : V} {b : Bool} (r : RD C W d v) (h : tru s d = some b) : TruV C.K v H b := by
  unfold tru at h
  split at h
  · cases h; cases r; rfl
  · cases h; cases r; rfl
  · cases h; cases r
    show _ = _
    rw [ieqb_eq]
    rfl
  · cases r
    rename_i l
    cases q : Nat.ble l.length 16777216 with
    | false => rw [q] at h; cases h
    | true =>
      rw [q] at h; cases h
      refine ⟨by rw [str_len]; exact ble16 q, ?_⟩
      rw [str_len]
      cases l with
      | nil => rfl
      | cons a r => simp; omega
  · split at h
    · rename_i l e
      cases h
      obtain ⟨a, vs, q, hl, r'⟩ := sqv_ok S r e
      subst q
      rcases hl with hl | hl
      · exact .inl ⟨_, hl, by rw [isEmpty_len r'.length]⟩
      · exact .inr (.inl ⟨_, hl, by rw [isEmpty_len r'.length]⟩)
    · cases h
end
section
variable {X : Cx} {C : Cn}
def r1 (C : Cn) (pr : D → St → Rv) : V → Hp → VK → Prop := fun x H Q => ∃ W d s E, SimS C W H s ∧ RD C W d x ∧ RvQ C W (pr d s) Q E
def rC1 (C : Cn) (pr : D → St → Rv) : List V → Hp → VK → Prop := fun xs H Q => ∃ x, xs = [x] ∧ r1 C pr x H Q
def rC2 (C : Cn) (pr : D → D → St → Rv) : List V → Hp → VK → Prop := fun xs H Q => ∃ x y, xs = [x, y] ∧ rP2 C pr x y H Q
theorem CallR.imp {f : Value} {r r' : List V → Hp → VK → Prop} (h : CallR X f r) (hi : ∀ xs H Q, r' xs H Q → r xs H Q) : CallR X f r' :=
  fun pins s σ H xs us Q I V q => h pins s σ H xs us Q I V (hi _ _ _ q)
theorem MtR.imp {f : String} {r r' : V → List V → Hp → VK → Prop} (h : MtR X f r) (hi : ∀ x xs H Q, r' x xs H Q → r x xs H Q) : MtR X f r' :=
  fun pins s σ H x xs v us Q I rx V q => h pins s σ H x xs v us Q I rx V (hi _ _ _ _ q)
theorem ok_neg : UnR X (unaryOp .USub) (r1 C pNeg) := by
  intro pins t σ H x v Q I rx ⟨W, d, s, E, S, hx, h⟩
  unfold pNeg at h
  split at h
  · cases hx
    exact un_neg pins t σ H _ v Q I rx ⟨_, rfl, RvQ.here S (.int _) h⟩
  · exact h.elim
theorem ok_len (hK : C.K = X.K) : CallR X (.builtin "len") (rC1 C pLen) := by
  intro pins t σ H xs us Q I V ⟨x, e, W, d, s, E, S, hx, h⟩
  subst e
  unfold pLen at h
  split at h
  · cases hx
    obtain ⟨hl, h⟩ := RvQ.cnd h
    exact call_len_str pins t σ H _ us Q I V ⟨_, rfl, by rw [str_len]; exact ble16 hl, by rw [str_len]; exact RvQ.here S (.int _) h⟩
  · split at h
    · rename_i l e
      obtain ⟨a, vs, q, hl, r⟩ := sqv_ok S hx e
      subst q
      rw [hK] at hl
      exact call_len_seq pins t σ H _ us Q I V ⟨_, _, rfl, hl, by rw [← r.length]; exact RvQ.here S (.int _) h⟩
    · exact h.elim
theorem ok_abs : CallR X (.builtin "abs") (rC1 C pAbs) := by
  intro pins t σ H xs us Q I V ⟨x, e, W, d, s, E, S, hx, h⟩
  subst e
  unfold pAbs at h
  split at h
  · cases hx
    rename_i i
    refine call_abs pins t σ H _ us Q I V ⟨_, rfl, ?_⟩
    have := RvQ.here S (.int _) h
    have e : Int.ofNat i.natAbs = if i < 0 then -i else i := by
      show ((i.natAbs : Nat) : Int) = _
      split <;> omega
    rw [← e]; exact this
  · exact h.elim
theorem ok_int : CallR X (.type "int") (rC1 C pInt) := by
  intro pins t σ H xs us Q I V ⟨x, e, W, d, s, E, S, hx, h⟩
  subst e
  unfold pInt at h
  split at h
  · cases hx
    exact call_int1 pins t σ H _ us Q I V (.inl ⟨_, rfl, RvQ.here S (.int _) h⟩)
  · cases hx
    rename_i b
    refine call_int1 pins t σ H _ us Q I V (.inr ⟨_, rfl, ?_⟩)
    have := RvQ.here S (.int _) h
    cases b <;> exact this
  · exact h.elim
theorem ok_lst (hK : C.K = X.K) (hw : C.w = X.w) (hc : X.calm = true) (m : Bool) : CallR X (.type "list") (rC1 C (pLst m)) := by
  intro pins t σ H xs us Q I V ⟨x, e, W, d, s, E, S, hx, h⟩
  subst e
  unfold pLst at h
  split at h
  · rename_i l e
    obtain ⟨a, vs, q, hl, r⟩ := sqv_ok S hx e
    subst q
    rw [hK] at hl
    exact call_list_of pins t σ H _ us Q I V ⟨_, _, rfl, hl, fun p hp => (newL_ok S hp r h).2⟩
  · split at h
    · rename_i kvs e
      obtain ⟨n, a, zs, g1, g2, g3, g4, g5, g6⟩ := dctv_ok S hx e
      subst g3
      rw [hw] at g5
      rw [Vals.ref1 V]
      refine dN_list hc I g5 fun p hp => (newL_ok S hp (m := m) ?_ h).2
      clear h e g2 g5 hx g1
      induction g6 with
      | nil => exact .nil
      | cons h t ih => exact .cons h.2.1 ih
    · exact h.elim
theorem prs_ok {W : Wd} {H : Hp} {s : St} (S : SimS C W H s) : ∀ {l : List D} {vs : List V} {prs : List (D × D)}, RDs C W l vs → prsD l = some prs → ∃ (ps : List Addr) (xs : List NRow), vs = ps.map V.ref ∧ Paired (fun p (x : NRow) => SqT C.K H p [.ref x.2.1, x.2.2]) ps xs ∧ RKs C W prs xs
  | _, _, _, .nil, h => by simp [prsD] at h; subst h; exact ⟨[], [], rfl, .nil, .nil⟩
  | d :: l, _, prs, .cons hd r, h => by
    unfold prsD at h
    split at h
    · rename_i k v
      cases hb : kyt k with
      | false => rw [hb] at h; cases h
      | true =>
        rw [hb] at h
        simp only [cond_true] at h
        split at h
        · rename_i m e
          cases h
          obtain ⟨ps, xs, g1, g2, g3⟩ := prs_ok S r e
          cases hd with | tup hf hr =>
          rename_i a vs'
          cases hr with | cons r1 r2 =>
          cases r2 with | cons r3 r4 =>
          cases r4
          obtain ⟨nk, h1, l', h2⟩ := kyt_tup hb
          subst h2
          have r1' := r1
          cases r1 with | tup hf1 hr1 =>
          rename_i b vs1
          exact ⟨a :: ps, (nk, b, _) :: xs, by rw [g1]; rfl, .cons (hf.sq S.sub) g2, .cons ⟨h1, r1', r3⟩ g3⟩
        · cases h
    · cases h
theorem mrg_ok {W : Wd} : ∀ {prs : List (D × D)} {ys : List NRow} {acc : List (D × D)} {xs : List NRow}, RKs C W prs ys → RKs C W acc xs → RKs C W (mrgD acc prs) (mergeV xs ys)
  | _, _, _, _, .nil, r => r
  | _, _, acc, xs, .cons (a := kv) (b := y) h t, r => by
    show RKs C W (mrgD (dput acc kv.1 kv.2) _) (mergeV (putN xs y.1 y.2.1 y.2.2) _)
    exact mrg_ok t (dput_ok h.1 h.2.1 h.2.2 r)
theorem ok_dic (hK : C.K = X.K) (hw : C.w = X.w) (hc : X.calm = true) (hu : X.A.units + 100 < cLine) : CallR X (.type "dict") (rC1 C pDic) := by
  intro pins t σ H xs us Q I V ⟨x, e, W, d, s, E, S, hx, h⟩
  subst e
  unfold pDic at h
  split at h
  · rename_i l e
    split at h
    · rename_i prs e2
      obtain ⟨a, vs, q, hl, r⟩ := sqv_lst S hx (lqv_sqv e).1 (lqv_sqv e).2
      subst q
      obtain ⟨ps, zs, g1, g2, g3⟩ := prs_ok S r e2
      subst g1
      rw [hK] at hl g2
      rw [Vals.ref1 V]
      refine dN_pairs hc hu I hl g2 (rks_keys S.sub I.hok g3) fun p hp => ?_
      rw [← hw]
      exact newD_ok S hp (mrg_ok g3 .nil) h
    · exact h.elim
  · exact h.elim
theorem ok_tup (hK : C.K = X.K) : CallR X (.type "tuple") (rC1 C pTup) := by
  intro pins t σ H xs us Q I V ⟨x, e, W, d, s, E, S, hx, h⟩
  subst e
  unfold pTup at h
  split at h
  · cases hx with | tup hp r =>
    exact call_tuple_of pins t σ H _ us Q I V ⟨_, _, rfl, .inr ⟨hp.sq S.sub, RvQ.here S (.tup hp r) h⟩⟩
  · split at h
    · rename_i ne l e
      obtain ⟨a, vs, q, hl, r⟩ := sqv_lst S hx e (by assumption)
      subst q
      rw [hK] at hl
      exact call_tuple_of pins t σ H _ us Q I V ⟨_, _, rfl, .inl ⟨hl, fun p hp => newT_ok S hp r h⟩⟩
    · exact h.elim
theorem ok_tpn (hK : C.K = X.K) : CallR X (.type "tuple") (rC1 C pTpn) := by
  intro pins t σ H xs us Q I V ⟨x, e, W, d, s, E, S, hx, h⟩
  subst e
  unfold pTpn at h
  split at h
  · rename_i l e
    obtain ⟨hlen, h⟩ := RvQ.cnd h
    obtain ⟨a, vs, q, hl, r⟩ := sqv_lst S hx (lqv_sqv e).1 (lqv_sqv e).2
    subst q
    rw [hK] at hl
    obtain ⟨u, rfl, rx⟩ := vals1 V
    cases rx
    obtain ⟨its, r', pl, hz⟩ := I.list hl
    have hlen := r'.length
    refine call_tuple_list pl.isList (fun h' kp => ?_) (by simp only [List.size_toArray] <;> omega)
    have I1 : L2.Inv X pins σ H { t with heap := h' } := I.kept (t' := t.toks) kp
    have I2 : L2.Inv X pins σ (upd H h'.objs.size (.frz { cls := .type "tuple", data := .seq its.toArray } (.tup vs))) { t with heap := h'.push { cls := .type "tuple", data := .seq its.toArray } } :=
      I1.laid (t' := t.toks) (fun b o e => Heap.get?_push_of_some _ e) (Nat.le_refl _) (show ObjOk X.prog X.w _ _ _ (.frz _ (.tup vs)) from ⟨Heap.get?_push_size _ rfl, hz, its, r', IsTup.new _ _⟩)
    have hn : H h'.objs.size = none := I1.hok.fresh (Nat.le_refl _)
    obtain ⟨le, S', q⟩ := S.newTn hn (o := { cls := .type "tuple", data := .seq its.toArray }) rfl r
    exact ⟨.ref h'.objs.size, _, I2, rfl, h _ _ _ le S' q⟩
  · exact h.elim
theorem allB_ok {W : Wd} : ∀ {l : List D} {vs : List V} {b : Bool}, RDs C W l vs → allB l = some b → ∃ bs : List Bool, vs = bs.map V.bl ∧ b = bs.all id
  | _, _, _, .nil, h => by simp [allB] at h; exact ⟨[], rfl, by simp [h]⟩
  | d :: l, _, b, .cons hd r, h => by
    unfold allB at h
    split at h
    · cases hd
      split at h
      · rename_i c e
        cases h
        obtain ⟨bs, h1, h2⟩ := allB_ok r e
        subst h1; subst h2
        exact ⟨_ :: bs, rfl, by simp⟩
      · cases h
    · cases h
theorem anyB_ok {W : Wd} : ∀ {l : List D} {vs : List V} {b : Bool}, RDs C W l vs → anyB l = some b → ∃ bs : List Bool, vs = bs.map V.bl ∧ b = bs.any id
  | _, _, _, .nil, h => by simp [anyB] at h; exact ⟨[], rfl, by simp [h]⟩
  | d :: l, _, b, .cons hd r, h => by
    unfold anyB at h
    split at h
    · cases hd
      split at h
      · rename_i c e
        cases h
        obtain ⟨bs, h1, h2⟩ := anyB_ok r e
        subst h1; subst h2
        exact ⟨_ :: bs, rfl, by simp⟩
      · cases h
    · cases h
theorem sumI_ok {W : Wd} : ∀ {l : List D} {vs : List V} {b : Int}, RDs C W l vs → sumI l = some b → ∃ bs : List Int, NumL bs vs ∧ b = bs.sum
  | _, _, _, .nil, h => by simp [sumI] at h; exact ⟨[], .nil, by simp [← h]⟩
  | d :: l, _, b, .cons hd r, h => by
    unfold sumI at h
    split at h
    · cases hd
      split at h
      · rename_i c e
        cases h
        obtain ⟨bs, h1, h2⟩ := sumI_ok r e
        subst h2
        exact ⟨_ :: bs, .int _ h1, by simp [List.sum_cons]⟩
      · cases h
    · cases hd
      split at h
      · rename_i c e
        cases h
        obtain ⟨bs, h1, h2⟩ := sumI_ok r e
        subst h2
        refine ⟨_ :: bs, .bl _ h1, ?_⟩
        rw [List.sum_cons]
        have hb : ∀ b : Bool, b2n b = b2i b := fun b => by cases b <;> rfl
        rw [hb]; rfl
      · cases h
    · cases h
theorem ok_all (hK : C.K = X.K) (hc : X.calm = true) : CallR X (.builtin "all") (rC1 C pAll) := by
  intro pins t σ H xs us Q I V ⟨x, e, W, d, s, E, S, hx, h⟩
  subst e
  unfold pAll at h
  split at h
  · rename_i l e
    obtain ⟨a, vs, q, hl, r⟩ := vw_lst S hx e
    subst q
    split at h
    · rename_i b e
      obtain ⟨bs, h1, h2⟩ := allB_ok r e
      subst h1
      exact cr_all hc pins t σ H _ us Q I V ⟨_, bs, rfl, .inl (.inl hl), RvQ.bl S h2 h⟩
    · exact h.elim
  · exact h.elim
theorem ok_any (hK : C.K = X.K) (hc : X.calm = true) : CallR X (.builtin "any") (rC1 C pAny) := by
  intro pins t σ H xs us Q I V ⟨x, e, W, d, s, E, S, hx, h⟩
  subst e
  unfold pAny at h
  split at h
  · rename_i l e
    obtain ⟨a, vs, q, hl, r⟩ := vw_lst S hx e
    subst q
    split at h
    · rename_i b e
      obtain ⟨bs, h1, h2⟩ := anyB_ok r e
      subst h1
      exact cr_any hc pins t σ H _ us Q I V ⟨_, bs, rfl, .inl (.inl hl), RvQ.bl S h2 h⟩
    · exact h.elim
  · exact h.elim
theorem ok_sum (hK : C.K = X.K) (hc : X.calm = true) : CallR X (.builtin "sum") (rC1 C pSum) := by
  intro pins t σ H xs us Q I V ⟨x, e, W, d, s, E, S, hx, h⟩
  subst e
  unfold pSum at h
  split at h
  · rename_i l e
    obtain ⟨a, vs, q, hl, r⟩ := vw_lst S hx e
    subst q
    split at h
    · rename_i b e
      obtain ⟨bs, h1, h2⟩ := sumI_ok r e
      subst h2
      exact cr_sumN hc pins t σ H _ us Q I V ⟨_, _, bs, rfl, .inl (.inl hl), h1, RvQ.here S (.int _) h⟩
    · exact h.elim
  · exact h.elim
theorem ok_min2 (hc : X.calm = true) : CallR X (.builtin "min") (rC2 C pMin2) := by
  intro pins t σ H xs us Q I V ⟨x, y, e, W, dx, dy, s, E, S, hx, hy, h⟩
  subst e
  unfold pMin2 onI2 at h
  split at h
  · split at h
    · cases hx; cases hy
      rename_i a _ b
      refine call_min2 hc pins t σ H _ us Q I V ⟨_, _, rfl, ?_⟩
      have := RvQ.here S (.int _) h
      rw [iltb_eq] at this
      by_cases q : b < a
      · rw [if_pos q]; rw [decide_eq_true q] at this; exact this
      · rw [if_neg q]; rw [decide_eq_false q] at this; exact this
    · exact h.elim
  · exact h.elim
theorem ok_max2 (hc : X.calm = true) : CallR X (.builtin "max") (rC2 C pMax2) := by
  intro pins t σ H xs us Q I V ⟨x, y, e, W, dx, dy, s, E, S, hx, hy, h⟩
  subst e
  unfold pMax2 onI2 at h
  split at h
  · split at h
    · cases hx; cases hy
      rename_i a _ b
      refine call_max2 hc pins t σ H _ us Q I V ⟨_, _, rfl, ?_⟩
      have := RvQ.here S (.int _) h
      rw [iltb_eq] at this
      by_cases q : a < b
      · rw [if_pos q]; rw [decide_eq_true q] at this; exact this
      · rw [if_neg q]; rw [decide_eq_false q] at this; exact this
    · exact h.elim
  · exact h.elim
/-! ### isinstance -/
def kone (a b : String) : Option Bool := if (Value.type a == Value.type b) = true then some true else if PySem.W.kitMeta b = true then Option.map (fun x => x.contains (Value.type b)) (fastBuiltinMro a) else none
theorem kone_eq (K : PySem.W.Frag) (a b : String) : PySem.W.kitOne K (.type a) (.type b) = kone a b := rfl
def tyN (t : Nat) : String := match t with | 0 => "int" | 1 => "bool" | 2 => "str" | 3 => "tuple" | 4 => "list" | _ => "NoneType"
def kAll : Bool := [0, 1, 2, 3, 4, 9].all fun t => [0, 1, 2, 3, 4].all fun k => kone (tyN t) (tyN k) == some (isB t k)
theorem kAll_ok : kAll = true := by decide +kernel
theorem kone_ok {t k : Nat} (ht : t = 0 ∨ t = 1 ∨ t = 2 ∨ t = 3 ∨ t = 4 ∨ t = 9) (hk : k < 5) : kone (tyN t) (tyN k) = some (isB t k) := by
  have h := List.all_eq_true.mp kAll_ok t (by rcases ht with h | h | h | h | h | h <;> subst h <;> decide)
  have h := List.all_eq_true.mp h k (by have : k = 0 ∨ k = 1 ∨ k = 2 ∨ k = 3 ∨ k = 4 := by omega
                                        rcases this with h | h | h | h | h <;> subst h <;> decide)
  exact eq_of_beq h
theorem tyName_lt {k : Nat} (hk : k < 5) : tyName k = some (tyN k) := by
  have : k = 0 ∨ k = 1 ∨ k = 2 ∨ k = 3 ∨ k = 4 := by omega
  rcases this with h | h | h | h | h <;> subst h <;> rfl
theorem tyOf_ok {W : Wd} {H : Hp} {s : St} (S : SimS C W H s) {d : D} {v : V} {t : Nat} (r : RD C W d v) (h : tyOf d = some t) (ht : thr s d = true) : TyX C.K H v (.type (tyN t)) ∧ (t = 0 ∨ t = 1 ∨ t = 2 ∨ t = 3 ∨ t = 4 ∨ t = 9) := by
  cases r with
  | non => cases h; exact ⟨.base .non, by simp⟩
  | bl b => cases h; exact ⟨.base (.bl b), by simp⟩
  | int b => cases h; exact ⟨.base (.int b), by simp⟩
  | str b => cases h; exact ⟨.base (.str _), by simp⟩
  | tup q r =>
    cases h
    rcases q with q | ⟨o, q⟩
    · exact ⟨.base (.tup (S.sub _ _ q)), by simp⟩
    · exact ⟨.fTuple (S.sub _ _ q), by simp⟩
  | lst q r => cases h; exact ⟨.base (.lst (S.sub _ _ q)), by simp⟩
  | loc q =>
    cases h
    rename_i n a
    unfold thr at ht
    cases ho : fnd s.cs n with
    | none => simp [ho] at ht
    | some o =>
      cases o with
      | lst k l =>
        obtain ⟨a', vs, h1, h2, h3, h4⟩ := S.cell n k l ho
        rw [q] at h1; cases h1
        exact ⟨.base (.lst h3), by simp⟩
      | dct kvs => simp [ho] at ht
  | scr q =>
    cases h
    refine ⟨?_, by simp⟩
    rcases q with (q | ⟨o, q⟩) | ⟨o, its, n, q, hc, _⟩
    · exact .base (.lst (S.sub _ _ q))
    · exact .base (.frz (S.sub _ _ q))
    · exact .kList q hc
  | _ => cases h
theorem call_isiTF {pins : List (Addr × Obj)} {s : Shared} {σ : L2.St} {H : Hp} {x : V} {tp : Addr} {cs : List V} {t : Value} {ws us : List Value} {b : Bool} {Q : VK} (I : L2.Inv X pins σ H s) (r : Vals [x, .ref tp] us) (hT : TF H tp cs) (k : Paired ClsV cs ws) (ty : TyX X.K H x t) (e : PySem.W.kitAny X.K t ws = some b) (q : Q (.bl b) H) :
    wpAny (model X.prog X.w) X.A (call (.builtin "isinstance") us) (EP X pins σ Q) X.xe s := by
  obtain ⟨u1, u2, rfl, r1, r2⟩ := vals2 r
  cases (show u2 = Value.ref tp from r2)
  obtain ⟨P, Z, p, hx⟩ := kit_of I r1 ty
  obtain ⟨_, its, rv, o, h1, h2, n, h3⟩ : ObjOk X.prog X.w H s.heap tp (.tup cs) := by
    rcases hT with hT | ⟨o, hT⟩
    · exact I.hok tp _ hT
    · exact (I.hok tp _ hT).2
  have e3 := ClsV.all k rv
  subst e3
  obtain ⟨oc, od, dt, sl⟩ := o
  simp only at h2 h3
  subst h2 h3
  exact PySem.W.kia_tup Z I.kIn p h1 e hx fun tk => ⟨.bl b, H, I.tok tk, rfl, q⟩
theorem RD.tyv {W : Wd} {k : Nat} {v : V} (r : RD C W (.ty k) v) (hk : k < 5) : v = .ty (tyN k) := by
  cases r with
  | tyb h => rw [tyName_lt hk] at h; cases h; rfl
  | tyo h _ => rw [tyName_lt hk] at h; cases h
theorem tyNums_ok {W : Wd} : ∀ {l : List D} {vs : List V} {ks : List Nat}, RDs C W l vs → tyNums l = some ks → Paired ClsV vs (ks.map fun k => Value.type (tyN k)) ∧ ∀ k ∈ ks, k < 5
  | _, _, _, .nil, h => by simp [tyNums] at h; subst h; exact ⟨.nil, by simp⟩
  | d :: l, _, ks, .cons hd r, h => by
    unfold tyNums at h
    split at h
    · rename_i k
      cases q : Nat.blt k 5 with
      | false => rw [q] at h; cases h
      | true =>
        rw [q] at h
        have hk := (blt_iff _ _).mp q
        rw [cond_true] at h
        split at h
        · rename_i m e
          cases h
          obtain ⟨h1, h2⟩ := tyNums_ok r e
          have := RD.tyv hd hk
          subst this
          exact ⟨.cons (.ty _) h1, fun j hj => by
            rcases List.mem_cons.mp hj with e | e
            · rw [e]; exact hk
            · exact h2 j e⟩
        · cases h
    · cases h
theorem kitAny_ok (K : PySem.W.Frag) {t : Nat} (ht : t = 0 ∨ t = 1 ∨ t = 2 ∨ t = 3 ∨ t = 4 ∨ t = 9) : ∀ ks : List Nat, (∀ k ∈ ks, k < 5) → PySem.W.kitAny K (.type (tyN t)) (ks.map fun k => Value.type (tyN k)) = some (ks.any fun k => isB t k)
  | [], _ => by simp [PySem.W.kitAny]
  | k :: r, h => by
    rw [List.map_cons, PySem.W.kitAny, kone_eq, kone_ok ht (h k (by simp)), List.any_cons]
    cases isB t k with
    | true => rfl
    | false => exact kitAny_ok K ht r fun j hj => h j (by simp [hj])
theorem ok_isi (hK : C.K = X.K) (cb : Nat → Nat) : CallR X (.builtin "isinstance") (rC2 C (pIsi cb)) := by
  intro pins t σ H xs us Q I V ⟨x, y, e, W, dx, dy, s, E, S, hx, hy, h⟩
  subst e
  unfold pIsi at h
  split at h
  · exact h.elim
  · split at h
    · rename_i tt ht
      obtain ⟨hthr, h⟩ := RvQ.cnd h
      obtain ⟨h1, h2⟩ := tyOf_ok S hx ht hthr
      rw [hK] at h1
      split at h
      · obtain ⟨hk, h⟩ := RvQ.cnd h
        have hk := (blt_iff _ _).mp hk
        have := RD.tyv hy hk
        subst this
        exact call_isi pins t σ H _ us Q I V ⟨_, _, _, _, _, rfl, .ty _, h1, (kone_eq _ _ _).trans (kone_ok h2 hk), RvQ.here S (.bl _) h⟩
      · split at h
        · rename_i l e
          cases hy with | tup hp r =>
          obtain ⟨g1, g2⟩ := tyNums_ok r e
          exact call_isiTF I V (hp.mono S.sub) g1 h1 (kitAny_ok _ h2 _ g2) (RvQ.here S (.bl _) h)
        · exact h.elim
      · exact h.elim
    · exact h.elim
/-! ### methods -/
def rM1 (C : Cn) (pr : D → D → St → Rv) : V → List V → Hp → VK → Prop := fun x xs H Q => ∃ y, xs = [y] ∧ rP2 C pr x y H Q
theorem ok_app : MtR X "list.append" (rM1 C pApp) := by
  intro pins t σ H x xs v us Q I rx V ⟨y, e, W, dx, dy, s, E, S, hx, hy, h⟩
  subst e
  refine mt_append pins t σ H x _ v us Q I rx V ?_
  unfold pApp at h
  split at h
  · split at h
    · rename_i n l e
      obtain ⟨hl, h⟩ := RvQ.cnd h
      cases hx with | loc hp =>
      obtain ⟨a, vs, h1, h2, h3, h4⟩ := S.cell _ _ _ e
      rw [hp] at h1; cases h1
      refine ⟨_, _, _, rfl, rfl, h3, ?_, ?_⟩
      · have := (blt_iff _ _).mp hl
        rw [← h4.length, sizeLine_eq]; exact this
      · have q := h4.append (.cons hy .nil)
        exact h _ _ _ (.refl _) (S.write e hp q) .non
    · exact h.elim
  · exact h.elim
theorem RDs.dropLast {W : Wd} : ∀ {l : List D} {vs : List V}, RDs C W l vs → RDs C W l.dropLast vs.dropLast
  | _, _, .nil => .nil
  | _, _, .cons _ .nil => .nil
  | _, _, .cons r (.cons r2 t) => .cons r (RDs.dropLast (.cons r2 t))
def rM0 (C : Cn) (pr : D → St → Rv) : V → List V → Hp → VK → Prop := fun x xs H Q => xs = [] ∧ ∃ W dx s E, SimS C W H s ∧ RD C W dx x ∧ RvQ C W (pr dx s) Q E
theorem ok_pop : MtR X "list.pop" (rM0 C pPop) := by
  intro pins t σ H x xs v us Q I rx V ⟨e, W, dx, s, E, S, hx, h⟩
  subst e
  refine mt_pop pins t σ H x _ v us Q I rx V ?_
  unfold pPop at h
  split at h
  · split at h
    · rename_i n l e
      split at h
      · rename_i y hy
        cases hx with | loc hp =>
        obtain ⟨a, vs, h1, h2, h3, h4⟩ := S.cell _ _ _ e
        rw [hp] at h1; cases h1
        rw [nth_eq] at hy
        obtain ⟨w, g1, g2⟩ := h4.get hy
        refine ⟨_, _, w, rfl, rfl, h3, by rw [← h4.length]; exact g1, ?_⟩
        exact h _ _ _ (.refl _) (S.write e hp h4.dropLast) g2
      · exact h.elim
    · exact h.elim
  · exact h.elim
/-- l.extend(t), t a tuple -/
theorem list_extend_tupG (l : Addr) (items : Array Value) (n : Nat) (b : Addr) (items2 : Array Value) (n2 : Nat) (dd : Option Addr) (sl : Array (Option Value)) (hs0 : ¬(!items.isEmpty && Builtin.List.listTooLong (items.size + items2.size)) = true) (hs1 : items.size ≤ sizeLine) (hs2 : items.size + items2.size ≤ sizeLine + 1) :
    Meets (Builtin.«list.extend» ⟨[.ref l, .ref b], []⟩) (fun _ R s => s.heap.get? l = some { cls := .type "list", dict := none, data := .seq items n, slots := #[] } ∧ s.heap.get? b = some { cls := .type "tuple", dict := dd, data := .seq items2 n2, slots := sl } ∧ R (.ok (.ret Value.none)) { s with heap := s.heap.update l (Obj.mapSeq fun x => x ++ items2), toks := s.toks }) :=
  .of_wp fun prog w A R s h => by
    obtain ⟨hp, g, d, tk, os⟩ := s; obtain ⟨hl, hb, h⟩ := h; have f1 := AutoSeq1.idx_int; have f2 := AutoSeq1.sub_tuple_tuple; have f3 := AutoSeq1.sub_list_list; have f4 := AutoSeq1.sub_tuple_list; have f5 := AutoSeq1.sub_list_tuple;
    have hz' : (items ++ items2).size ≤ sizeLine + 1 := by rw [Array.size_append]; exact hs2
    wp_walk using (wpAny_updateSeq hl rfl (hz := hs1) (_hz' := hz')), wpAny_loadPart' hl, wpAny_loadPart' hb; exact ⟨_, rfl, h⟩
theorem mt_extendT {pins : List (Addr × Obj)} {s : Shared} {σ : L2.St} {H : Hp} {l b : Addr} {xs zs : List V} {Q : VK} (I : Inv X pins σ H s) (hH : H l = some (.lst xs)) (hB : SqT X.K H b zs) (hz : xs.length + zs.length ≤ sizeLine) (q : Q .non (upd H l (.lst (xs ++ zs)))) :
    wpAny (model X.prog X.w) X.A (call (.builtin "list.extend") [.ref l, .ref b]) (EP X pins σ Q) X.xe s := by
  obtain ⟨z, its, n, r, hl, e⟩ := I.lstM hH
  obtain ⟨its2, r2, ⟨⟨cls, dd, dt, sl⟩, e2, hc, n2, hd⟩, hl2⟩ := I.tuple hB
  simp only at hc hd
  subst hc hd
  have k1 := r.length
  have k2 := r2.length
  have hsz : its.toArray.size + its2.toArray.size ≤ sizeLine := by rw [List.size_toArray, List.size_toArray]; omega
  have hlong : ¬ (!its.toArray.isEmpty && Builtin.List.listTooLong (its.toArray.size + its2.toArray.size)) = true := by
    rw [notLongL hsz, Bool.and_false]
    exact Bool.false_ne_true
  refine call_meets F.slot_list_extend ⟨_, e, rfl⟩ F.entry_list_extend (F.args_list_extend_2 _ _)
    (list_extend_tupG l its.toArray n b its2.toArray n2 dd sl hlong (by rw [List.size_toArray]; omega) (by omega)) ⟨e, e2, ?_⟩
  refine ⟨.non, _, I.lset (its' := its ++ its2) hH e (by simp) (r.append r2) ?_, rfl, q⟩
  rw [List.length_append]
  omega
theorem ok_ext : MtR X "list.extend" (rM1 C pExt) := by
  intro pins t σ H x xs v us Q I rx rv ⟨y, e, W, dx, dy, s, E, S, hx, hy, h⟩
  subst e
  unfold pExt at h
  split at h
  · rename_i m
    split at h
    · rename_i l e
      split at h
      · rename_i m' e'
        obtain ⟨hl, h⟩ := RvQ.cnd h
        have hl := Nat.le_of_ble_eq_true hl
        cases hx with | loc hp =>
        rename_i a
        obtain ⟨a, vs, h1, h2, h3, h4⟩ := S.cell _ _ _ e
        rw [hp] at h1; cases h1
        have fin : ∀ {ws : List L2.V}, RDs C W m' ws → vs.length + ws.length ≤ sizeLine ∧ Q .non (upd H a (.lst (vs ++ ws))) := fun {ws} r => by
          refine ⟨by rw [← h4.length, ← r.length, sizeLine_eq]; exact hl, ?_⟩
          exact h _ _ _ (.refl _) (S.write e hp (h4.append r)) .non
        cases rx
        obtain ⟨u, rfl, ru⟩ := rv.one
        have viaL : ∀ {b : Addr} {ws : List L2.V}, y = .ref b → H b = some (.lst ws) → RDs C W m' ws → wpAny (model X.prog X.w) X.A (call (.builtin "list.extend") [.ref a, u]) (EP X pins σ Q) X.xe t := fun {b ws} ey hb r => by
          subst ey
          exact mt_extend pins t σ H (L2.V.ref a) _ _ _ Q I rfl rv ⟨a, b, vs, ws, rfl, rfl, h3, hb, (fin r).1, (fin r).2⟩
        unfold lstv at e'
        split at e'
        · cases e'
          cases hy with | tup hq r =>
          cases ru
          exact mt_extendT I h3 (hq.sq S.sub) (fin r).1 (fin r).2
        · cases e'
          cases hy with | lst hq r =>
          exact viaL rfl (S.sub _ _ hq) r
        · rename_i k
          cases hy with | loc hq =>
          split at e'
          · rename_i k2 l2 e2
            cases e'
            obtain ⟨b, ws, g1, g2, g3, g4⟩ := S.cell _ _ _ e2
            rw [hq] at g1; cases g1
            exact viaL rfl g3 g4
          · cases e'
        · cases e'
      · exact h.elim
    · exact h.elim
  · exact h.elim
mutual
theorem lay_ok : ∀ {d : D}, lay d = true → (dv d).canLay0 = true
  | .non, _ => by simp [dv, PyData.canLay0]
  | .bl _, _ => by simp [dv, PyData.canLay0]
  | .int _, _ => by simp [dv, PyData.canLay0]
  | .tup l, h => by simp only [dv, PyData.canLay0]; exact lays_ok (by simpa [lay] using h)
  | .lst l, h => by simp only [dv, PyData.canLay0]; exact lays_ok (by simpa [lay] using h)
  | .tpn _, h => by simp [lay] at h
  | .str _, h => by simp [lay] at h
  | .loc _, h => by simp [lay] at h
  | .fn _, h => by simp [lay] at h
  | .ty _, h => by simp [lay] at h
  | .exc _ _, h => by simp [lay] at h
  | .scr _, h => by simp [lay] at h
  | .rng _ _, h => by simp [lay] at h
theorem lays_ok : ∀ {l : List D}, lays l = true → PyData.canLayAll0 (dvs l) = true
  | [], _ => by simp [dvs, PyData.canLayAll0]
  | d :: r, h => by
    have h := cond_eq_true (by simpa [lays] using h)
    simp [dvs, PyData.canLayAll0, lay_ok h.1, lays_ok h.2]
end
theorem dvs_get : ∀ {l : List D} {m : Nat} {z : PyData}, (dvs l)[m]? = some z → ∃ d, l[m]? = some d ∧ z = dv d
  | [], _, _, h => by simp [dvs] at h
  | d :: r, 0, _, h => by simp [dvs] at h; exact ⟨d, rfl, h.symm⟩
  | d :: r, m + 1, _, h => by
    simp only [dvs, List.getElem?_cons_succ] at h
    obtain ⟨e, h1, h2⟩ := dvs_get h
    exact ⟨e, by simpa using h1, h2⟩
theorem get_dvs : ∀ {l : List D} {m : Nat} {d : D}, l[m]? = some d → (dvs l)[m]? = some (dv d)
  | [], _, _, h => by simp at h
  | d :: r, 0, _, h => by simp at h; simp [dvs, h]
  | d :: r, m + 1, _, h => by
    simp only [dvs, List.getElem?_cons_succ] at h ⊢
    exact get_dvs h
theorem ixOf_ok : ∀ {l : List D} {d : D} {k : Nat}, ixOf d l = some k → (∃ z, l[k]? = some z ∧ deq z d = true) ∧ ∀ m z, m < k → l[m]? = some z → deq z d = false
  | [], _, _, h => by cases h
  | x :: r, d, k, h => by
    unfold ixOf at h
    cases e : deq x d with
    | true =>
      rw [e] at h
      have h : some 0 = some k := h
      cases h
      exact ⟨⟨x, rfl, e⟩, fun m z hm _ => absurd hm (Nat.not_lt_zero _)⟩
    | false =>
      rw [e] at h
      have h : (match ixOf d r with | some k => some (k + 1) | none => none) = some k := h
      cases e2 : ixOf d r with
      | none => rw [e2] at h; cases h
      | some j =>
        rw [e2] at h
        have h : some (j + 1) = some k := h
        cases h
        obtain ⟨⟨z, h1, h2⟩, h3⟩ := ixOf_ok e2
        refine ⟨⟨z, by simpa using h1, h2⟩, fun m w hm hw => ?_⟩
        cases m with
        | zero => simp at hw; rw [← hw]; exact e
        | succ m => exact h3 m w (by omega) (by simpa using hw)
theorem shps_get : ∀ {n : Nat} {l : List D}, shps n l = true → ∀ {m : Nat} {z : D}, l[m]? = some z → ∃ n', shp n' z = true
  | _, [], _, _, _, h => by simp at h
  | 0, _ :: _, h, _, _, _ => by simp [shps] at h
  | n + 1, d :: r, h, m, z, hz => by
    have h := cond_eq_true (by simpa [shps] using h)
    cases m with
    | zero => simp at hz; exact ⟨n, by rw [← hz]; exact h.1⟩
    | succ m => exact shps_get h.2 (by simpa using hz)
theorem dp_tup {K : W.Frag} {H : Hp} {v : V} {a : Addr} {vs : List V} {ds : List D} {W : Wd} (S : ∀ a o, W.F a = some o → H a = some o) (hs : shps 60 ds = true) (q : SqT K H a vs) (r : RDs C W ds vs) (hK : C.K = K) : Dp K H (.ref a) (.tuple (dvs ds)) := by
  subst hK; exact .tup q (RDs.dp S hs r)
/-- t.index(x), data: the first place -/
def rTixD (K : PySem.W.Frag) : V → List V → Hp → VK → Prop := fun x xs H Q => ∃ (a : Addr) (y : V) (d : PyData) (ds : List PyData) (j : Nat) (z : PyData), x = V.ref a ∧ xs = [y] ∧ Dp K H (V.ref a) (.tuple ds) ∧ Dp K H y d ∧
  SeqAt.shaped (.tuple ds) = true ∧ SeqAt.shaped d = true ∧ ds[j]? = some z ∧ PyData.eqv z d = true ∧ (∀ (m : Nat) (z' : PyData), m < j → ds[m]? = some z' → PyData.eqv z' d = false) ∧ Q (.int (j : Nat)) H
theorem mt_tixD (hu : X.A.units + 65 < cLine) : MtR X "tuple.index" (rTixD X.K) := by
  intro pins s σ H x xs v us Q I rx rxs h
  obtain ⟨a, y, d, ds, j, z, rfl, rfl, hl, hy, sl, sd, hz, hzj, hno, q⟩ := h
  cases rx
  cases rxs with
  | cons ry rt =>
    rename_i uy ut
    cases rt
    obtain ⟨bs, r1⟩ := Dp.reads I d y uy hy ry
    have hxs : PyData.canLayAll0 ds = true := SeqAt.canLay_of_shaped sl
    have hroom : X.A.units + 1 + min (PyData.depthAll ds) d.depth < cLine := room_in_shaped sd hu
    cases hl with
    | tup hs ha =>
      obtain ⟨its, rv, ⟨⟨cls, dd, data, sls⟩, ho, hc, n, hdt⟩, hlen⟩ := I.tuple hs
      simp only at hc hdt
      subst hc hdt
      obtain ⟨as, h4⟩ := Dp.readsAll I ds _ its ha rv
      have hn : its.length = ds.length := SeqAt.ReadsAll.length ds its as h4
      have hmap : its.map (SeqAt.readOf s.heap) = ds := SeqAt.readsAll_map ds its as hxs h4
      have hvl := rv.length
      have hsl := sizeLine_eq
      obtain ⟨hjd, _⟩ := List.getElem?_eq_some_iff.mp hz
      have hjl : j < its.length := by omega
      have hj : j < its.toArray.size := by simpa using hjl
      have at_ : ∀ (m : Nat) (hm : m < its.toArray.size) (z' : PyData), ds[m]? = some z' → SeqAt.readOf s.heap its.toArray[m] = z' := by
        intro m hm z' hz'
        have hml : m < its.length := by simpa using hm
        rw [← hmap, List.getElem?_map, List.getElem?_eq_getElem hml] at hz'
        have e1 : SeqAt.readOf s.heap its[m] = z' := Option.some.inj (show some (SeqAt.readOf s.heap its[m]) = some z' from hz')
        simpa using e1
      refine call_meets PySem.F.slot_tuple_index ⟨_, ho, rfl⟩ PySem.F.entry_tuple_index (PySem.F.args_tuple_index_2 _ _)
        (_root_.TI.tuple_indexAt a its.toArray n dd sls uy (fun u => PyData.eqv (SeqAt.readOf s.heap u) d) j hj ?_ ?_) ⟨ho, SeqAt.items_eqAt (vs := its.toArray) (show ReadsAll s.heap its.toArray.toList ds as from h4) r1 hxs (SeqAt.canLay_of_shaped sd) hroom, ?_⟩
      · show PyData.eqv (SeqAt.readOf s.heap its.toArray[j]) d = true
        rw [at_ j hj z hz]
        exact hzj
      · intro m hm hmj
        have hmd : m < ds.length := by omega
        have hz' : ds[m]? = some ds[m] := List.getElem?_eq_getElem hmd
        show PyData.eqv (SeqAt.readOf s.heap its.toArray[m]) d = false
        rw [at_ m hm _ hz']
        exact hno m _ hmj hz'
      · exact ⟨.int (j : Nat), H, I.tok _, ⟨_, rfl⟩, q⟩
theorem ok_index (hK : C.K = X.K) (hu : X.A.units + 100 < cLine) : MtR X "list.index" (rM1 C pIndex) := by
  intro pins t σ H x xs v us Q I rx V ⟨y, e, W, dx, dy, s, E, S, hx, hy, h⟩
  subst e
  refine mt_indexD (by omega) pins t σ H x _ v us Q I rx V ?_
  unfold pIndex at h
  split at h
  · rename_i l hl
    obtain ⟨hs, h⟩ := RvQ.cnd h
    obtain ⟨hl2, h⟩ := RvQ.cnd h
    have hs := (Bool.and_eq_true _ _).mp hs
    have hl2 := (Bool.and_eq_true _ _).mp hl2
    obtain ⟨a, vs, e1, e2, r⟩ := vw_lst S hx hl
    subst e1
    have q1 := RD.dp S.sub hs.1 hy
    have q2 := dp_list (v := y) S.sub hs.2 e2 r hK
    rw [hK] at q1
    have g1 := shp_plain _ _ hs.1
    have g2 := shps_plain _ _ hs.2
    split at h
    · rename_i k hk
      obtain ⟨⟨z, z1, z2⟩, z3⟩ := ixOf_ok hk
      refine ⟨a, y, dv dy, dvs l, k, dv z, rfl, rfl, q2, q1, ?_, ?_, get_dvs z1, ?_, fun m z' hm hz => ?_, RvQ.here S (.int _) h⟩
      · simp only [SeqAt.shaped, PyData.canLay0, Bool.and_eq_true, decide_eq_true_eq, PyData.depth]
        exact ⟨lays_ok hl2.2, decide_eq_true (by have := g2.2; omega)⟩
      · simp only [SeqAt.shaped, Bool.and_eq_true, decide_eq_true_eq]
        exact ⟨lay_ok hl2.1, by have := g1.2; omega⟩
      · obtain ⟨n', hn⟩ := shps_get hs.2 z1
        rw [← deq_eqv _ _ _ _ hn hs.1]; exact z2
      · obtain ⟨w, w1, w2⟩ := dvs_get hz
        subst w2
        obtain ⟨n', hn⟩ := shps_get hs.2 w1
        rw [← deq_eqv _ _ _ _ hn hs.1]; exact z3 m w hm w1
    · exact h.elim
  · exact h.elim
theorem ok_tix (hK : C.K = X.K) (hu : X.A.units + 100 < cLine) : MtR X "tuple.index" (rM1 C pTix) := by
  intro pins t σ H x xs v us Q I rx V ⟨y, e, W, dx, dy, s, E, S, hx, hy, h⟩
  subst e
  refine mt_tixD (by omega) pins t σ H x _ v us Q I rx V ?_
  unfold pTix at h
  split at h
  · rename_i l
    obtain ⟨hs, h⟩ := RvQ.cnd h
    obtain ⟨hl2, h⟩ := RvQ.cnd h
    have hs := (Bool.and_eq_true _ _).mp hs
    have hl2 := (Bool.and_eq_true _ _).mp hl2
    cases hx with | tpn hd hp r =>
    rename_i a vs o
    have e2 : SqT X.K H a vs := .inl (.inr ⟨_, S.sub _ _ hp⟩)
    have q1 := RD.dp S.sub hs.1 hy
    have q2 := dp_tup (v := y) S.sub hs.2 e2 r hK
    rw [hK] at q1
    have g1 := shp_plain _ _ hs.1
    have g2 := shps_plain _ _ hs.2
    split at h
    · rename_i k hk
      obtain ⟨⟨z, z1, z2⟩, z3⟩ := ixOf_ok hk
      refine ⟨a, y, dv dy, dvs l, k, dv z, rfl, rfl, q2, q1, ?_, ?_, get_dvs z1, ?_, fun m z' hm hz => ?_, RvQ.here S (.int _) h⟩
      · simp only [SeqAt.shaped, PyData.canLay0, Bool.and_eq_true, decide_eq_true_eq, PyData.depth]
        exact ⟨lays_ok hl2.2, decide_eq_true (by have := g2.2; omega)⟩
      · simp only [SeqAt.shaped, Bool.and_eq_true, decide_eq_true_eq]
        exact ⟨lay_ok hl2.1, by have := g1.2; omega⟩
      · obtain ⟨n', hn⟩ := shps_get hs.2 z1
        rw [← deq_eqv _ _ _ _ hn hs.1]; exact z2
      · obtain ⟨w, w1, w2⟩ := dvs_get hz
        subst w2
        obtain ⟨n', hn⟩ := shps_get hs.2 w1
        rw [← deq_eqv _ _ _ _ hn hs.1]; exact z3 m w hm w1
    · exact h.elim
  · exact h.elim
end
end Mv
end

section
set_option Elab.async false
set_option linter.all false
set_option maxRecDepth 100000
set_option maxHeartbeats 4000000
/-! Expr: expressions of Vm beside the program's. -/
namespace Mv
open PySem PySem.Spec PyProof.Rows L2
section
variable {X : Cx} {C : Cn} {Wx : WX}
theorem pe_imp {e : Expr} {t t' : TE} (h : PE X e t) (hi : ∀ σ H Q, t' σ H Q → t σ H Q) : PE X e t' := ⟨fun pins s σ H Q I q => h.run pins s σ H Q I (hi _ _ _ q)⟩
theorem pt_imp {e : Expr} {t t' : TT} (h : PT X e t) (hi : ∀ σ H Q, t' σ H Q → t σ H Q) : PT X e t' := ⟨fun pins s σ H Q I q => h.run pins s σ H Q I (hi _ _ _ q)⟩
theorem pa_imp {e : List Expr} {t t' : TA} (h : PA X e t) (hi : ∀ σ H Q, t' σ H Q → t σ H Q) : PA X e t' := ⟨fun pos pins s σ H Q I q => h.run pos pins s σ H Q I (hi _ _ _ q)⟩
theorem ps_imp {e : Stmt} {t t' : TS} (h : PS X e t) (hi : ∀ D σ H, t' D σ H → t D σ H) : PS X e t' := ⟨fun pins s σ H Q I q => h.run pins s σ H Q I (hi _ _ _ q)⟩
theorem pss_imp {e : List Stmt} {t t' : TS} (h : PSs X e t) (hi : ∀ D σ H, t' D σ H → t D σ H) : PSs X e t' := ⟨fun pins s σ H Q I q => h.run pins s σ H Q I (hi _ _ _ q)⟩
theorem pi_imp {tg e : Expr} {t t' : TI} (h : PI X tg e t) (hi : ∀ σ H R, t' σ H R → t σ H R) : PI X tg e t' := ⟨fun pins s σ H Q I q => h.run pins s σ H Q I (hi _ _ _ q)⟩
theorem pg_imp {tg : Expr} {t t' : TG} (h : PG X tg t) (hi : ∀ v σ H R, t' v σ H R → t v σ H R) : PG X tg t' := ⟨fun pins s σ H v u Q I r q => h.run pins s σ H v u Q I r (hi _ _ _ _ q)⟩
/-! ### readings -/
theorem tE_one {a : EvT} {k : D → St → Rv} {σ : L2.St} {H : Hp} {Q : VK} (h : tE C Wx (fun e s => (a e s).bnd k) σ H Q) : tE C Wx a σ H fun x H1 => r1 C k x H1 Q := by
  obtain ⟨W, e, s, S, SE, q⟩ := h
  refine ⟨W, e, s, S, SE, RvQ.imp (RvQ.bnd q) (fun v H1 ⟨W1, d, s1, le, S1, r, q1⟩ => ⟨W1, d, s1, _, S1, r, q1⟩) fun _ _ _ z => z⟩
theorem tE_two {a b : EvT} {k : D → D → St → Rv} {σ : L2.St} {H : Hp} {Q : VK} (h : tE C Wx (fun e s => (a e s).bnd fun x s => (b e s).bnd fun y s => k x y s) σ H Q) :
    tE C Wx a σ H fun x H1 => tE C Wx b σ H1 fun y H2 => rP2 C k x y H2 Q := by
  obtain ⟨W, e, s, S, SE, q⟩ := h
  refine ⟨W, e, s, S, SE, RvQ.imp (RvQ.bnd q) (fun v H1 ⟨W1, d, s1, le, S1, r, q1⟩ => ⟨W1, e, s1, S1, SE.mono le, RvQ.imp (RvQ.bnd q1) (fun w H2 ⟨W2, d2, s2, le2, S2, r2, q2⟩ => ⟨W2, d, d2, s2, _, S2, r.mono le2, r2, q2⟩) fun _ _ _ z => z⟩) fun _ _ _ z => z⟩
/-- what comes after a part may look at the slots -/
theorem tE_then {a : EvT} {k : D → EvT} {σ : L2.St} {H : Hp} {Q : VK} (h : tE C Wx (fun e s => (a e s).bnd fun x s => k x e s) σ H Q) :
    tE C Wx a σ H fun x H1 => ∃ W e s d, SimS C W H1 s ∧ SimE C W σ e ∧ RD C W d x ∧ RvQ C W (k d e s) Q (fun cls d H' => Wx cls d σ H') := by
  obtain ⟨W, e, s, S, SE, q⟩ := h
  exact ⟨W, e, s, S, SE, RvQ.imp (RvQ.bnd q) (fun v H1 ⟨W1, d, s1, le, S1, r, q1⟩ => ⟨W1, e, s1, d, S1, SE.mono le, r, q1⟩) fun _ _ _ z => z⟩
theorem tA_one {a : EsT} {k : List D → St → Rv} {σ : L2.St} {H : Hp} {Q : VK} (h : tE C Wx (fun e s => (a e s).bnd k) σ H Q) :
    tA C Wx a σ H fun vs H1 => ∃ W ds s, SimS C W H1 s ∧ RDs C W ds vs ∧ RvQ C W (k ds s) Q (fun cls d H' => Wx cls d σ H') := by
  obtain ⟨W, e, s, S, SE, q⟩ := h
  have q := RsQ.bnd q
  refine ⟨W, e, s, S, SE, ?_⟩
  cases z : a e s with
  | ok ds s1 => rw [z] at q; exact fun W' H' vs le S' r => let ⟨W1, d, s1, le, S1, r, q1⟩ := q W' H' vs le S' r; ⟨W1, d, s1, S1, r, q1⟩
  | exc c p s1 => rw [z] at q; exact q
  | bad n => rw [z] at q; exact q
/-! ### names, constants -/
theorem ok_var {i : Nat} {x : Str} {pos : Pos} (hN : X.N[i]? = some x) (hv : Vis X.env.scope x) (hd : (x == Str.ofString "__debug__") = false) (hcd : (x == Str.ofString "__classdict__") = false) : PE X (.Name x pos) (tE C Wx (eVar i)) := by
  refine pe_imp (pe_var hN hv hd hcd) fun σ H Q ⟨W, e, s, S, SE, q⟩ => ?_
  unfold eVar at q
  cases z : getE e i with
  | none => rw [z] at q; exact q.elim
  | some d =>
    rw [z] at q
    obtain ⟨v, h1, h2⟩ := SE.at_ i d z
    exact ⟨v, h1, RvQ.here S h2 q⟩
theorem tE_con {d : D} {v : V} {σ : L2.St} {H : Hp} {Q : VK} (r : ∀ W, RD C W d v) (h : tE C Wx (eCon d) σ H Q) : Q v H := by
  obtain ⟨W, e, s, S, SE, q⟩ := h
  exact RvQ.here S (r W) q
theorem ok_con {e : Expr} {d : D} {v : V} (h : PE X e (tC v)) (r : ∀ W, RD C W d v) : PE X e (tE C Wx (eCon d)) := pe_imp h fun σ H Q q => tE_con r q
/-! ### operations -/
theorem ok_e2 {a b : Expr} {f : Value → Value → Sem Value} {k : D → D → St → Rv} {ra rb : EvT} {e : Expr} (h : PE X e (tOp (rP2 C k) (tE C Wx ra) (tE C Wx rb))) : PE X e (tE C Wx (fun e s => (ra e s).bnd fun x s => (rb e s).bnd fun y s => k x y s)) :=
  pe_imp h fun σ H Q q => tE_two q
theorem ok_un {op : UnaryOp} {a : Expr} {pos : Pos} {o : Op1} {ra : EvT} (ho : UnR X (unaryOp op) (r1 C (p1 o))) (ha : PE X a (tE C Wx ra)) : PE X (.UnaryOp op a pos) (tE C Wx (e1 o ra)) :=
  pe_imp (pe_un ho ha) fun σ H Q q => tE_one q
theorem ok_not (hK : C.K = X.K) {a : Expr} {pos : Pos} {ra : EvT} (ha : PE X a (tE C Wx ra)) : PE X (.UnaryOp .Not a pos) (tE C Wx (e1 .not ra)) := by
  refine pe_imp (pe_notT ha) fun σ H Q q => ?_
  obtain ⟨W, e, s, S, SE, q⟩ := q
  refine ⟨W, e, s, S, SE, RvQ.imp (RvQ.bnd q) (fun v H1 ⟨W1, d, s1, le, S1, r, q1⟩ => ?_) fun _ _ _ z => z⟩
  have q1 : RvQ C W1 (pNot d s1) Q _ := q1
  unfold pNot at q1
  split at q1
  · rename_i b hb
    exact ⟨b, hK ▸ tru_ok S1 r hb, RvQ.here S1 (.bl _) q1⟩
  · exact q1.elim
/-- conditions -/
theorem truR_ok (hK : C.K = X.K) {W : Wd} {H : Hp} {n : Nat} {d : D} {s : St} {v : V} {a b : Rv} {Q : VK} {E : XK} (S : SimS C W H s) (r : RD C W d v) (h : RvQ C W (truR n d s a b) Q E) : ∃ k, tru s d = some k ∧ TruV X.K v H k ∧ RvQ C W (cond k a b) Q E := by
  unfold truR at h
  cases z : tru s d with
  | none => rw [z] at h; exact h.elim
  | some k => rw [z] at h; exact ⟨k, rfl, hK ▸ tru_ok S r z, h⟩
theorem ok_and (hK : C.K = X.K) {a b : Expr} {rest : List Expr} {pos : Pos} {ra rb : EvT} (ha : PE X a (tE C Wx ra)) (hb : PE X (.BoolOp .And (b :: rest) pos) (tE C Wx rb)) : PE X (.BoolOp .And (a :: b :: rest) pos) (tE C Wx (eAnd ra rb)) := by
  refine pe_imp (pe_andT ha hb) fun σ H Q ⟨W, e, s, S, SE, q⟩ => ?_
  refine ⟨W, e, s, S, SE, RvQ.imp (RvQ.bnd q) (fun v H1 ⟨W1, d, s1, le, S1, r, q1⟩ => ?_) fun _ _ _ z => z⟩
  obtain ⟨k, hk, ht, q2⟩ := truR_ok hK S1 r q1
  refine ⟨k, ht, ?_⟩
  cases k with
  | true => exact ⟨W1, e, s1, S1, SE.mono le, q2⟩
  | false => exact RvQ.here S1 r q2
theorem ok_or (hK : C.K = X.K) {a b : Expr} {rest : List Expr} {pos : Pos} {ra rb : EvT} (ha : PE X a (tE C Wx ra)) (hb : PE X (.BoolOp .Or (b :: rest) pos) (tE C Wx rb)) : PE X (.BoolOp .Or (a :: b :: rest) pos) (tE C Wx (eOr ra rb)) := by
  refine pe_imp (pe_orT ha hb) fun σ H Q ⟨W, e, s, S, SE, q⟩ => ?_
  refine ⟨W, e, s, S, SE, RvQ.imp (RvQ.bnd q) (fun v H1 ⟨W1, d, s1, le, S1, r, q1⟩ => ?_) fun _ _ _ z => z⟩
  obtain ⟨k, hk, ht, q2⟩ := truR_ok hK S1 r q1
  refine ⟨k, ht, ?_⟩
  cases k with
  | false => exact ⟨W1, e, s1, S1, SE.mono le, q2⟩
  | true => exact RvQ.here S1 r q2
/-! ### tests -/
theorem RvT.of {W : Wd} {r : Rv} {Q : Bool → Hp → Prop} {E : XK} (hK : C.K = X.K) (h : RvT C W r Q E) : RvQ C W r (fun x H' => ∃ k, TruV X.K x H' k ∧ Q k H') E := by
  cases r with
  | ok d s =>
    obtain ⟨b, hb, q⟩ := h
    exact fun W' H' v le S' r => ⟨b, hK ▸ tru_ok S' r hb, q W' H' le S'⟩
  | exc c p s => exact h
  | bad n => exact h
theorem tT_of (hK : C.K = X.K) {r : EvT} {σ : L2.St} {H : Hp} {Q : Bool → Hp → Prop} (h : tT C Wx r σ H Q) : tE C Wx r σ H (fun x H' => ∃ k, TruV X.K x H' k ∧ Q k H') := by
  obtain ⟨W, e, s, S, SE, q⟩ := h
  exact ⟨W, e, s, S, SE, RvT.of hK q⟩
theorem ok_tru (hK : C.K = X.K) {a : Expr} {r : EvT} (ha : PE X a (tE C Wx r))
    (he : ∀ (whole : Sem Value), PySem.isTrue a X.env whole = do
        let v ← whole
        standAt a.pos
        holding [v] (truthy v)) : PT X a (tT C Wx r) := pt_imp (pt_truth ha he) fun σ H Q q => tT_of hK q
theorem RvT.mono {W W' : Wd} {r : Rv} {Q : Bool → Hp → Prop} {E : XK} (h : RvT C W r Q E) (le : W.Le W') : RvT C W' r Q E := by
  cases r with
  | ok d s => obtain ⟨b, hb, q⟩ := h; exact ⟨b, hb, fun W2 H' a => q W2 H' (le.trans a)⟩
  | exc c p s => exact fun W2 H' cls dx a b c => h W2 H' cls dx (le.trans a) b c
  | bad n => exact h
theorem RvT.imp {W : Wd} {r : Rv} {Q Q' : Bool → Hp → Prop} {E : XK} (h : RvT C W r Q E) (hi : ∀ b H, Q b H → Q' b H) : RvT C W r Q' E := by
  cases r with
  | ok d s => obtain ⟨b, hb, q⟩ := h; exact ⟨b, hb, fun W2 H' a c => hi _ _ (q W2 H' a c)⟩
  | exc c p s => exact h
  | bad n => exact h
theorem ok_tnot (hK : C.K = X.K) {a : Expr} {pos : Pos} {r : EvT} (ha : PT X a (tT C Wx r)) : PT X (.UnaryOp .Not a pos) (tT C Wx (e1 .not r)) := by
  refine pt_imp (pt_not ha) fun σ H Q ⟨W, e, s, S, SE, q⟩ => ⟨W, e, s, S, SE, ?_⟩
  unfold e1 at q
  cases z : r e s with
  | ok d s1 =>
    rw [z] at q
    have q : RvT C W (pNot d s1) Q _ := q
    unfold pNot at q
    split at q
    · rename_i b hb
      obtain ⟨b', hb', q⟩ := q
      have : b' = !b := by simpa [tru] using hb'.symm
      subst this
      exact ⟨b, hb, q⟩
    · exact q.elim
  | exc c p s1 => rw [z] at q; exact q
  | bad n => rw [z] at q; exact q
theorem ok_tand (hK : C.K = X.K) {a b : Expr} {rest : List Expr} {pos : Pos} {ra rb : EvT} (ha : PT X a (tT C Wx ra)) (hb : PW X (.BoolOp .And (b :: rest) pos) (tT C Wx rb)) : PW X (.BoolOp .And (a :: b :: rest) pos) (tT C Wx (eAnd ra rb)) := by
  refine ⟨fun whole pins t σ H Q I h => (pw_and ha hb).run whole pins t σ H Q I ?_⟩
  obtain ⟨W, e, s, S, SE, q⟩ := h
  refine ⟨W, e, s, S, SE, ?_⟩
  unfold eAnd at q
  cases z : ra e s with
  | ok d s1 =>
    rw [z] at q
    have q : RvT C W (truR 5 d s1 (rb e s1) (.ok d s1)) Q _ := q
    unfold truR at q
    cases z2 : tru s1 d with
    | none => rw [z2] at q; exact q.elim
    | some k =>
      rw [z2] at q
      refine ⟨k, z2, fun W' H' le S' => ?_⟩
      cases k with
      | true => exact ⟨W', e, s1, S', SE.mono le, RvT.mono q le⟩
      | false =>
        obtain ⟨b', hb', q⟩ := q
        rw [z2] at hb'; cases hb'
        exact q W' H' le S'
  | exc c p s1 => rw [z] at q; exact q
  | bad n => rw [z] at q; exact q
theorem ok_tor (hK : C.K = X.K) {a b : Expr} {rest : List Expr} {pos : Pos} {ra rb : EvT} (ha : PT X a (tT C Wx ra)) (hb : PW X (.BoolOp .Or (b :: rest) pos) (tT C Wx rb)) : PW X (.BoolOp .Or (a :: b :: rest) pos) (tT C Wx (eOr ra rb)) := by
  refine ⟨fun whole pins t σ H Q I h => (pw_or ha hb).run whole pins t σ H Q I ?_⟩
  obtain ⟨W, e, s, S, SE, q⟩ := h
  refine ⟨W, e, s, S, SE, ?_⟩
  unfold eOr at q
  cases z : ra e s with
  | ok d s1 =>
    rw [z] at q
    have q : RvT C W (truR 6 d s1 (.ok d s1) (rb e s1)) Q _ := q
    unfold truR at q
    cases z2 : tru s1 d with
    | none => rw [z2] at q; exact q.elim
    | some k =>
      rw [z2] at q
      refine ⟨k, z2, fun W' H' le S' => ?_⟩
      cases k with
      | false => exact ⟨W', e, s1, S', SE.mono le, RvT.mono q le⟩
      | true =>
        obtain ⟨b', hb', q⟩ := q
        rw [z2] at hb'; cases hb'
        exact q W' H' le S'
  | exc c p s1 => rw [z] at q; exact q
  | bad n => rw [z] at q; exact q
theorem ok_if {a b c : Expr} {pos : Pos} {ra rb rc : EvT} (hc : PT X c (tT C Wx rc)) (ha : PE X a (tE C Wx ra)) (hb : PE X b (tE C Wx rb)) : PE X (.IfExp c a b pos) (tE C Wx (eIf rc ra rb)) := by
  refine pe_imp (pe_ifExp hc ha hb) fun σ H Q ⟨W, e, s, S, SE, q⟩ => ⟨W, e, s, S, SE, ?_⟩
  unfold eIf at q
  cases z : rc e s with
  | ok d s1 =>
    rw [z] at q
    have q : RvQ C W (truR 4 d s1 (ra e s1) (rb e s1)) Q _ := q
    unfold truR at q
    cases z2 : tru s1 d with
    | none => rw [z2] at q; exact q.elim
    | some k =>
      rw [z2] at q
      refine ⟨k, z2, fun W' H' le S' => ?_⟩
      cases k with
      | true => exact ⟨W', e, s1, S', SE.mono le, RvQ.mono (r := ra e s1) q le⟩
      | false => exact ⟨W', e, s1, S', SE.mono le, RvQ.mono (r := rb e s1) q le⟩
  | exc c p s1 => rw [z] at q; exact q
  | bad n => rw [z] at q; exact q
/-! ### comparisons -/
theorem blR_bl {s : St} {b : Bool} {d : D} {s' : St} (h : blR s b = .ok d s') : ∃ k, d = .bl k := by cases h; exact ⟨_, rfl⟩
theorem pCmp_bl (o : COp) {x y d : D} {s s' : St} (h : pCmp o x y s = .ok d s') : ∃ k, d = .bl k := by
  have g : ∀ {c : Bool} {r : Rv} {n : Nat}, (cond c r (.bad n) = .ok d s') → r = .ok d s' := fun {c r n} h => by cases c <;> first | exact h | cases h
  have g' : ∀ {c : Bool} {r : Rv} {n : Nat}, (cond c (.bad n) r = .ok d s') → r = .ok d s' := fun {c r n} h => by cases c <;> first | exact h | cases h
  cases o <;> simp only [pCmp] at h
  case eq => unfold pEqN at h; split at h <;> first | exact blR_bl h | exact blR_bl (g h)
  case ne => unfold pEqN at h; split at h <;> first | exact blR_bl h | exact blR_bl (g h)
  case lt => unfold pLt at h; split at h <;> first | exact blR_bl h | exact blR_bl (g h)
  case le => unfold pLt at h; split at h <;> first | exact blR_bl h | exact blR_bl (g h)
  case gt => unfold pLt at h; split at h <;> first | exact blR_bl h | exact blR_bl (g h)
  case ge => unfold pLt at h; split at h <;> first | exact blR_bl h | exact blR_bl (g h)
  case in_ => unfold pIn at h; repeat' split at h
              all_goals first | exact blR_bl h | exact blR_bl (g h) | cases h
  case nin => unfold pIn at h; repeat' split at h
              all_goals first | exact blR_bl h | exact blR_bl (g h) | cases h
  case is_ => unfold pIs at h; repeat' split at h
              all_goals first | exact blR_bl h | exact blR_bl (g h) | cases h
  case isn => unfold pIs at h; repeat' split at h
              all_goals first | exact blR_bl h | exact blR_bl (g h) | cases h
theorem RvT.bl {W : Wd} {r : Rv} {Q : Bool → Hp → Prop} {E : XK} (hb : ∀ d s, r = .ok d s → ∃ k, d = .bl k) (h : RvT C W r Q E) : RvQ C W r (fun x H' => ∃ k, x = .bl k ∧ Q k H') E := by
  cases r with
  | ok d s =>
    obtain ⟨k, hk⟩ := hb d s rfl
    subst hk
    obtain ⟨b, hb, q⟩ := h
    cases hb
    exact fun W' H' v le S' r => by cases r; exact ⟨_, rfl, q W' H' le S'⟩
  | exc c p s => exact h
  | bad n => exact h
theorem ok_c1 (hK : C.K = X.K) (hw : C.w = X.w) (hu : X.A.units + 100 < cLine) (cb : Nat → Nat) {a b : Expr} {pos : Pos} {o : COp} {ra rb : EvT} (ha : PE X a (tE C Wx ra)) (hb : PE X b (tE C Wx rb)) (hm : behindInMarks (cmpOp o) b = false) :
    PE X (.Compare a [cmpOp o] [b] pos) (tE C Wx (e2 cb (.cmp o) ra rb)) ∧ PT X (.Compare a [cmpOp o] [b] pos) (tT C Wx (e2 cb (.cmp o) ra rb)) := by
  refine ⟨pe_imp (pe_cmpR (ok_cmp hK hw hu o) ha hb hm) fun σ H Q q => tE_two q, pt_imp (pt_cmpR (ok_cmp hK hw hu o) ha hb hm) fun σ H Q ⟨W, e, s, S, SE, q⟩ => ?_⟩
  refine tE_two (k := pCmp o) ⟨W, e, s, S, SE, RvT.bl (fun d s' h => ?_) q⟩
  have h : (ra e s).bnd (fun x s => (rb e s).bnd fun y s => pCmp o x y s) = .ok d s' := h
  cases z : ra e s with
  | ok x s1 =>
    rw [z] at h
    have h : (rb e s1).bnd (fun y s => pCmp o x y s) = .ok d s' := h
    cases z2 : rb e s1 with
    | ok y s2 => rw [z2] at h; exact pCmp_bl o h
    | exc c p s2 => rw [z2] at h; cases h
    | bad n => rw [z2] at h; cases h
  | exc c p s1 => rw [z] at h; cases h
  | bad n => rw [z] at h; cases h
/-- x o1 b o2 ..: the links from b on, x is known -/
structure PCh (X : Cx) (C : Cn) (Wx : WX) (pos : Pos) (ops : List CmpOp) (bs : List Expr) (r : D → EvT) : Prop where
  run : ∀ (pins : List (Addr × Obj)) (t : Shared) (σ : L2.St) (H : Hp) (x : V) (v : Value) (Q : VK), L2.Inv X pins σ H t → L2.RelV x v →
    (∃ W e s d, SimS C W H s ∧ SimE C W σ e ∧ RD C W d x ∧ RvQ C W (r d e s) Q (fun cls dx H' => Wx cls dx σ H')) →
      wpAny (model X.prog X.w) X.A (compareChain pos v ops (evalEach bs X.env)) (EP X pins σ Q) X.xe t
  test : ∀ (pins : List (Addr × Obj)) (t : Shared) (σ : L2.St) (H : Hp) (x : V) (v : Value) (Q : Bool → Hp → Prop), L2.Inv X pins σ H t → L2.RelV x v →
    (∃ W e s d, SimS C W H s ∧ SimE C W σ e ∧ RD C W d x ∧ RvQ C W (r d e s) (fun x H' => ∃ k, x = .bl k ∧ Q k H') (fun cls dx H' => Wx cls dx σ H')) →
      wpAny (model X.prog X.w) X.A (testChain pos v ops (evalEach bs X.env)) (TP X pins σ Q) X.xe t
  bl : ∀ d e s d' s', r d e s = .ok d' s' → ∃ k, d' = .bl k
theorem pch_last (hK : C.K = X.K) (hw : C.w = X.w) (hu : X.A.units + 100 < cLine) {pos : Pos} {o : COp} {b : Expr} {rb : EvT} (hb : PE X b (tE C Wx rb)) : PCh X C Wx pos [cmpOp o] [b] (chE o rb) := by
  refine ⟨fun pins t σ H x v Q I rx h => ?_, fun pins t σ H x v Q I rx h => ?_, fun d e s d' s' h => ?_⟩
  · obtain ⟨W, e, s, d, S, SE, rd, q⟩ := h
    show wpAny _ _ (compareChain pos v [cmpOp o] [eval b X.env]) _ _ _
    refine PyProof.Rows.chain_last (thn (hb.run pins t σ H (fun y H2 => rP2 C (pCmp o) x y H2 Q) I ?_) fun u t2 hh => ?_)
    · exact ⟨W, e, s, S, SE, RvQ.imp (RvQ.bnd q) (fun w H2 ⟨W2, d2, s2, le2, S2, r2, q2⟩ => ⟨W2, d, d2, s2, _, S2, rd.mono le2, r2, q2⟩) fun _ _ _ z => z⟩
    · obtain ⟨y, H2, I2, ry, q2⟩ := hh
      exact ok_cmp hK hw hu o pins t2 σ H2 x y v u Q I2 rx ry q2
  · obtain ⟨W, e, s, d, S, SE, rd, q⟩ := h
    show wpAny _ _ (testChain pos v [cmpOp o] [eval b X.env]) _ _ _
    refine PyProof.Rows.test_last (thn (hb.run pins t σ H (fun y H2 => rP2 C (pCmp o) x y H2 fun x H' => ∃ k, x = .bl k ∧ Q k H') I ?_) fun u t2 hh => ?_)
    · exact ⟨W, e, s, S, SE, RvQ.imp (RvQ.bnd q) (fun w H2 ⟨W2, d2, s2, le2, S2, r2, q2⟩ => ⟨W2, d, d2, s2, _, S2, rd.mono le2, r2, q2⟩) fun _ _ _ z => z⟩
    · obtain ⟨y, H2, I2, ry, q2⟩ := hh
      refine thn (ok_cmp hK hw hu o pins t2 σ H2 x y v u _ I2 rx ry q2) fun c t3 hh => ?_
      obtain ⟨z, H3, I3, rz, k, ek, q3⟩ := hh
      subst ek
      obtain rfl : c = Value.bool k := rz
      exact wpAny_truthy_bool ⟨H3, I3, q3⟩
  · have h : (rb e s).bnd (fun y s => pCmp o d y s) = .ok d' s' := h
    cases z2 : rb e s with
    | ok y s2 => rw [z2] at h; exact pCmp_bl o h
    | exc c p s2 => rw [z2] at h; cases h
    | bad n => rw [z2] at h; cases h
theorem pch_cons (hK : C.K = X.K) (hw : C.w = X.w) (hu : X.A.units + 100 < cLine) {pos : Pos} {o : COp} {op2 : CmpOp} {ops : List CmpOp} {b b2 : Expr} {bs : List Expr} {rb : EvT} {r : D → EvT} (hb : PE X b (tE C Wx rb)) (hr : PCh X C Wx pos (op2 :: ops) (b2 :: bs) r) :
    PCh X C Wx pos (cmpOp o :: op2 :: ops) (b :: b2 :: bs) (chC o rb r) := by
  refine ⟨fun pins t σ H x v Q I rx h => ?_, fun pins t σ H x v Q I rx h => ?_, fun d e s d' s' h => ?_⟩
  · obtain ⟨W, e, s, d, S, SE, rd, q⟩ := h
    have q := RvQ.bnd q
    show wpAny _ _ (compareChain pos v (cmpOp o :: op2 :: ops) (eval b X.env :: eval b2 X.env :: evalEach bs X.env)) _ _ _
    refine PyProof.Rows.chain_link (thn (hb.run pins t σ H _ I ⟨W, e, s, S, SE, q⟩) fun u t2 hh => ?_)
    obtain ⟨y, H2, I2, ry, W2, d2, s2, le2, S2, r2, q2⟩ := hh
    have q2 := RvQ.bnd q2
    have q2' : RvQ C W2 (pCmp o d d2 s2) (fun z H3 => ∃ k, z = .bl k ∧ ∃ W3 d3 s3, W2.Le W3 ∧ SimS C W3 H3 s3 ∧ RD C W3 d3 z ∧ RvQ C W3 (truR 7 d3 s3 (r d2 e s3) (.ok d3 s3)) Q (fun cls dx H' => Wx cls dx σ H')) (fun cls dx H' => Wx cls dx σ H') := by
      cases z : pCmp o d d2 s2 with
      | ok d3 s3 =>
        rw [z] at q2
        obtain ⟨k, hk⟩ := pCmp_bl o z
        subst hk
        intro W' H' v' le' S' r'
        have := q2 W' H' v' le' S' r'
        cases r'
        exact ⟨k, rfl, this⟩
      | exc c p s3 => rw [z] at q2; exact q2
      | bad n => rw [z] at q2; exact q2
    refine thn (ok_cmp hK hw hu o pins t2 σ H2 x y v u _ I2 rx ry ⟨W2, d, d2, s2, _, S2, rd.mono le2, r2, q2'⟩) fun c t3 hh => ?_
    obtain ⟨z, H3, I3, rz, k, ek, W3, d3, s3, le3, S3, r3, q3⟩ := hh
    subst ek
    obtain rfl : c = Value.bool k := rz
    refine wpAny_truthy_bool ?_
    obtain ⟨k', hk', ht, q4⟩ := truR_ok hK S3 r3 q3
    have ht : k' = k := ht
    subst ht
    cases k' with
    | true => exact hr.run pins t3 σ H3 y u Q I3 ry ⟨W3, e, s3, d2, S3, (SE.mono le2).mono le3, r2.mono le3, q4⟩
    | false => exact ⟨.bl false, H3, I3, rfl, RvQ.here S3 r3 q4⟩
  · obtain ⟨W, e, s, d, S, SE, rd, q⟩ := h
    have q := RvQ.bnd q
    show wpAny _ _ (testChain pos v (cmpOp o :: op2 :: ops) (eval b X.env :: eval b2 X.env :: evalEach bs X.env)) _ _ _
    refine PyProof.Rows.test_link (thn (hb.run pins t σ H _ I ⟨W, e, s, S, SE, q⟩) fun u t2 hh => ?_)
    obtain ⟨y, H2, I2, ry, W2, d2, s2, le2, S2, r2, q2⟩ := hh
    have q2 := RvQ.bnd q2
    have q2' : RvQ C W2 (pCmp o d d2 s2) (fun z H3 => ∃ k, z = .bl k ∧ ∃ W3 d3 s3, W2.Le W3 ∧ SimS C W3 H3 s3 ∧ RD C W3 d3 z ∧ RvQ C W3 (truR 7 d3 s3 (r d2 e s3) (.ok d3 s3)) (fun x H' => ∃ k, x = .bl k ∧ Q k H') (fun cls dx H' => Wx cls dx σ H')) (fun cls dx H' => Wx cls dx σ H') := by
      cases z : pCmp o d d2 s2 with
      | ok d3 s3 =>
        rw [z] at q2
        obtain ⟨k, hk⟩ := pCmp_bl o z
        subst hk
        intro W' H' v' le' S' r'
        have := q2 W' H' v' le' S' r'
        cases r'
        exact ⟨k, rfl, this⟩
      | exc c p s3 => rw [z] at q2; exact q2
      | bad n => rw [z] at q2; exact q2
    refine thn (ok_cmp hK hw hu o pins t2 σ H2 x y v u _ I2 rx ry ⟨W2, d, d2, s2, _, S2, rd.mono le2, r2, q2'⟩) fun c t3 hh => ?_
    obtain ⟨z, H3, I3, rz, k, ek, W3, d3, s3, le3, S3, r3, q3⟩ := hh
    subst ek
    obtain rfl : c = Value.bool k := rz
    refine wpAny_truthy_bool ?_
    obtain ⟨k', hk', ht, q4⟩ := truR_ok hK S3 r3 q3
    have ht : k' = k := ht
    subst ht
    cases k' with
    | true => exact hr.test pins t3 σ H3 y u Q I3 ry ⟨W3, e, s3, d2, S3, (SE.mono le2).mono le3, r2.mono le3, q4⟩
    | false =>
      obtain ⟨k, ek, q5⟩ := RvQ.here S3 r3 q4
      cases ek
      exact ⟨H3, I3, q5⟩
  · have h : (rb e s).bnd (fun y s => (pCmp o d y s).bnd fun c s => truR 7 c s (r y e s) (.ok c s)) = .ok d' s' := h
    cases z2 : rb e s with
    | ok y s2 =>
      rw [z2] at h
      have h : (pCmp o d y s2).bnd (fun c s => truR 7 c s (r y e s) (.ok c s)) = .ok d' s' := h
      cases z3 : pCmp o d y s2 with
      | ok c s3 =>
        rw [z3] at h
        have h : truR 7 c s3 (r y e s3) (.ok c s3) = .ok d' s' := h
        obtain ⟨k, hk⟩ := pCmp_bl o z3
        subst hk
        cases k with
        | true => exact hr.bl _ _ _ _ _ h
        | false => cases h; exact ⟨_, rfl⟩
      | exc c p s3 => rw [z3] at h; cases h
      | bad n => rw [z3] at h; cases h
    | exc c p s2 => rw [z2] at h; cases h
    | bad n => rw [z2] at h; cases h
theorem ok_chain {a b b2 : Expr} {bs : List Expr} {pos : Pos} {op op2 : CmpOp} {ops : List CmpOp} {ra : EvT} {r : D → EvT} (ha : PE X a (tE C Wx ra)) (hr : PCh X C Wx pos (op :: op2 :: ops) (b :: b2 :: bs) r) (hm : lastMarks (op :: op2 :: ops) (b :: b2 :: bs) = false) :
    PE X (.Compare a (op :: op2 :: ops) (b :: b2 :: bs) pos) (tE C Wx (eChn ra r)) ∧ PT X (.Compare a (op :: op2 :: ops) (b :: b2 :: bs) pos) (tT C Wx (eChn ra r)) := by
  refine ⟨⟨fun pins t σ H Q I h => ?_⟩, ⟨fun pins t σ H Q I h => ?_⟩⟩
  · have h := tE_then (k := r) h
    refine PyProof.Rows.Compare_chain (thn (ha.run pins t σ H _ I h) fun u t2 hh => ?_) hm
    obtain ⟨x, H1, I1, rx, q⟩ := hh
    exact hr.run pins t2 σ H1 x u Q I1 rx q
  · obtain ⟨W, e, s, S, SE, q⟩ := h
    have q : RvQ C W (eChn ra r e s) (fun x H' => ∃ k, x = .bl k ∧ Q k H') (fun cls d H' => Wx cls d σ H') := RvT.bl (fun d s' h => by
      have h : (ra e s).bnd (fun x s => r x e s) = .ok d s' := h
      cases z : ra e s with
      | ok x s1 => rw [z] at h; exact hr.bl _ _ _ _ _ h
      | exc c p s1 => rw [z] at h; cases h
      | bad n => rw [z] at h; cases h) q
    have h := tE_then (C := C) (Wx := Wx) (a := ra) (k := r) ⟨W, e, s, S, SE, q⟩
    refine PyProof.Rows.isTrue_chain (thn (ha.run pins t σ H _ I h) fun u t2 hh => ?_) hm
    obtain ⟨x, H1, I1, rx, q⟩ := hh
    exact hr.test pins t2 σ H1 x u Q I1 rx q
end
end Mv
end

section
set_option Elab.async false
set_option linter.all false
set_option maxRecDepth 100000
set_option maxHeartbeats 4000000
/-! Expr2: arguments, displays, places, calls. -/
namespace Mv
open PySem PySem.Spec PyProof.Rows L2
section
variable {X : Cx} {C : Cn} {Wx : WX}
/-- no star -/
def nst : Expr → Bool
  | .Starred _ _ => false
  | _ => true
theorem star_cons {e : Expr} {es : List Expr} (h : nst e = true) (env : PySem.Env) : starEach (e :: es) env = (false, eval e env) :: starEach es env := by
  cases e <;> first | rfl | cases h
theorem star_any : ∀ {es : List Expr} (pos : Pos) (env : PySem.Env), es.all nst = true → ((backTo pos (starEach es env)).any fun x => x.fst) = false
  | [], _, _, _ => rfl
  | e :: es, pos, env, h => by
    have h := (Bool.and_eq_true _ _).mp (show (nst e && es.all nst) = true from h)
    rw [star_cons h.1]
    exact star_any pos env h.2
theorem assign_cons {e : Expr} {es : List Expr} (h : nst e = true) (env : PySem.Env) : assignEach (e :: es) env = (false, assign e env) :: assignEach es env := by
  cases e <;> first | rfl | cases h
theorem ok_nil : PA X [] (tA C Wx esN) := by
  refine pa_imp pa_nil fun σ H Q ⟨W, e, s, S, SE, q⟩ => ?_
  exact q W H [] (.refl W) S .nil
theorem ok_cons {e : Expr} {es : List Expr} {a : EvT} {r : EsT} (hs : nst e = true) (ha : PE X e (tE C Wx a)) (hr : PA X es (tA C Wx r)) : PA X (e :: es) (tA C Wx (esC a r)) := by
  refine pa_imp (pa_cons ha hr (star_cons hs _)) fun σ H Q ⟨W, en, s, S, SE, q⟩ => ?_
  refine ⟨W, en, s, S, SE, RvQ.imp (RvQ.bns q) (fun v H1 ⟨W1, d, s1, le, S1, rd, q1⟩ => ?_) fun _ _ _ z => z⟩
  have q1 := RsQ.bns q1
  refine ⟨W1, en, s1, S1, SE.mono le, ?_⟩
  cases z : r en s1 with
  | ok ds s2 =>
    rw [z] at q1
    intro W' H' vs le' S' rs
    obtain ⟨W2, ds2, s3, le2, S3, r3, q3⟩ := q1 W' H' vs le' S' rs
    exact q3 W2 H' (v :: vs) (.refl _) S3 (.cons (rd.mono le2) r3)
  | exc c p s2 => rw [z] at q1; exact q1
  | bad n => rw [z] at q1; exact q1
theorem ok_tupd {es : List Expr} {r : EsT} {k : Nat} {pos : Pos} (h : PA X es (tA C Wx r)) : PE X (.Tuple es k pos) (tE C Wx (en .tup r)) := by
  refine pe_imp (pe_tup h) fun σ H Q q => ?_
  have q := tA_one (k := pn .tup) q
  obtain ⟨W, e, s, S, SE, q⟩ := q
  refine ⟨W, e, s, S, SE, ?_⟩
  cases z : r e s with
  | ok ds s1 =>
    rw [z] at q
    intro W' H' vs le' S' rs
    obtain ⟨W2, ds2, s2, S2, r2, q2⟩ := q W' H' vs le' S' rs
    have q2 : RvQ C W2 (newT ds2 s2) Q _ := q2
    exact ⟨by rw [← r2.length]; exact newT_len q2, fun p hp => newT_ok S2 hp r2 q2⟩
  | exc c p s1 => rw [z] at q; exact q
  | bad n => rw [z] at q; exact q
theorem newL_len {W : Wd} {m : Bool} {ds : List D} {s : St} {Q : VK} {E : XK} (h : RvQ C W (newL m ds s) Q E) : ds.length ≤ sizeLine := by
  unfold newL at h
  exact ble16 (RvQ.cnd h).1
theorem ok_lstd {m : Bool} {es : List Expr} {r : EsT} {pos : Pos} (h : PA X es (tA C Wx r)) : PE X (.List es pos) (tE C Wx (en (.lst m) r)) := by
  refine pe_imp (pe_lst h) fun σ H Q q => ?_
  have q := tA_one (k := pn (.lst m)) q
  obtain ⟨W, e, s, S, SE, q⟩ := q
  refine ⟨W, e, s, S, SE, ?_⟩
  cases z : r e s with
  | ok ds s1 =>
    rw [z] at q
    intro W' H' vs le' S' rs
    obtain ⟨W2, ds2, s2, S2, r2, q2⟩ := q W' H' vs le' S' rs
    have q2 : RvQ C W2 (newL m ds2 s2) Q _ := q2
    exact ⟨by rw [← r2.length]; exact newL_len q2, fun p hp => (newL_ok S2 hp r2 q2).2⟩
  | exc c p s1 => rw [z] at q; exact q
  | bad n => rw [z] at q; exact q
/-! ### built-in functions -/
/-- a call of one thing -/
theorem tA1 {a : EvT} {k : D → St → Rv} {σ : L2.St} {H : Hp} {Q : VK} (h : tE C Wx (fun e s => (a e s).bnd k) σ H Q) : tA C Wx (esC a esN) σ H fun vs H1 => rC1 C k vs H1 Q := by
  obtain ⟨W, e, s, S, SE, q⟩ := h
  have q : RvQ C W ((a e s).bnd k) Q _ := q
  refine ⟨W, e, s, S, SE, ?_⟩
  unfold esC
  cases z : a e s with
  | ok d s1 =>
    rw [z] at q
    intro W' H' vs le S' r
    cases r with | cons r1 rn =>
    cases rn
    exact ⟨_, rfl, W', d, s1, _, S', r1, RvQ.mono (r := k d s1) q le⟩
  | exc c p s1 => rw [z] at q; exact q
  | bad n => rw [z] at q; exact q
theorem tA2 {a b : EvT} {k : D → D → St → Rv} {σ : L2.St} {H : Hp} {Q : VK} (h : tE C Wx (fun e s => (a e s).bnd fun x s => (b e s).bnd fun y s => k x y s) σ H Q) : tA C Wx (esC a (esC b esN)) σ H fun vs H1 => rC2 C k vs H1 Q := by
  obtain ⟨W, e, s, S, SE, q⟩ := h
  have q : RvQ C W ((a e s).bnd fun x s => (b e s).bnd fun y s => k x y s) Q _ := q
  refine ⟨W, e, s, S, SE, ?_⟩
  unfold esC
  cases z : a e s with
  | ok d s1 =>
    rw [z] at q
    have q : RvQ C W ((b e s1).bnd fun y s => k d y s) Q _ := q
    show RsQ C W (((b e s1).bns fun d2 s => _).bns fun ds s => .ok (d :: ds) s) _ _
    cases z2 : b e s1 with
    | ok d2 s2 =>
      rw [z2] at q
      intro W' H' vs le S' r
      cases r with | cons r1 rn =>
      cases rn with | cons r2 rn =>
      cases rn
      exact ⟨_, _, rfl, W', d, d2, s2, _, S', r1, r2, RvQ.mono (r := k d d2 s2) q le⟩
    | exc c p s1 => rw [z2] at q; exact q
    | bad n => rw [z2] at q; exact q
  | exc c p s1 => rw [z] at q; exact q
  | bad n => rw [z] at q; exact q
theorem pa1 {a : Expr} {ra : EvT} (hs : nst a = true) (ha : PE X a (tE C Wx ra)) : PA X [a] (tA C Wx (esC ra esN)) := ok_cons hs ha ok_nil
theorem pa2 {a b : Expr} {ra rb : EvT} (hs : nst a = true) (hs2 : nst b = true) (ha : PE X a (tE C Wx ra)) (hb : PE X b (tE C Wx rb)) : PA X [a, b] (tA C Wx (esC ra (esC rb esN))) := ok_cons hs ha (ok_cons hs2 hb ok_nil)
theorem ok_b1 {x : Str} {p pos : Pos} {a : Expr} {ra : EvT} {id : String} {k : D → St → Rv} (hs : nst a = true) (hc : CallR X (.builtin id) (rC1 C k)) (hg : Gl X x) (hm : X.mg x = none) (hv : bootBuiltins x = some (.builtin id)) (ha : PE X a (tE C Wx ra))
    (hn : x ≠ Str.ofString "__name__") (hdb : (x == Str.ofString "__debug__") = false) : PE X (.Call (.Name x p) [a] [] pos) (tE C Wx (fun e s => (ra e s).bnd k)) :=
  pe_imp (pe_callB hc hg hm hv (pa1 hs ha) hn hdb (star_cons hs _) rfl) fun σ H Q q => tA1 q
theorem ok_t1 {x : Str} {p pos : Pos} {a : Expr} {ra : EvT} {T : String} {k : D → St → Rv} (hs : nst a = true) (hc : CallR X (.type T) (rC1 C k)) (hg : Gl X x) (hm : X.mg x = none) (hv : bootBuiltins x = some (.type T)) (ha : PE X a (tE C Wx ra))
    (hn : x ≠ Str.ofString "__name__") (hdb : (x == Str.ofString "__debug__") = false) : PE X (.Call (.Name x p) [a] [] pos) (tE C Wx (fun e s => (ra e s).bnd k)) :=
  pe_imp (pe_callTy hc hg hm hv (pa1 hs ha) hn hdb (star_cons hs _) rfl) fun σ H Q q => tA1 q
theorem ok_b2 {x : Str} {p pos : Pos} {a b : Expr} {ra rb : EvT} {id : String} {k : D → D → St → Rv} (hs : nst a = true) (hs2 : nst b = true) (hc : CallR X (.builtin id) (rC2 C k)) (hg : Gl X x) (hm : X.mg x = none) (hv : bootBuiltins x = some (.builtin id)) (ha : PE X a (tE C Wx ra)) (hb : PE X b (tE C Wx rb))
    (hn : x ≠ Str.ofString "__name__") (hdb : (x == Str.ofString "__debug__") = false) : PE X (.Call (.Name x p) [a, b] [] pos) (tE C Wx (fun e s => (ra e s).bnd fun x s => (rb e s).bnd fun y s => k x y s)) :=
  pe_imp (pe_callB hc hg hm hv (pa2 hs hs2 ha hb) hn hdb (star_cons hs _) (star_any pos _ (by simp [hs2]))) fun σ H Q q => tA2 q
/-! ### places and parts -/
/-- no slice -/
def nsl : Expr → Bool
  | .Slice _ _ _ _ => false
  | _ => true
theorem plain_ix {b : Expr} (h : nsl b = true) : PlainIx b := by
  intro o i
  cases b <;> first | rfl | cases h
theorem ok_ix (hK : C.K = X.K) (hw : C.w = X.w) (hu : X.A.units + 100 < cLine) (cb : Nat → Nat) {a b : Expr} {ra rb : EvT} {pos : Pos} (hs : nsl b = true) (ha : PE X a (tE C Wx ra)) (hb : PE X b (tE C Wx rb)) : PE X (.Subscript a b pos) (tE C Wx (e2 cb .idx ra rb)) :=
  pe_imp (pe_ix (ok_idx hK hw hu) ha hb (plain_ix hs)) fun σ H Q q => tE_two q
theorem slc_eq (m p q : Bool) (a b c : EvT) : en (.slc m p q) (esC a (esC b (esC c esN))) = fun e s => (a e s).bnd fun x s => (b e s).bnd fun y s => (c e s).bnd fun z s => pSlc m p q x y z s := by
  funext e s
  unfold en esC
  cases a e s with
  | ok x s1 =>
    show (((b e s1).bns fun d s => _).bns _).bnd _ = (b e s1).bnd _
    cases b e s1 with
    | ok y s2 =>
      show ((((c e s2).bns fun d s => _).bns _).bns _).bnd _ = (c e s2).bnd _
      cases c e s2 <;> rfl
    | exc c p s2 => rfl
    | bad n => rfl
  | exc c p s1 => rfl
  | bad n => rfl
/-- a slice's bound -/
inductive POk (X : Cx) (C : Cn) (Wx : WX) : Bool → Option Expr → EvT → Prop
  | none : POk X C Wx false none (eCon .non)
  | some {e : Expr} {r : EvT} (h : PE X e (tE C Wx r)) : POk X C Wx true (some e) (e1 .ich r)
/-- a slice's bound, and what comes after it -/
theorem POk.po {b : Bool} {o : Option Expr} {r : EvT} (h : POk X C Wx b o r) : ∃ t : TO, PO X o t ∧ ∀ {W : Wd} {e : Env} {s : St} {σ : L2.St} {H : Hp} {k : D → St → Rv} {Q : VK} {R : Option Int → Hp → Prop},
    SimS C W H s → SimE C W σ e → RvQ C W ((r e s).bnd k) Q (fun cls d H' => Wx cls d σ H') →
      (∀ W1 d s1 H1, W.Le W1 → SimS C W1 H1 s1 → RvQ C W1 (k d s1) Q (fun cls d H' => Wx cls d σ H') → R (bdv b d) H1) → t σ H R := by
  cases h with
  | none => exact ⟨_, po_none, fun S SE q hR => hR _ _ _ _ (.refl _) S q⟩
  | some h =>
    refine ⟨_, po_some h, fun {W e s σ H k Q R} S SE q hR => ?_⟩
    rename_i r' 
    have q : RvQ C W (((r' e s).bnd pIch).bnd k) Q _ := q
    have q : RvQ C W ((r' e s).bnd fun d s => (pIch d s).bnd k) Q (fun cls d H' => Wx cls d σ H') := by
      cases z : r' e s with
      | ok d s1 => rw [z] at q; exact q
      | exc c p s1 => rw [z] at q; exact q
      | bad n => rw [z] at q; exact q
    refine ⟨W, e, s, S, SE, RvQ.imp (RvQ.bnd q) (fun v H1 ⟨W1, d, s1, le, S1, r, q1⟩ => ?_) fun _ _ _ z => z⟩
    unfold pIch at q1
    split at q1
    · cases r
      exact ⟨_, rfl, hR W1 _ s1 H1 le S1 q1⟩
    · exact q1.elim
theorem ok_slice (hK : C.K = X.K) {m p q : Bool} {a : Expr} {lo hi : Option Expr} {ra rl rh : EvT} {pos p2 : Pos} (ha : PE X a (tE C Wx ra)) (hl : POk X C Wx p lo rl) (hh : POk X C Wx q hi rh) :
    PE X (.Subscript a (.Slice lo hi none p2) pos) (tE C Wx (en (.slc m p q) (esC ra (esC rl (esC rh esN))))) := by
  obtain ⟨tl, pl, gl⟩ := hl.po
  obtain ⟨th, ph, gh⟩ := hh.po
  refine pe_imp (pe_slice (ok_slc hK m p q) ha pl ph) fun σ H Q h => ?_
  rw [slc_eq] at h
  obtain ⟨W, e, s, S, SE, h⟩ := h
  refine ⟨W, e, s, S, SE, RvQ.imp (RvQ.bnd h) (fun x H1 ⟨W1, d1, s1, le1, S1, r1, h1⟩ => ?_) fun _ _ _ z => z⟩
  refine gl S1 (SE.mono le1) h1 fun W2 d2 s2 H2 le2 S2 h2 => ?_
  refine gh S2 ((SE.mono le1).mono le2) h2 fun W3 d3 s3 H3 le3 S3 h3 => ?_
  exact ⟨W3, d1, d2, d3, s3, _, S3, (r1.mono le2).mono le3, rfl, rfl, h3⟩
theorem ok_rev (hK : C.K = X.K) {m : Bool} {a : Expr} {ra : EvT} {k : Nat} {p1 p2 p3 pos : Pos} (ha : PE X a (tE C Wx ra)) :
    PE X (.Subscript a (.Slice none none (some (.UnaryOp .USub (.Constant (.int 1) k p1) p2)) p3) pos) (tE C Wx (e1 (.rev m) ra)) := by
  refine pe_imp (pe_revL ha) fun σ H Q q => ?_
  obtain ⟨W, e, s, S, SE, q⟩ := q
  refine ⟨W, e, s, S, SE, RvQ.imp (RvQ.bnd q) (fun v H1 ⟨W1, d, s1, le, S1, r, q1⟩ => ?_) fun _ _ _ z => z⟩
  have q1 : RvQ C W1 (pRev m d s1) Q _ := q1
  unfold pRev at q1
  split at q1
  · exact q1.elim
  · split at q1
    · rename_i e
      obtain ⟨a, vs, q, hl, r'⟩ := vw_lst S1 r e
      subst q
      exact ⟨_, _, rfl, .inl (.inl hl), fun p hp => (newL_ok S1 hp r'.reverse q1).2⟩
    · exact q1.elim
/-! ### append -/
/-- a list's method: the list is told first -/
theorem tBM1 (hK : C.K = X.K) {ro re : EvT} {k : D → D → St → Rv} {σ : L2.St} {H : Hp} {Q : VK} (h : tE C Wx (fun e s => ((ro e s).bnd pIsl).bnd fun x s => (re e s).bnd fun y s => k x y s) σ H Q) : tBM X.K "list" (rM1 C k) (tE C Wx ro) (tA C Wx (esC re esN)) σ H Q := by
  obtain ⟨W, e, s, S, SE, q⟩ := h
  have q : RvQ C W ((ro e s).bnd fun d s => (pIsl d s).bnd fun x s => (re e s).bnd fun y s => k x y s) Q (fun cls d H' => Wx cls d σ H') := by
    have q : RvQ C W (((ro e s).bnd pIsl).bnd fun x s => (re e s).bnd fun y s => k x y s) Q _ := q
    cases z : ro e s with
    | ok d s1 => rw [z] at q; exact q
    | exc c p s1 => rw [z] at q; exact q
    | bad n => rw [z] at q; exact q
  refine ⟨W, e, s, S, SE, RvQ.imp (RvQ.bnd q) (fun x H1 ⟨W1, d, s1, le, S1, r, q1⟩ => ?_) fun _ _ _ z => z⟩
  unfold pIsl at q1
  split at q1
  · rename_i l hl
    obtain ⟨a, vs, e1, e2, _⟩ := vw_lst S1 r hl
    subst e1
    refine ⟨.inl ⟨rfl, _, .inl (.inl e2)⟩, ?_⟩
    have q1 : RvQ C W1 ((re e s1).bnd fun y s => k d y s) Q _ := q1
    refine ⟨W1, e, s1, S1, SE.mono le, ?_⟩
    unfold esC
    cases z : re e s1 with
    | ok y s2 =>
      rw [z] at q1
      intro W' H' vs le' S' rs
      cases rs with | cons r1 rn =>
      cases rn
      exact ⟨_, rfl, W', d, y, s2, _, S', r.mono le', r1, RvQ.mono (r := k d y s2) q1 le'⟩
    | exc c p s2 => rw [z] at q1; exact q1
    | bad n => rw [z] at q1; exact q1
  · exact q1.elim
/-! a tuple's method -/
def tBMT (r : V → List V → Hp → VK → Prop) (to : TE) (t : TA) : TE := fun σ H Q => to σ H fun x H1 => (∃ a xs o, x = .ref a ∧ o.dict = none ∧ H1 a = some (.frz o (.tup xs))) ∧ t σ H1 fun xs H2 => r x xs H2 Q
theorem pe_bmT {o e : Expr} {es : List Expr} {to : TE} {t : TA} {name : Str} {apos cpos : Pos} {id : String} {r : V → List V → Hp → VK → Prop} (slot : Slot "tuple" name id) (hty : typeOf (.builtin id) = pure (.type "method_descriptor")) (hm : MtR X id r) (ho : PE X o to) (ha : PA X (e :: es) t)
    (hbase : attributeBase o name X.env (eval o X.env) = eval o X.env)
    (hfew : ((backTo cpos (starEach (e :: es) X.env)).all (fun x => !x.1) && (backToKw cpos (keywordEach [] X.env)).all (fun x => x.1.isSome)
      && decide ((e :: es).length + ([] : List Keyword).length + (if ([] : List Keyword).isEmpty then 0 else 1) < 30)) = true)
    (hline : (apos.endLine == cpos.line) = true) (hs : starEach (e :: es) X.env = (false, eval e X.env) :: starEach es X.env) (hplain : (backTo cpos (starEach es X.env)).any (·.1) = false) :
    PE X (.Call (.Attribute o name apos) (e :: es) [] cpos) (tBMT r to t) := by
  refine ⟨fun pins s σ H Q I h => ?_⟩
  refine wpAny_Call_method_late hbase hfew hline rfl (thn (ho.run pins s σ H _ I h) fun v s1 ⟨x, H1, I1, r1, ty, q1⟩ => ?_)
  obtain ⟨a, xs, ob, ex, hd, hq⟩ := ty
  subst ex
  cases (show v = Value.ref a from r1)
  obtain ⟨hg, _, its, rv, ⟨o2, ho2, hc, n, hdt⟩⟩ := (show ObjOk X.prog X.w H1 s1.heap a (.frz ob (.tup xs)) from I1.hok a _ hq)
  refine ⟨"tuple", id, F.plainAttrs_tuple, slot, hty, ⟨o2, ho2, hc⟩, fun b e => by cases e; exact ⟨ob, hg, hd⟩, ?_⟩
  have hA := ha.run cpos pins s1 σ H1 _ I1 q1
  rw [hs] at hA ⊢
  refine Calls.callWith_builtin (by show (false || (backTo cpos (starEach es X.env)).any (·.1)) = false; rw [hplain] <;> rfl) (Calls.evalArgs_plain ?_)
  exact thn hA fun us s2 ⟨vs, H2, I2, r2, q2⟩ => hm pins s2 σ H2 (V.ref a) vs (Value.ref a) us Q I2 rfl r2 q2
/-- a tuple's method -/
theorem tBM2 {ro re : EvT} {k : D → D → St → Rv} {σ : L2.St} {H : Hp} {Q : VK} (h : tE C Wx (fun e s => ((ro e s).bnd pIst).bnd fun x s => (re e s).bnd fun y s => k x y s) σ H Q) : tBMT (rM1 C k) (tE C Wx ro) (tA C Wx (esC re esN)) σ H Q := by
  obtain ⟨W, e, s, S, SE, q⟩ := h
  have q : RvQ C W ((ro e s).bnd fun d s => (pIst d s).bnd fun x s => (re e s).bnd fun y s => k x y s) Q (fun cls d H' => Wx cls d σ H') := by
    have q : RvQ C W (((ro e s).bnd pIst).bnd fun x s => (re e s).bnd fun y s => k x y s) Q _ := q
    cases z : ro e s with
    | ok d s1 => rw [z] at q; exact q
    | exc c p s1 => rw [z] at q; exact q
    | bad n => rw [z] at q; exact q
  refine ⟨W, e, s, S, SE, RvQ.imp (RvQ.bnd q) (fun x H1 ⟨W1, d, s1, le, S1, r, q1⟩ => ?_) fun _ _ _ z => z⟩
  unfold pIst at q1
  split at q1
  · rename_i l
    cases r with | tpn hd hp r =>
    refine ⟨⟨_, _, _, rfl, hd, S1.sub _ _ hp⟩, ?_⟩
    have q1 : RvQ C W1 ((re e s1).bnd fun y s => k (.tpn l) y s) Q _ := q1
    refine ⟨W1, e, s1, S1, SE.mono le, ?_⟩
    unfold esC
    cases z : re e s1 with
    | ok y s2 =>
      rw [z] at q1
      intro W' H' vs le' S' rs
      cases rs with | cons r1 rn =>
      cases rn
      exact ⟨_, rfl, W', .tpn l, y, s2, _, S', (RD.tpn hd hp r).mono le', r1, RvQ.mono (r := k (.tpn l) y s2) q1 le'⟩
    | exc c p s2 => rw [z] at q1; exact q1
    | bad n => rw [z] at q1; exact q1
  · exact q1.elim
theorem tBM01 {ro : EvT} {k : D → St → Rv} {σ : L2.St} {H : Hp} {Q : VK} (h : tE C Wx (fun e s => ((ro e s).bnd pIsl).bnd k) σ H Q) : tBM0 X.K "list" (rM0 C k) (tE C Wx ro) σ H Q := by
  obtain ⟨W, e, s, S, SE, q⟩ := h
  have q : RvQ C W ((ro e s).bnd fun d s => (pIsl d s).bnd k) Q (fun cls d H' => Wx cls d σ H') := by
    have q : RvQ C W (((ro e s).bnd pIsl).bnd k) Q _ := q
    cases z : ro e s with
    | ok d s1 => rw [z] at q; exact q
    | exc c p s1 => rw [z] at q; exact q
    | bad n => rw [z] at q; exact q
  refine ⟨W, e, s, S, SE, RvQ.imp (RvQ.bnd q) (fun x H1 ⟨W1, d, s1, le, S1, r, q1⟩ => ?_) fun _ _ _ z => z⟩
  unfold pIsl at q1
  split at q1
  · rename_i l hl
    obtain ⟨a, vs, e1, e2, _⟩ := vw_lst S1 r hl
    subst e1
    exact ⟨.inl ⟨rfl, _, .inl (.inl e2)⟩, rfl, W1, d, s1, _, S1, r, q1⟩
  · exact q1.elim
theorem ok_popm {o : Expr} {ro : EvT} {apos cpos : Pos} (ho : PE X o (tE C Wx ro)) (hbase : attributeBase o (Str.ofString "pop") X.env (eval o X.env) = eval o X.env) (hline : (apos.endLine == cpos.line) = true) :
    PE X (.Call (.Attribute o (Str.ofString "pop") apos) [] [] cpos) (tE C Wx (e1 .pop (e1 .isl ro))) :=
  pe_imp (pe_bm0 F.plainAttrs_list F.slot_list_pop F.type_list_pop (ok_pop (C := C)) ho hbase hline) fun σ H Q q => tBM01 q
theorem few1 {e : Expr} (hs : nst e = true) (env : PySem.Env) (cpos : Pos) : ((((backTo cpos (starEach (e :: []) env)).all fun x => !x.fst) && (backToKw cpos (keywordEach [] env)).all fun x => x.fst.isSome) && decide (((e :: []).length + ([] : List Keyword).length + if ([] : List Keyword).isEmpty = true then 0 else 1) < 30)) = true := by
  rw [star_cons hs]; rfl
theorem ok_append (hK : C.K = X.K) {cb : Nat → Nat} {o e : Expr} {ro re : EvT} {apos cpos : Pos} (hs : nst e = true) (ho : PE X o (tE C Wx ro)) (he : PE X e (tE C Wx re)) (hbase : attributeBase o (Str.ofString "append") X.env (eval o X.env) = eval o X.env) (hline : (apos.endLine == cpos.line) = true) :
    PE X (.Call (.Attribute o (Str.ofString "append") apos) [e] [] cpos) (tE C Wx (e2 cb .app (e1 .isl ro) re)) :=
  pe_imp (pe_bm F.plainAttrs_list F.slot_list_append F.type_list_append (ok_app (C := C)) ho (pa1 hs he) hbase (few1 hs _ _) hline (star_cons hs _) rfl) fun σ H Q q => tBM1 hK q
theorem ok_indexm (hK : C.K = X.K) (hu : X.A.units + 100 < cLine) {cb : Nat → Nat} {o e : Expr} {ro re : EvT} {apos cpos : Pos} (hs : nst e = true) (ho : PE X o (tE C Wx ro)) (he : PE X e (tE C Wx re)) (hbase : attributeBase o (Str.ofString "index") X.env (eval o X.env) = eval o X.env) (hline : (apos.endLine == cpos.line) = true) :
    PE X (.Call (.Attribute o (Str.ofString "index") apos) [e] [] cpos) (tE C Wx (e2 cb .index (e1 .isl ro) re)) :=
  pe_imp (pe_bm F.plainAttrs_list F.slot_list_index F.type_list_index (ok_index (C := C) hK hu) ho (pa1 hs he) hbase (few1 hs _ _) hline (star_cons hs _) rfl) fun σ H Q q => tBM1 hK q
theorem ok_extendm (hK : C.K = X.K) {cb : Nat → Nat} {o e : Expr} {ro re : EvT} {apos cpos : Pos} (hs : nst e = true) (ho : PE X o (tE C Wx ro)) (he : PE X e (tE C Wx re)) (hbase : attributeBase o (Str.ofString "extend") X.env (eval o X.env) = eval o X.env) (hline : (apos.endLine == cpos.line) = true) :
    PE X (.Call (.Attribute o (Str.ofString "extend") apos) [e] [] cpos) (tE C Wx (e2 cb .ext (e1 .isl ro) re)) :=
  pe_imp (pe_bm F.plainAttrs_list F.slot_list_extend F.type_list_extend (ok_ext (C := C)) ho (pa1 hs he) hbase (few1 hs _ _) hline (star_cons hs _) rfl) fun σ H Q q => tBM1 hK q
theorem ok_tixm (hK : C.K = X.K) (hu : X.A.units + 100 < cLine) {cb : Nat → Nat} {o e : Expr} {ro re : EvT} {apos cpos : Pos} (hs : nst e = true) (ho : PE X o (tE C Wx ro)) (he : PE X e (tE C Wx re)) (hbase : attributeBase o (Str.ofString "index") X.env (eval o X.env) = eval o X.env) (hline : (apos.endLine == cpos.line) = true) :
    PE X (.Call (.Attribute o (Str.ofString "index") apos) [e] [] cpos) (tE C Wx (e2 cb .tix (e1 .ist ro) re)) :=
  pe_imp (pe_bmT F.slot_tuple_index F.type_tuple_index (ok_tix (C := C) hK hu) ho (pa1 hs he) hbase (few1 hs _ _) hline (star_cons hs _) rfl) fun σ H Q q => tBM2 q
/-- a tuple without a dict, seen as a tuple -/
theorem ok_asT {e : Expr} {r : EvT} (he : PE X e (tE C Wx r)) : PE X e (tE C Wx (e1 .asT r)) :=
  pe_imp he fun σ H Q ⟨W, en, s, S, SE, q⟩ => ⟨W, en, s, S, SE, RvQ.imp (RvQ.bnd (r := r en s) (k := pAsT) q) (fun v H1 ⟨W1, d, s1, le, S1, rd, q1⟩ => by
    unfold pAsT at q1
    split at q1
    · cases rd with | tpn hd hp r =>
      exact RvQ.here S1 (.tup (.inr ⟨_, hp⟩) r) q1
    · exact q1.elim) fun _ _ _ z => z⟩
/-- {} -/
theorem ok_dct0 (hw : C.w = X.w) {pos : Pos} : PE X (.Dict [] [] pos) (tE C Wx (en .dct esN)) :=
  pe_imp pe_dnewN fun σ H Q ⟨W, e, s, S, SE, q⟩ p hp => by
    have q : RvQ C W (newD [] s) Q (fun cls d H' => Wx cls d σ H') := q
    rw [← hw]
    exact newD_ok S hp .nil q
/-- list(range(x, y)) -/
theorem rng_rd {W : Wd} : ∀ (n : Nat) (a : Int), RDs C W (rngD a n) ((List.range n).map fun i => V.int (a + (i : Nat)))
  | 0, a => .nil
  | n + 1, a => by
    have e : ((List.range (n + 1)).map fun i => V.int (a + (i : Nat))) = V.int a :: (List.range n).map fun i => V.int ((a + 1) + (i : Nat)) := by
      rw [List.range_succ_eq_map, List.map_cons, List.map_map]
      refine congr (congrArg _ (by simp)) (List.map_congr_left fun i _ => ?_)
      show V.int (a + ((i + 1 : Nat) : Int)) = _
      rw [show a + ((i + 1 : Nat) : Int) = (a + 1) + (i : Nat) by omega]
    rw [e]
    exact .cons (.int a) (rng_rd n (a + 1))
theorem te_imp {r : EvT} {σ : L2.St} {H : Hp} {Q Q' : VK} (h : tE C Wx r σ H Q) (i : ∀ v H', Q v H' → Q' v H') : tE C Wx r σ H Q' := by
  obtain ⟨W, e, s, S, SE, q⟩ := h
  exact ⟨W, e, s, S, SE, RvQ.imp q (fun v H1 hq => i v H1 hq) fun _ _ _ z => z⟩
theorem ok_lrg (hc : X.calm = true) (m : Bool) {cb : Nat → Nat} {a b : Expr} {ra rb : EvT} {p p2 q pos : Pos} (hs : nst a = true) (hs2 : nst b = true) (hg : Gl X (Str.ofString "list")) (hm : X.mg (Str.ofString "list") = none) (hg2 : Gl X (Str.ofString "range")) (hm2 : X.mg (Str.ofString "range") = none) (ha : PE X a (tE C Wx ra)) (hb : PE X b (tE C Wx rb)) :
    PE X (.Call (.Name (Str.ofString "list") p) [.Call (.Name (Str.ofString "range") p2) [a, b] [] q] [] pos) (tE C Wx (e2 cb (.lrg m) ra rb)) := by
  refine pe_imp (pe_listRg hc hg hm (prg_2 hg2 hm2 ha hb (star_cons hs _) (star_cons hs2 _) (star_any q _ (by simp [hs2]))) rfl) fun σ H Q h => ?_
  refine te_imp (tE_two (k := pLrg m) h) fun x H1 h1 => te_imp h1 fun y H2 ⟨W, dx, dy, s, E, S, hx, hy, h3⟩ => ?_
  unfold pLrg onI2 at h3
  split at h3
  · split at h3
    · cases hx
      cases hy
      obtain ⟨hb, h4⟩ := RvQ.cnd h3
      have hb := (Bool.and_eq_true _ _).mp hb
      have hb1 := (Bool.and_eq_true _ _).mp hb.1
      have b1 := small62_iff hb1.1
      have b2 := small62_iff hb1.2
      have b3 : (_ - _ : Int).toNat ≤ 16777216 := Nat.le_of_ble_eq_true hb.2
      exact ⟨_, _, rfl, rfl, ⟨by omega, by omega, by omega, by omega, by omega⟩, fun q hq => (newL_ok S hq (rng_rd _ _) h4).2⟩
    · exact h3.elim
  · exact h3.elim
/-! ### calls -/
def spF (C : Cn) (cl : Cl) (f : Nat) : Sp := fun vs H Q E => ∃ W ds s, SimS C W H s ∧ RDs C W ds vs ∧ RvQ C W (cl f ds s) Q E
theorem pass_of {W : WX} (tk : Takes X W) (σ : L2.St) : PassesAt (CX X.prog X.w) X σ (fun cls d H => W cls d σ H) := fun pins H s e s' I c => tk e s' (XE.of_call I (fun cls d H' h => h) c)
theorem tA_call {cl : Cl} {f : Nat} {es : EsT} {σ : L2.St} {H : Hp} {Q : VK} (h : tE C Wx (eCall cl f es) σ H Q) : tA C Wx es σ H fun vs H1 => spF C cl f vs H1 Q (fun cls d H' => Wx cls d σ H') := tA_one (k := cl f) h
theorem ok_call {cl : Cl} {f : Nat} {k : Nat} {fa : Addr} {fd : FuncData} {ps : List Str} {x : Str} {p pos : Pos} {e : Expr} {es : List Expr} {r : EsT} (F : FnOk X.prog X.w X.K X.mg X.base (CX X.prog X.w) k fa fd ps (spF C cl f)) (hr : Room k X.A) (hg : Gl X x) (hm : X.mg x = some (.ref fa))
    (hk : PySem.W.keepIn X.K (.ref fa) = true) (hb : L2.Binds X.K fd ps []) (tk : Takes X Wx) (hs : (e :: es).all nst = true) (ha : PA X (e :: es) (tA C Wx r)) (hdb : (x == Str.ofString "__debug__") = false) :
    PE X (.Call (.Name x p) (e :: es) [] pos) (tE C Wx (eCall cl f r)) :=
  have hs2 := (Bool.and_eq_true _ _).mp (show (nst e && es.all nst) = true from hs)
  pe_imp (pe_callS F hr hg hm hk hb (E := fun σ cls d H' => Wx cls d σ H') (fun σ => pass_of tk σ) ha hdb (star_cons hs2.1 _) (star_any _ _ hs2.2)) fun σ H Q q => tA_call q
end
end Mv
end

section
set_option Elab.async false
set_option linter.all false
set_option maxRecDepth 100000
set_option maxHeartbeats 4000000
/-! SetI: sorted(set(..)) of whole numbers, of tuples of these. -/
namespace Mv
open PySem PySem.Spec PyProof.Rows L2
section
variable {P : Program} {w : World} {A : Around} {E : Value → Shared → Prop} {s : Shared}
set_option maxRecDepth 100000 in
set_option maxHeartbeats 3200000 in
theorem call_set_lstI {l : Addr} {items : Array Value} (ns : List Int) {Q : Value → Shared → Prop} (hh : A.handled = none) (hl : s.heap.IsList l items) (hit : IntsAre items.toList ns) (hb : ns.length + 1 < scanBound)
    (h : ∀ (h' : Heap) (tk c : Nat), SetR w h' s.heap.objs.size (fun j => decide (j ∈ ns)) c → c ≤ ns.length → (∀ b o, s.heap.get? b = some o → h'.get? b = some o) → Q (.ref s.heap.objs.size) { s with heap := h', toks := tk }) :
    wpAny (model P w) A (call (.type "set") [.ref l]) Q E s := by
  have hisz : items.size = ns.length := by
    have q := IntsAre.length hit
    rw [Array.length_toList] at q
    exact q
  obtain ⟨c, tl, hmro⟩ := F.called_set.mro
  have hmade := F.called_set.made
  have hsub := F.called_set.sub
  refine wpAny_call (codeAny_of_tree ?_)
  show wpAny _ _ (callAny (.type "set") _) _ _ _
  refine wpAny_pure ⟨Code.quiet_builtin _ (by decide +kernel), codeAny_builtin F.entry_type_call ?_⟩
  rw [Around.under_plain (weight_type_call_type "set" [.ref l] []) rfl]
  have h1 := F.called_set.notType
  have h2 := F.called_set.canCreate
  have hct := F.typeCall_set_1 (.ref l)
  repeat (any_goals (first | assumption | wp_step))

  refine codeAny_mono (code_set_led1 (.ref l) (E := E) (Q₁ := fun obj s₁ => obj = .ref s.heap.objs.size ∧ s₁ = { s with heap := s.heap.push { cls := .type "set", dict := none, data := .set #[] 0 (.fresh 0 0 (!w.params.followText "set-order")) } }) ⟨rfl, rfl⟩) fun r s₁ hr => ?_
  cases r with
  | error e => exact hr
  | ok fl =>
    cases fl with
    | ret obj =>
      obtain ⟨rfl, rfl⟩ := hr
      have hS : (s.heap.push { cls := .type "set", dict := none, data := .set #[] 0 (.fresh 0 0 (!w.params.followText "set-order")) }).get? s.heap.objs.size = some { cls := .type "set", dict := none, data := .set #[] 0 (.fresh 0 0 (!w.params.followText "set-order")) } := Heap.get?_push_size _ rfl
      have hT : Shared.TypeIs { s with heap := s.heap.push { cls := .type "set", dict := none, data := .set #[] 0 (.fresh 0 0 (!w.params.followText "set-order")) } } (.ref s.heap.objs.size) "set" := ⟨_, hS, rfl⟩
      have hli := F.called_set.init.lookup
      have hbi := F.called_set.init.bind (.ref s.heap.objs.size)
      repeat (any_goals (first | assumption | wp_step))

      refine codeAny_mono (codeAny_call_builtin (R := wants (fun r s₂ => r = .none ∧ ∃ h' tk c, s₂ = { s with heap := h', toks := tk } ∧ SetR w h' s.heap.objs.size (fun j => decide (j ∈ ns)) c ∧ c ≤ ns.length ∧
          (∀ b o, s.heap.get? b = some o → h'.get? b = some o)) E) F.called_set.init.plain F.entry_set_init (check_set_init_1 hT ?_)) fun r₂ s₂ hr₂ => ?_
      · obtain ⟨ol, hol, hcl, nl, hdl⟩ := hl
        obtain ⟨ocls, odict, odata, oslots⟩ := ol
        simp only at hcl hdl
        subst hcl; subst hdl
        have hol' : (s.heap.push { cls := .type "set", dict := none, data := .set #[] 0 (.fresh 0 0 (!w.params.followText "set-order")) }).get? l = some { cls := .type "list", dict := odict, data := .seq items nl, slots := oslots } := Heap.get?_push_of_some _ hol
        have hsls := PySem.F.sub_list_set
        have hslf := PySem.F.sub_list_frozenset
        have hne : (Value.type "list" == Value.type "dict") = false := by decide
        have hl1 : (s.heap.push { cls := .type "set", dict := none, data := .set #[] 0 (.fresh 0 0 (!w.params.followText "set-order")) }).IsList l items := ⟨_, hol', rfl, nl, rfl⟩
        unfold Builtin.«set.__init__» noKeywords Builtin.Frozenset.updateFrom
        generalize hPI : pyIter = PI
        wp_walk
        subst hPI

        refine wpAny_pyIter_list hl1 ?_
        refine wpAny_bind (wpAny_runValue ?_)
        have hlS : l < s.heap.objs.size := Heap.lt_size hol
        have hh3 : A.in1.in1.in1.handled = none := by simp [hh]
        have hz1 : (s.heap.push { cls := .type "set", dict := none, data := .set #[] 0 (.fresh 0 0 (!w.params.followText "set-order")) }).objs.size = s.heap.objs.size + 1 := Heap.size_push ..
        have hneI : l ≠ (s.heap.push { cls := .type "set", dict := none, data := .set #[] 0 (.fresh 0 0 (!w.params.followText "set-order")) }).objs.size := by
          rw [Heap.size_push]; exact Nat.ne_of_lt (Nat.lt_succ_of_lt hlS)
        have hSf : s.heap.objs.size ∉ [(s.heap.push { cls := .type "set", dict := none, data := .set #[] 0 (.fresh 0 0 (!w.params.followText "set-order")) }).objs.size, l] := by
          rw [Heap.size_push]; simp only [List.mem_cons, List.mem_singleton, List.not_mem_nil, or_false, not_or]
          exact ⟨Nat.ne_of_lt (Nat.lt_succ_self _), Nat.ne_of_gt hlS⟩
        have hval : ∀ (i : Nat) (v : Value), items[i]? = some v → ∃ k t, ns[i]? = some k ∧ v = .int k t := fun i v hv => by
          have hi : i < ns.length := by rw [← hisz]; exact (Array.getElem?_eq_some_iff.mp hv).1
          obtain ⟨t, e⟩ := PyProof.Rows.IntsAre.int_at hit i v (by rw [Array.getElem?_toList]; exact hv)
          refine ⟨ns[i], t, List.getElem?_eq_getElem hi, ?_⟩
          rw [e, List.getD_eq_getElem?_getD, List.getElem?_eq_getElem hi] <;> rfl
        refine set_update_ints ((Walks.list hh3 _ l hneI items).toS) s.heap.objs.size
          hSf ns hisz hb hval (items.size - 0) 0 _ (by omega) (Nat.zero_le _)
          ⟨⟨_, Heap.get?_push_size _ rfl, rfl, rfl⟩, (hl1.push _)⟩ ?hS0 ?hR
        case hS0 =>
          have hget : ((s.heap.push { cls := .type "set", dict := none, data := .set #[] 0 (.fresh 0 0 (!w.params.followText "set-order")) }).push { cls := .type "list_iterator", data := .fields #[.ref l, .int 0 0] }).get? s.heap.objs.size
              = some { cls := .type "set", dict := none, data := .set #[] 0 (.fresh 0 0 (!w.params.followText "set-order")) } := Heap.get?_push_of_some _ hS
          exact ⟨0, Nat.le_refl 0, setR_new_at hget⟩
        case hR =>
          intro s' c' hm hc' hS'
          obtain ⟨h', g2, d', tk', os'⟩ := s'
          have eg : g2 = s.gens := hm.gens
          have ed : d' = s.drawn := hm.drawn
          have eo : os' = s.os := hm.os
          subst eg; subst ed; subst eo
          show wpAny _ _ _ _ _ _
          refine wpAny_pure ?_
          show wpAny _ _ (ret Value.none) _ _ _
          rw [hisz] at hc'
          refine wpAny_pure ⟨rfl, h', tk', c', rfl, hS', hc', fun b o e => ?_⟩
          have hb0 : b < s.heap.objs.size := Heap.lt_size e
          have hb1 : b ≠ s.heap.objs.size := Nat.ne_of_lt hb0
          have hb2 : b ≠ (s.heap.push { cls := .type "set", dict := none, data := .set #[] 0 (.fresh 0 0 (!w.params.followText "set-order")) }).objs.size := by
            rw [Heap.size_push]; exact Nat.ne_of_lt (Nat.lt_succ_of_lt hb0)
          exact hm.heap b o (by simp only [List.mem_cons, List.mem_singleton, List.not_mem_nil, or_false, not_or]; exact ⟨hb1, hb2⟩) (Heap.get?_push_of_some _ (Heap.get?_push_of_some _ e))

      · cases r₂ with
        | error e => exact hr₂
        | ok fl₂ =>
          cases fl₂ with
          | ret r =>
            obtain ⟨rfl, h', tk, c', rfl, hS', hc', hk'⟩ := hr₂
            repeat (any_goals (first | assumption | wp_step))
            exact h _ _ _ hS' hc' hk'
          | _ => exact hr₂.elim
    | _ => exact hr.elim

end
/-- set(xs), xs a list or tuple of whole numbers -/
theorem set_ints {X : Cx} (hc : X.calm = true) {pins : List (Addr × Obj)} {s : Shared} {σ : L2.St} {H : Hp} {l : Addr} {ns : List Int} {Q : VK} (I : L2.Inv X pins σ H s) (hl : SqL X.K H l (ns.map V.int) ∨ SqT X.K H l (ns.map V.int)) (hb : ns.length < 64)
    (q : ∀ a c, H a = none → c ≤ ns.length → Q (.ref a) (upd H a (SetO X.w a (fun j => decide (j ∈ ns)) c))) : wpAny (model X.prog X.w) X.A (call (.type "set") [.ref l]) (EP X pins σ Q) X.xe s := by
  have hn : H s.heap.objs.size = none := I.hok.fresh (Nat.le_refl _)
  have hs : ns.length + 1 < scanBound := by unfold scanBound; omega
  have fin : ∀ (h' : Heap) (tk c : Nat), SetR X.w h' s.heap.objs.size (fun j => decide (j ∈ ns)) c → c ≤ ns.length → (∀ b o, s.heap.get? b = some o → h'.get? b = some o) → EP X pins σ Q (.ref s.heap.objs.size) { s with heap := h', toks := tk } := fun h' tk c R hc k =>
    ⟨.ref s.heap.objs.size, upd H s.heap.objs.size (SetO X.w s.heap.objs.size (fun j => decide (j ∈ ns)) c), I.laid (t' := tk) k (Nat.le_refl _) (setO_new R), rfl, q _ c hn hc⟩
  rcases hl with hl | hl
  · obtain ⟨its, rv, pl, hz⟩ := I.list hl
    exact call_set_lstI ns (I.ok.hd hc) pl.isList (by simpa using ints_of_vals rv) hs fin
  · obtain ⟨its, rv, pl, hz⟩ := I.tuple hl
    exact call_set_tupI ns (I.ok.hd hc) pl (by simpa using ints_of_vals rv) hs fin
/-! ### sorted without doubles, by a number -/
theorem iltb_iff (a b : Int) : iltb a b = true ↔ a < b := by rw [iltb_eq]; simp
theorem ieqb_iff (a b : Int) : ieqb a b = true ↔ a = b := by rw [ieqb_eq]; simp
section
variable {α : Type} (κ : α → Int)
theorem uniq_sorted : ∀ {xs ys : List α}, xs.Pairwise (fun a b => κ a < κ b) → ys.Pairwise (fun a b => κ a < κ b) → (∀ a, a ∈ xs ↔ a ∈ ys) → xs = ys
  | [], [], _, _, _ => rfl
  | [], b :: _, _, _, h => absurd ((h b).mpr List.mem_cons_self) (by simp)
  | a :: _, [], _, _, h => absurd ((h a).mp List.mem_cons_self) (by simp)
  | a :: xs, b :: ys, h1, h2, h => by
    rw [List.pairwise_cons] at h1 h2
    have e : a = b := by
      rcases List.mem_cons.mp ((h a).mp List.mem_cons_self) with q | q
      · exact q
      · rcases List.mem_cons.mp ((h b).mpr List.mem_cons_self) with q2 | q2
        · exact q2.symm
        · have := h1.1 b q2
          have := h2.1 a q
          omega
    subst e
    rw [uniq_sorted h1.2 h2.2 fun c => ?_]
    have := h c
    rw [List.mem_cons, List.mem_cons] at this
    constructor
    · intro hc
      rcases this.mp (.inr hc) with q | q
      · subst q; have := h1.1 _ hc; omega
      · exact q
    · intro hc
      rcases this.mpr (.inr hc) with q | q
      · subst q; have := h2.1 _ hc; omega
      · exact q
theorem insK_mem (inj : α → Prop) (hj : ∀ a b, inj a → inj b → κ a = κ b → a = b) : ∀ {l : List α} {x : α}, inj x → (∀ a ∈ l, inj a) → ∀ c, c ∈ insK κ x l ↔ c = x ∨ c ∈ l
  | [], x, _, _, c => by simp [insK]
  | a :: l, x, hx, hl, c => by
    unfold insK
    cases e : iltb (κ x) (κ a) with
    | true => simp
    | false =>
      cases e2 : ieqb (κ x) (κ a) with
      | true =>
        have := hj x a hx (hl a List.mem_cons_self) ((ieqb_iff _ _).mp e2)
        subst this
        simp
      | false =>
        show c ∈ a :: insK κ x l ↔ _
        rw [List.mem_cons, insK_mem inj hj hx (fun b hb => hl b (List.mem_cons_of_mem _ hb)) c, List.mem_cons]
        constructor
        · rintro (h | h | h) <;> simp [h]
        · rintro (h | h | h) <;> simp [h]
theorem insK_sorted : ∀ {l : List α} {x : α}, l.Pairwise (fun a b => κ a < κ b) → (insK κ x l).Pairwise (fun a b => κ a < κ b) ∧ ∀ b, (∀ a ∈ l, κ b < κ a) → κ b < κ x → ∀ a ∈ insK κ x l, κ b < κ a
  | [], x, _ => ⟨by simp [insK], fun b _ hb a ha => by simp [insK] at ha; rw [ha]; exact hb⟩
  | a :: l, x, h => by
    rw [List.pairwise_cons] at h
    obtain ⟨ih1, ih2⟩ := insK_sorted (x := x) h.2
    unfold insK
    cases e : iltb (κ x) (κ a) with
    | true =>
      have e := (iltb_iff _ _).mp e
      refine ⟨?_, fun b h1 h2 c hc => ?_⟩
      · show (x :: a :: l).Pairwise _
        rw [List.pairwise_cons, List.pairwise_cons]
        refine ⟨fun c hc => ?_, h⟩
        rcases List.mem_cons.mp hc with q | q
        · subst q; exact e
        · have := h.1 c q; omega
      · rcases List.mem_cons.mp (show c ∈ x :: a :: l from hc) with q | q
        · subst q; exact h2
        · exact h1 c q
    | false =>
      cases e2 : ieqb (κ x) (κ a) with
      | true =>
        refine ⟨?_, fun b h1 h2 c hc => h1 c hc⟩
        show (a :: l).Pairwise _
        rw [List.pairwise_cons]; exact h
      | false =>
        have e3 : κ a < κ x := by
          have h1 : ¬ κ x < κ a := fun q => by rw [(iltb_iff _ _).mpr q] at e; cases e
          have h2 : ¬ κ x = κ a := fun q => by rw [(ieqb_iff _ _).mpr q] at e2; cases e2
          omega
        refine ⟨?_, fun b h1 h2 c hc => ?_⟩
        · show (a :: insK κ x l).Pairwise _
          rw [List.pairwise_cons]
          exact ⟨ih2 a h.1 e3, ih1⟩
        · rcases List.mem_cons.mp (show c ∈ a :: insK κ x l from hc) with q | q
          · subst q; exact h1 _ List.mem_cons_self
          · exact ih2 b (fun d hd => h1 d (List.mem_cons_of_mem _ hd)) h2 c q
theorem srtK_ok (inj : α → Prop) (hj : ∀ a b, inj a → inj b → κ a = κ b → a = b) : ∀ {l : List α}, (∀ a ∈ l, inj a) → (srtK κ l).Pairwise (fun a b => κ a < κ b) ∧ ∀ c, c ∈ srtK κ l ↔ c ∈ l
  | [], _ => ⟨List.Pairwise.nil, fun c => Iff.rfl⟩
  | a :: l, h => by
    obtain ⟨h1, h2⟩ := srtK_ok inj hj (fun b hb => h b (List.mem_cons_of_mem _ hb))
    refine ⟨(insK_sorted κ h1).1, fun c => ?_⟩
    show c ∈ insK κ a (srtK κ l) ↔ _
    rw [insK_mem κ inj hj (h a List.mem_cons_self) (fun b hb => h b (List.mem_cons_of_mem _ ((h2 b).mp hb))) c, h2 c, List.mem_cons]
end
variable {X : Cx} {C : Cn} {Wx : WX}
def rSet2 (X : Cx) : List V → Hp → VK → Prop := fun xs H Q => (∃ (l : Addr) (ns : List Int), xs = [V.ref l] ∧ (SqL X.K H l (ns.map V.int) ∨ SqT X.K H l (ns.map V.int)) ∧ ns.length < 64 ∧ ∀ a c, H a = none → c ≤ ns.length → Q (.ref a) (upd H a (SetO X.w a (fun j => decide (j ∈ ns)) c))) ∨ rSetOfU X.K X.prog X.w xs H Q
theorem cr_set2 (hc : X.calm = true) (hu : X.A.units + 64 < cLine) : CallR X (.type "set") (rSet2 X) := by
  intro pins s σ H xs us Q I r h
  rcases h with ⟨l, ns, rfl, hl, hb, q⟩ | h
  · rw [Vals.ref1 r]
    exact set_ints hc I hl hb q
  · exact cr_setOfU hc hu pins s σ H xs us Q I r h
def rSrt2 (X : Cx) : List V → Hp → VK → Prop := fun xs H Q => rSortedSet X.w xs H Q ∨ rSortedT X.K X.prog X.w xs H Q
theorem cr_srt2 (hc : X.calm = true) : CallR X (.builtin "sorted") (rSrt2 X) := by
  intro pins s σ H xs us Q I r h
  rcases h with h | h
  · exact cr_sortedSet hc pins s σ H xs us Q I r h
  · exact cr_sortedT hc pins s σ H xs us Q I r h
theorem allI_ok {W : Wd} : ∀ {l : List D} {vs : List V} {ns : List Int}, RDs C W l vs → allI l = some ns → vs = ns.map V.int ∧ l = ns.map D.int
  | _, _, _, .nil, h => by simp [allI] at h; subst h; exact ⟨rfl, rfl⟩
  | d :: l, _, ns, .cons hd r, h => by
    unfold allI at h
    split at h
    · cases hd
      split at h
      · rename_i i m e
        cases h
        obtain ⟨h1, h2⟩ := allI_ok r e
        exact ⟨by rw [h1]; rfl, by rw [h2]; rfl⟩
      · cases h
    · cases h
theorem ints_rd {W : Wd} : ∀ ns : List Int, RDs C W (ns.map D.int) (ns.map V.int)
  | [] => .nil
  | i :: r => .cons (.int i) (ints_rd r)
theorem allI_map : ∀ l : List Int, allI (l.map D.int) = some l
  | [] => rfl
  | i :: r => by
    show (match allI (r.map D.int) with | some l => some (i :: l) | none => none) = _
    rw [allI_map r]
theorem allT_ok {W : Wd} {H : Hp} {s : St} (S : SimS C W H s) : ∀ {l : List D} {vs : List V} {ts : List (List Int)}, RDs C W l vs → allT l = some ts → ∃ ks : List (Addr × List Int), vs = ks.map (fun p => V.ref p.1) ∧ ts = ks.map (·.2) ∧ ∀ p ∈ ks, SqT C.K H p.1 (p.2.map V.int) ∧ RD C W (.tup (p.2.map D.int)) (.ref p.1)
  | _, _, _, .nil, h => by simp [allT] at h; subst h; exact ⟨[], rfl, rfl, fun p hp => by cases hp⟩
  | d :: l, _, ts, .cons hd r, h => by
    unfold allT at h
    split at h
    · split at h
      · split at h
        · rename_i i e1 o2 m e2
          cases h
          cases hd with | tup hp rr =>
          rename_i a vs
          obtain ⟨h1, h2⟩ := allI_ok rr e1
          obtain ⟨ks, g1, g2, g3⟩ := allT_ok S r e2
          subst h1; subst h2
          refine ⟨(a, i) :: ks, by rw [g1]; rfl, by rw [g2]; rfl, fun p hp' => ?_⟩
          rcases List.mem_cons.mp hp' with q | q
          · subst q; exact ⟨hp.sq S.sub, .tup hp rr⟩
          · exact g3 p q
        · cases h
      · cases h
    · cases h
theorem codeB_eq : ∀ l : List Int, codeB l = TS.code 18446744073709551616 l
  | [] => rfl
  | a :: r => by
    show Int.add (Int.mul a _) (codeB r) = _
    rw [codeB_eq r]
    rfl
theorem nn64_ok : ∀ {l : List Int}, nn64 l = true → TS.Bd 18446744073709551616 l
  | [], _ => fun m hm => by cases hm
  | a :: r, h => by
    unfold nn64 at h
    split at h
    · rename_i n
      obtain ⟨h1, h2⟩ := cond_eq_true h
      have h1 := (blt_iff _ _).mp h1
      intro m hm
      rcases List.mem_cons.mp hm with e | e
      · subst e
        exact ⟨Int.natCast_nonneg n, by have : (n : Int) < 18446744073709551616 := by omega
                                        exact this⟩
      · exact nn64_ok h2 m e
    · cases h
theorem allLen_ok {n : Nat} : ∀ {l : List (List Int)}, allLen n l = true → ∀ t ∈ l, t.length = n ∧ TS.Bd 18446744073709551616 t
  | [], _, t, ht => by cases ht
  | a :: r, h, t, ht => by
    obtain ⟨h1, h2⟩ := cond_eq_true h
    have h1 := (Bool.and_eq_true _ _).mp h1
    rcases List.mem_cons.mp ht with e | e
    · subst e; exact ⟨(beq_true_iff _ _).mp h1.1, nn64_ok h1.2⟩
    · exact allLen_ok h2 t e
theorem code_inj {B : Int} : ∀ {a b : List Int}, a.length = b.length → TS.Bd B a → TS.Bd B b → TS.code B a = TS.code B b → a = b
  | [], [], _, _, _, _ => rfl
  | x :: a, y :: b, hl, ha, hb, h => by
    have hl' : a.length = b.length := by simpa using hl
    have ha' : TS.Bd B a := fun m hm => ha m (List.mem_cons_of_mem _ hm)
    have hb' : TS.Bd B b := fun m hm => hb m (List.mem_cons_of_mem _ hm)
    by_cases h1 : x < y
    · have := TS.code_lt hl' ha' hb' h1; omega
    · by_cases h2 : y < x
      · have := TS.code_lt hl'.symm hb' ha' h2; omega
      · have e : x = y := by omega
        subst e
        have n1 := TS.code_same (B := B) (d := x) hl'
        have n2 := TS.code_same (B := B) (d := x) hl'.symm
        have : TS.code B a = TS.code B b := by
          by_cases q1 : TS.code B a < TS.code B b
          · have := n1.mpr q1; omega
          · by_cases q2 : TS.code B b < TS.code B a
            · have := n2.mpr q2; omega
            · omega
        rw [code_inj hl' ha' hb' this]
theorem lstv_sqv {s : St} {d : D} {l : List D} (h : lstv s d = some l) : sqv s d = some l := by
  unfold lstv at h
  unfold sqv
  split at h
  · exact h
  · exact h
  · exact h
  · cases h
theorem map_get {l : List D} {vs : List V} : True := trivial
theorem sset_main (hK : C.K = X.K) {W : Wd} {H : Hp} {s : St} {d : D} {v : V} {m : Bool} {Q : VK} {E : XK} (S : SimS C W H s) (rd : RD C W d v) (h : RvQ C W (pSset m d s) Q E) : rSet2 X [v] H (fun x H1 => rSrt2 X [x] H1 Q) := by
  unfold pSset at h
  split at h
  · rename_i l hl
    obtain ⟨hlen, h'⟩ := RvQ.cnd h
    replace h := h'
    have hlen := (blt_iff _ _).mp hlen
    have hs := lstv_sqv hl
    split at h
    · rename_i ns hns
      obtain ⟨a, vs, ev, hq, r⟩ := sqv_ok S rd hs
      obtain ⟨g1, g2⟩ := allI_ok r hns
      subst ev; subst g1; subst g2
      rw [List.length_map] at hlen
      rw [hK] at hq
      refine .inl ⟨a, ns, rfl, hq, hlen, fun p c hp hc => .inl ⟨p, _, c, rfl, upd_same, by omega, fun ns' p2 pw mem hl' hp2 => ?_⟩⟩
      obtain ⟨o1, o2⟩ := srtK_ok (fun i : Int => i) (fun _ => True) (fun a b _ _ e => e) (l := ns) (fun _ _ => trivial)
      have e : ns' = srtK (fun i => i) ns := uniq_sorted (fun i : Int => i) pw o1 fun k => by
        rw [o2 k, mem k]; simp
      have le := Wd.le_frz (S.F_none hp) (SetO X.w p (fun j => decide (j ∈ ns)) c)
      have S' := S.laid hp (SetO X.w p (fun j => decide (j ∈ ns)) c)
      rw [e]
      exact (newL_ok S' hp2 (ints_rd _) (RvQ.mono (r := newL m ((srtK (fun i => i) ns).map D.int) s) h le)).2
    · split at h
      · rename_i t ts ht
        obtain ⟨hc, h'⟩ := RvQ.cnd h
        replace h := h'
        have hc := (Bool.and_eq_true _ _).mp hc
        have hd := (blt_iff _ _).mp hc.1
        obtain ⟨a, vs, ev, hq, r⟩ := sqv_ok S rd hs
        obtain ⟨ks, g1, g2, g3⟩ := allT_ok S r ht
        have hks : ks.length < 64 := by
          have := r.length
          rw [g1, List.length_map] at this
          omega
        have hal : ∀ p ∈ ks, p.2.length = t.length ∧ TS.Bd 18446744073709551616 p.2 := fun p hp => allLen_ok hc.2 p.2 (by rw [g2]; exact List.mem_map.mpr ⟨p, hp, rfl⟩)
        subst ev; subst g1
        rw [hK] at hq
        refine .inr ⟨a, ks, rfl, hq, fun p hp => by rw [← hK]; exact (g3 p hp).1, hks, fun p L hp hL1 hL2 => ?_⟩
        have le := Wd.le_frz (S.F_none hp) (SetTO X.prog X.w p L)
        have S' := S.laid hp (SetTO X.prog X.w p L)
        have sub : ∀ q ∈ L, SqT X.K (upd H p (SetTO X.prog X.w p L)) q.1 (q.2.map V.int) := fun q hq' => by
          have g := (g3 q (hL1 q hq')).2.mono le
          cases g with | tup hf _ =>
          rename_i vs' r'
          obtain ⟨z, z2⟩ := allI_ok (ns := q.2) r' (by
            exact allI_map q.2)
          subst z
          exact hf.sq S'.sub
        refine .inr ⟨p, L, t.length, 18446744073709551616, rfl, upd_same, sub, hd, fun q hq' => hal q (hL1 q hq'), fun L' p2 pm nd hl' pw hp2 => ?_⟩
        have inj : ∀ a b : List Int, (a.length = t.length ∧ TS.Bd 18446744073709551616 a) → (b.length = t.length ∧ TS.Bd 18446744073709551616 b) → codeB a = codeB b → a = b := fun a b ha hb e => by
          rw [codeB_eq, codeB_eq] at e
          exact code_inj (ha.1.trans hb.1.symm) ha.2 hb.2 e
        have hin : ∀ q ∈ L', q ∈ ks := fun q hq' => hL1 q ((pm.mem_iff).mp hq')
        obtain ⟨o1, o2⟩ := srtK_ok codeB (fun z => z.length = t.length ∧ TS.Bd 18446744073709551616 z) inj (l := t :: ts) (fun z hz => by
          rw [g2] at hz
          obtain ⟨q, h1, h2⟩ := List.mem_map.mp hz
          subst h2; exact hal q h1)
        have e : L'.map (·.2) = srtK codeB (t :: ts) := by
          refine uniq_sorted codeB ?_ o1 fun z => ?_
          · rw [List.pairwise_map]
            rw [List.Nodup, List.pairwise_map] at nd
            refine (pw.and nd).imp_of_mem fun {q1 q2} m1 m2 hh => ?_
            have h1 := hh.1
            have h2 := hh.2
            have hne : ¬ codeB q1.2 = codeB q2.2 := fun e => h2 (inj _ _ (hal _ (hin _ m1)) (hal _ (hin _ m2)) e)
            have h1 : codeB q1.2 ≤ codeB q2.2 := by rw [codeB_eq, codeB_eq]; exact h1
            omega
          · rw [o2 z, g2]
            constructor
            · intro hz
              obtain ⟨q, h1, h2⟩ := List.mem_map.mp hz
              exact List.mem_map.mpr ⟨q, hin q h1, h2⟩
            · intro hz
              obtain ⟨q, h1, h2⟩ := List.mem_map.mp hz
              have := hL2 q h1
              rw [h2] at this
              obtain ⟨q', h3, h4⟩ := List.mem_map.mp this
              exact List.mem_map.mpr ⟨q', (pm.mem_iff).mpr h3, h4⟩
        have rr : ∀ {L2 : List (Addr × List Int)}, (∀ q ∈ L2, q ∈ ks) → RDs C (W.frz p (SetTO X.prog X.w p L)) ((L2.map (·.2)).map fun z => D.tup (z.map D.int)) (L2.map fun q => V.ref q.1) := fun {L2} => by
          intro hm
          induction L2 with
          | nil => exact .nil
          | cons q L2 ih => exact .cons ((g3 q (hm q List.mem_cons_self)).2.mono le) (ih fun q' h' => hm q' (List.mem_cons_of_mem _ h'))
        have r2 := rr hin
        rw [e] at r2
        exact (newL_ok S' hp2 r2 (RvQ.mono (r := newL m _ s) h le)).2
      · exact h.elim
  · exact h.elim
theorem boot_sorted : bootBuiltins "sorted" = some (.builtin "sorted") := by decide +kernel
theorem ok_sset (hK : C.K = X.K) (hc : X.calm = true) (hu : X.A.units + 100 < cLine) {m : Bool} {e : Expr} {r : EvT} {p p2 q pos : Pos} (hs : nst e = true) (hg : Gl X (Str.ofString "sorted")) (hm : X.mg (Str.ofString "sorted") = none) (hg2 : Gl X (Str.ofString "set")) (hm2 : X.mg (Str.ofString "set") = none) (he : PE X e (tE C Wx r)) :
    PE X (.Call (.Name (Str.ofString "sorted") p) [.Call (.Name (Str.ofString "set") p2) [e] [] q] [] pos) (tE C Wx (e1 (.sset m) r)) := by
  refine pe_imp (pe_callB (cr_srt2 hc) hg hm boot_sorted (pa_cons (pe_callTy (cr_set2 hc (by omega)) hg2 hm2 boot_set (pa_cons he pa_nil (star_cons hs _)) (by decide) (by decide) (star_cons hs _) rfl) pa_nil rfl) (by decide) (by decide) rfl rfl) fun σ H Q ⟨W, en, s, S, SE, q⟩ => ?_
  refine ⟨W, en, s, S, SE, RvQ.imp (RvQ.bnd (r := r en s) (k := pSset m) q) (fun v H1 ⟨W1, d, s1, le, S1, rd, q1⟩ => ?_) fun _ _ _ z => z⟩
  exact sset_main hK S1 rd q1
end Mv
end

section
set_option Elab.async false
set_option linter.all false
set_option maxRecDepth 100000
set_option maxHeartbeats 4000000
/-! LenK: len(set(..)) of tuples of whole numbers. -/
namespace Mv
open PySem PySem.Spec PyProof.Rows L2
theorem nodup_len {α : Type} [DecidableEq α] : ∀ {l m : List α}, l.Nodup → (∀ x ∈ l, x ∈ m) → l.length ≤ m.length
  | [], m, _, _ => Nat.zero_le _
  | x :: l, m, h, i => by
    have h := List.nodup_cons.mp h
    have hx : x ∈ m := i x List.mem_cons_self
    have q := nodup_len (l := l) (m := m.erase x) h.2 fun y hy => (List.mem_erase_of_ne (fun e => h.1 (by rw [← e]; exact hy))).mpr (i y (List.mem_cons_of_mem _ hy))
    have z := List.length_erase_of_mem hx
    have p : 0 < m.length := List.length_pos_of_mem hx
    simp only [List.length_cons]
    omega
theorem leqI_iff : ∀ (a b : List Int), leqI a b = true ↔ a = b
  | [], [] => by simp [leqI]
  | [], _ :: _ => by simp [leqI]
  | _ :: _, [] => by simp [leqI]
  | x :: a, y :: b => by
    have q := leqI_iff a b
    have p := ieqb_iff x y
    show (cond (ieqb x y) (leqI a b) false) = true ↔ _
    cases z : ieqb x y with
    | true => rw [cond_true, q, List.cons.injEq]; exact ⟨fun h => ⟨p.mp z, h⟩, fun h => h.2⟩
    | false => rw [cond_false]; exact ⟨fun h => (by cases h), fun h => (by rw [List.cons.injEq] at h; rw [p.mpr h.1] at z; cases z)⟩
theorem memI_iff (x : List Int) : ∀ l : List (List Int), memI x l = true ↔ x ∈ l
  | [] => by simp [memI]
  | y :: l => by
    have q := memI_iff x l
    have p := leqI_iff x y
    unfold memI
    cases z : leqI x y with
    | true => rw [cond_true]; exact ⟨fun _ => by rw [p.mp z]; exact List.mem_cons_self, fun _ => rfl⟩
    | false => rw [cond_false, q]; exact ⟨fun h => List.mem_cons_of_mem _ h, fun h => by
        rcases List.mem_cons.mp h with h | h
        · rw [p.mpr h] at z; cases z
        · exact h⟩
theorem ddL_ok : ∀ l : List (List Int), (ddL l).Nodup ∧ ∀ x, x ∈ ddL l ↔ x ∈ l
  | [] => ⟨List.nodup_nil, fun x => Iff.rfl⟩
  | y :: l => by
    obtain ⟨h1, h2⟩ := ddL_ok l
    have q := memI_iff y l
    unfold ddL
    cases z : memI y l with
    | true => rw [cond_true]; exact ⟨h1, fun x => ⟨fun h => List.mem_cons_of_mem _ ((h2 x).mp h), fun h => by
        rcases List.mem_cons.mp h with h | h
        · rw [h]; exact (h2 y).mpr (q.mp z)
        · exact (h2 x).mpr h⟩⟩
    | false => rw [cond_false]; exact ⟨List.nodup_cons.mpr ⟨fun h => (by rw [q.mpr ((h2 y).mp h)] at z; cases z), h1⟩, fun x => by rw [List.mem_cons, List.mem_cons, h2 x]⟩
section
variable {X : Cx} {C : Cn} {Wx : WX}
def tLenSetT (K : PySem.W.Frag) (ta : TE) : TE := fun σ H Q => ta σ H fun x H1 => ∃ (l : Addr) (ks : List (Addr × List Int)) (n : Nat), x = V.ref l ∧ (SqL K H1 l (ks.map fun p => V.ref p.1) ∨ SqT K H1 l (ks.map fun p => V.ref p.1)) ∧ (∀ p ∈ ks, SqT K H1 p.1 (p.2.map V.int)) ∧ ks.length < 64 ∧
  (∀ L : List (List Int), L.Nodup → (∀ t ∈ L, t ∈ ks.map (·.2)) → (∀ t ∈ ks.map (·.2), t ∈ L) → L.length = n) ∧ Q (.int n) H1
theorem pe_lenSetT {a : Expr} {ta : TE} {p p2 q pos : Pos} (hc : X.calm = true) (hu : X.A.units + 100 < cLine) (hg : Gl X "len") (hm : X.mg "len" = none) (hg2 : Gl X "set") (hm2 : X.mg "set" = none) (ha : PE X a ta)
    (na : starEach [a] X.env = (false, eval a X.env) :: starEach [] X.env := by rfl) : PE X (.Call (.Name "len" p) [.Call (.Name "set" p2) [a] [] q] [] pos) (tLenSetT X.K ta) := by
  refine ⟨fun pins s σ H Q I h => ?_⟩
  refine Call_ (ld_blt I hg hm PySem.boot_len ?_)
  refine PyProof.Rows.callWith_builtin1 (PyProof.Rows.args_cons ?_ rfl) rfl rfl
  refine Call_ (ld_blt I hg2 hm2 PyProof.Rows.boot_set ?_)
  refine PyProof.Rows.callWith_type1 (PyProof.Rows.args_cons (thn (ha.run pins s σ H _ I h) fun v s1 ⟨x, H1, I1, r1, q1⟩ => PyProof.Rows.args_nil ?_) na) na rfl
  obtain ⟨l, ks, n, rfl, hq, hk, hf, hn, q1⟩ := q1
  cases r1
  have fin : ∀ (h' : Heap) (tk : Nat) L es ep t, SetTR X.prog X.w h' s1.heap.objs.size L es ep t → Got ks ks.length L → (∀ b o, s1.heap.get? b = some o → h'.get? b = some o) →
      wpAny (model X.prog X.w) X.A (call (.builtin "len") [.ref s1.heap.objs.size]) (EP X pins σ Q) X.xe { s1 with heap := h', toks := tk } := fun h' tk L es ep t R g k => by
    have I2 : L2.Inv X pins σ H1 { s1 with heap := h', toks := tk } := I1.kept k
    obtain ⟨o, ho, hex, hd⟩ := R.ob
    have hsz : es.size = L.length := SetTR.size (s := { s1 with heap := h', toks := tk }) R
    have hl : es.size = n := by
      rw [hsz, ← hn (L.map (·.2)) R.nd (fun t ht => ?_) (fun t ht => ?_), List.length_map]
      · obtain ⟨p, hp, e⟩ := List.mem_map.mp ht
        exact List.mem_map.mpr ⟨p, List.mem_of_mem_take (g.sub p hp), e⟩
      · obtain ⟨p, hp, e⟩ := List.mem_map.mp ht
        rw [← e]
        exact g.all p (by rw [List.take_length]; exact hp)
    have hfew := R.few
    exact call_len_set ho hex hd (SetTR.fits (s := { s1 with heap := h', toks := tk }) R) (by omega) ⟨.int n, H1, I2.tok _, ⟨_, by rw [hl]⟩, q1⟩
  rcases hq with hq | hq
  · obtain ⟨its, rv, pl, hz⟩ := I1.list hq
    exact call_set_tups (P := X.prog) (w := X.w) ks (I1.ok.hd hc) pl.isList (by simpa using refs_of_vals rv) (fun p hp => I1.isT (hk p hp)) hf (by show _ + 3 < _; simp only [Around.in1_units] at *; omega) fun h' tk L es ep t R g k => PyProof.Rows.args_nil (fin h' tk L es ep t R g k)
  · obtain ⟨its, rv, pl, hz⟩ := I1.tuple hq
    exact call_set_tupsT (P := X.prog) (w := X.w) ks (I1.ok.hd hc) pl (by simpa using refs_of_vals rv) (fun p hp => I1.isT (hk p hp)) hf (by omega) fun h' tk L es ep t R g k => PyProof.Rows.args_nil (fin h' tk L es ep t R g k)
theorem ok_lset (hK : C.K = X.K) (hc : X.calm = true) (hu : X.A.units + 100 < cLine) {e : Expr} {r : EvT} {p p2 q pos : Pos} (hs : nst e = true) (hg : Gl X (Str.ofString "len")) (hm : X.mg (Str.ofString "len") = none) (hg2 : Gl X (Str.ofString "set")) (hm2 : X.mg (Str.ofString "set") = none) (he : PE X e (tE C Wx r)) :
    PE X (.Call (.Name (Str.ofString "len") p) [.Call (.Name (Str.ofString "set") p2) [e] [] q] [] pos) (tE C Wx (e1 .lset r)) := by
  refine pe_imp (pe_lenSetT hc hu hg hm hg2 hm2 he (star_cons hs _)) fun σ H Q ⟨W, en, s, S, SE, q⟩ => ?_
  refine ⟨W, en, s, S, SE, RvQ.imp (RvQ.bnd (r := r en s) (k := pLset) q) (fun v H1 ⟨W1, d, s1, le, S1, rd, q1⟩ => ?_) fun _ _ _ z => z⟩
  unfold pLset at q1
  split at q1
  · rename_i l hl
    obtain ⟨hlen, q2⟩ := RvQ.cnd q1
    have hlen := (blt_iff _ _).mp hlen
    cases z : allT l with
    | none => rw [z] at q2; exact q2.elim
    | some ts =>
      rw [z] at q2
      have hs := lstv_sqv hl
      obtain ⟨a, vs, ev, hq, rr⟩ := sqv_ok S1 rd hs
      obtain ⟨ks, g1, g2, g3⟩ := allT_ok S1 rr z
      have hks : ks.length < 64 := by
        have := rr.length
        rw [g1, List.length_map] at this
        omega
      subst ev; subst g1
      rw [hK] at hq
      obtain ⟨d1, d2⟩ := ddL_ok ts
      refine ⟨a, ks, (ddL ts).length, rfl, hq, fun p hp => by rw [← hK]; exact (g3 p hp).1, hks, fun L n1 n2 n3 => ?_, ?_⟩
      · rw [← g2] at n2 n3
        exact Nat.le_antisymm (nodup_len n1 fun t ht => (d2 t).mpr (n2 t ht)) (nodup_len d1 fun t ht => n3 t ((d2 t).mp ht))
      · exact RvQ.here S1 (.int _) q2
  · exact q1.elim
end
end Mv
end

section
set_option Elab.async false
set_option linter.all false
set_option maxRecDepth 100000
set_option maxHeartbeats 4000000
/-! DispK: {1: .., 2: ..}.get(x, y), the keys and values written out. -/
namespace Mv
open PySem PySem.Spec PyProof.Rows L2
/-- the same constant: a number, a tuple of numbers -/
def ckI (i : Int) : Expr → Bool
  | .Constant (.int j) _ _ => decide (i = j)
  | _ => false
def ckIs : List D → List Expr → Bool
  | [], es => (match es with | [] => true | _ => false)
  | d :: ds, es => (match d with | .int i => (match es with | e :: es => ckI i e && ckIs ds es | [] => false) | _ => false)
def ckV (d : D) (e : Expr) : Bool := match d with
  | .int i => ckI i e
  | .tup l => (match e with | .Tuple es _ _ => ckIs l es && Nat.ble l.length 1000 | _ => false)
  | _ => false
def ckVs : List D → List Expr → Bool
  | [], es => (match es with | [] => true | _ => false)
  | d :: ds, es => (match es with | e :: es => ckV d e && ckVs ds es | [] => false)
def ckKs : List Int → List (Option Expr) → Bool
  | [], es => (match es with | [] => true | _ => false)
  | i :: is, es => (match es with | some e :: es => ckI i e && ckKs is es | _ => false)
section
variable {X : Cx} {C : Cn} {Wx : WX}
theorem ckI_ok {i : Int} {e : Expr} (h : ckI i e = true) : PE X e (tC (.int i)) ∧ nst e = true := by
  unfold ckI at h
  split at h
  · have h := of_decide_eq_true h; subst h; exact ⟨pe_int, rfl⟩
  · cases h
theorem ckIs_ok : ∀ {l : List D} {es : List Expr}, ckIs l es = true → es.all nst = true ∧ ∃ (t : TA) (vs : List V), PA X es t ∧ vs.length = l.length ∧ (∀ C W, RDs C W l vs) ∧ ∀ σ H (R : List V → Hp → Prop), R vs H → t σ H R
  | [], [], _ => ⟨rfl, tNil, [], pa_nil, rfl, fun _ _ => .nil, fun _ _ _ h => h⟩
  | [], _ :: _, h => by cases h
  | d :: ds, es, h => by
    unfold ckIs at h
    split at h
    · rename_i i
      split at h
      · rename_i e es
        have h := (Bool.and_eq_true _ _).mp h
        obtain ⟨g1, g2⟩ := ckI_ok (X := X) h.1
        obtain ⟨n, t, vs, h1, h2, h3, h4⟩ := ckIs_ok h.2
        refine ⟨by show (nst e && es.all nst) = true; rw [g2, n]; rfl, _, .int i :: vs, pa_cons g1 h1 (star_cons g2 _), by rw [List.length_cons, List.length_cons, h2], fun C W => .cons (.int i) (h3 C W), fun σ H R q => ?_⟩
        exact h4 σ H _ q
      · cases h
    · cases h
/-- a value, read while a new dict stands at p -/
theorem ckV_ok {d : D} {e : Expr} (h : ckV d e = true) : ∃ te : TE, PE X e te ∧ ∀ σ (H0 : Hp) (p : Addr) (o : HO) (Q : VK) (W : Wd) (s : St), SimS C W H0 s → H0 p = none →
    (∀ W' H0' v, W.Le W' → SimS C W' H0' s → H0' p = none → RD C W' d v → Q v (upd H0' p o)) → te σ (upd H0 p o) Q := by
  unfold ckV at h
  split at h
  · rename_i i
    exact ⟨_, (ckI_ok h).1, fun σ H0 p o Q W s S hp q => q W H0 _ (.refl _) S hp (.int i)⟩
  · rename_i l
    split at h
    · rename_i es _ _
      have h := (Bool.and_eq_true _ _).mp h
      have hl := Nat.le_of_ble_eq_true h.2
      obtain ⟨_, t, vs, h1, h2, h3, h4⟩ := ckIs_ok (X := X) h.1
      refine ⟨_, pe_tup h1, fun σ H0 p o Q W s S hp q => h4 σ _ _ ⟨by rw [h2, sizeLine_eq]; omega, fun a ha => ?_⟩⟩
      have hne : a ≠ p := fun z => by rw [z, upd_same] at ha; cases ha
      rw [upd_ne hne] at ha
      obtain ⟨le, S', r⟩ := S.newT ha (h3 C W)
      have q := q _ (upd H0 a (.tup vs)) _ le S' (by rw [upd_ne (Ne.symm hne)]; exact hp) r
      have e : upd (upd H0 p o) a (.tup vs) = upd (upd H0 a (.tup vs)) p o := by
        funext b
        by_cases h1 : b = a
        · subst h1; rw [upd_same, upd_ne hne, upd_same]
        · by_cases h2 : b = p
          · subst h2; rw [upd_ne h1, upd_same, upd_same]
          · rw [upd_ne h1, upd_ne h2, upd_ne h2, upd_ne h1]
      rw [e]; exact q
    · cases h
  · cases h
theorem pairs_ok {pos : Pos} : ∀ {ks : List Int} {vs : List D} {keys : List (Option Expr)} {values : List Expr}, ckKs ks keys = true → ckVs vs values = true → ks.length = vs.length → keys.all (·.isSome) = true ∧ keys.length = values.length ∧ keys.length = ks.length ∧
    ∃ trs : List (TE × TE), PPs X pos keys values trs ∧ ∀ σ (H0 : Hp) (p : Addr) (o : HO) (Q : List (V × V) → Hp → Prop) (W : Wd) (s : St), SimS C W H0 s → H0 p = none →
      (∀ W' H0' us, W.Le W' → SimS C W' H0' s → H0' p = none → RDs C W' vs us → Q ((ks.map V.int).zip us) (upd H0' p o)) → tPairs trs σ (upd H0 p o) Q
  | [], [], [], [], _, _, _ => ⟨rfl, rfl, rfl, [], pps_nil, fun σ H0 p o Q W s S hp q => q W H0 [] (.refl _) S hp .nil⟩
  | [], [], _ :: _, _, h, _, _ => by cases h
  | [], [], [], _ :: _, _, h, _ => by cases h
  | [], _ :: _, _, _, _, _, h => by cases h
  | _ :: _, [], _, _, _, _, h => by cases h
  | _ :: _, _ :: _, [], _, h, _, _ => by cases h
  | _ :: _, _ :: _, none :: _, _, h, _, _ => by cases h
  | _ :: _, _ :: _, some _ :: _, [], _, h, _ => by cases h
  | k :: ks, v :: vs, some ke :: keys, ve :: values, h1, h2, h3 => by
    have h1 := (Bool.and_eq_true _ _).mp (show (ckI k ke && ckKs ks keys) = true from h1)
    have h2 := (Bool.and_eq_true _ _).mp (show (ckV v ve && ckVs vs values) = true from h2)
    obtain ⟨a1, a2, a3, trs, a4, a5⟩ := pairs_ok h1.2 h2.2 (by simpa using h3)
    obtain ⟨te, b1, b2⟩ := ckV_ok (X := X) (C := C) h2.1
    refine ⟨by show (true && keys.all (·.isSome)) = true; rw [a1]; rfl, by rw [List.length_cons, List.length_cons, a2], by rw [List.length_cons, List.length_cons, a3], _, pps_cons (ckI_ok h1.1).1 b1 a4, fun σ H0 p o Q W s S hp q => ?_⟩
    refine b2 σ H0 p o _ W s S hp fun W1 H1 u le1 S1 hp1 r1 => ?_
    refine a5 σ H1 p o _ W1 s S1 hp1 fun W2 H2 us le2 S2 hp2 r2 => ?_
    exact q W2 H2 (u :: us) (le1.trans le2) S2 hp2 (.cons (r1.mono le2) r2)
/-- what stands at a number: the last one of that key -/
theorem dgl_ok {W : Wd} (j : Int) : ∀ {ks : List Int} {vs : List D} {us : List V} {acc : Option D} {kvs : List (Key × V)}, RDs C W vs us → ks.length = vs.length →
    (match acc with | some d => ∃ v, valV kvs (Sum.inl j) = some v ∧ RD C W d v | none => valV kvs (Sum.inl j) = none) →
    (match dgl ks vs j acc with | some d => ∃ v, valV (mergeK kvs ((ks.map Sum.inl).zip us)) (Sum.inl j) = some v ∧ RD C W d v | none => valV (mergeK kvs ((ks.map Sum.inl).zip us)) (Sum.inl j) = none)
  | [], [], [], _, _, _, _, h => h
  | [], _ :: _, _, _, _, _, h, _ => by cases h
  | _ :: _, [], _, _, _, _, h, _ => by cases h
  | k :: ks, v :: vs, u :: us, acc, kvs, .cons r1 r2, h, g => by
    show (match dgl ks vs j (cond (ieqb k j) (some v) acc) with | some d => ∃ w, valV (mergeK (putK kvs (Sum.inl k) u) ((ks.map Sum.inl).zip us)) (Sum.inl j) = some w ∧ RD C W d w | none => valV (mergeK (putK kvs (Sum.inl k) u) ((ks.map Sum.inl).zip us)) (Sum.inl j) = none)
    refine dgl_ok j r2 (by simpa using h) ?_
    have e := valV_put kvs (Sum.inl k) (Sum.inl j) u
    cases z : ieqb k j with
    | true =>
      have z := (ieqb_iff _ _).mp z
      subst z
      rw [if_pos rfl] at e
      exact ⟨u, e, r1⟩
    | false =>
      have z' : ¬ k = j := fun q => by rw [(ieqb_iff _ _).mpr q] at z; cases z
      rw [if_neg (fun q => z' (Sum.inl.inj q).symm)] at e
      cases acc with
      | none => show valV _ _ = none; rw [e]; exact g
      | some d => obtain ⟨w, g1, g2⟩ := g; exact ⟨w, by rw [e]; exact g1, g2⟩
theorem zip_keys : ∀ (ks : List Int) (us : List V), (ks.map V.int).zip us = ((ks.map (Sum.inl (β := Str))).zip us).map fun kv => (kV kv.1, kv.2)
  | [], _ => rfl
  | _ :: _, [] => rfl
  | k :: ks, u :: us => by
    show (V.int k, u) :: (ks.map V.int).zip us = (kV (Sum.inl k), u) :: ((ks.map Sum.inl).zip us).map fun kv => (kV kv.1, kv.2)
    rw [zip_keys ks us]; rfl
theorem ok_dge (hu : X.A.units + 100 < cLine) {ks : List Int} {vs : List D} {keys : List (Option Expr)} {values : List Expr} {dpos apos cpos : Pos} {a b : Expr} {ra rb : EvT} (h1 : ckKs ks keys = true) (h2 : ckVs vs values = true) (h3 : ks.length = vs.length) (h4 : ks ≠ []) (h5 : ks.length ≤ 15)
    (hs : nst a = true) (hs2 : nst b = true) (hline : (apos.endLine == cpos.line) = true) (ha : PE X a (tE C Wx ra)) (hb : PE X b (tE C Wx rb)) :
    PE X (.Call (.Attribute (.Dict keys values dpos) (Str.ofString "get") apos) [a, b] [] cpos) (tE C Wx (en (.dge ks vs) (esC ra (esC rb esN)))) := by
  obtain ⟨a1, a2, a3, trs, a4, a5⟩ := pairs_ok (X := X) (C := C) (pos := dpos) h1 h2 h3
  have m : M2 X (.Dict keys values dpos) (Str.ofString "get") apos a b cpos := ⟨rfl, by rw [star_cons hs, star_cons hs2]; rfl, hline, by rw [star_cons hs, star_cons hs2]; rfl⟩
  refine pe_imp (pe_dget2 (by omega) (pe_disp a4 a1 a2 (fun z => h4 (List.eq_nil_of_length_eq_zero (by rw [← a3, z]; rfl))) (by rw [a3]; exact h5)) ha hb m) fun σ H Q ⟨W, e, s, S, SE, q⟩ => ?_
  intro p hp
  refine a5 σ H p _ _ W s S hp fun W1 H1 us le1 S1 hp1 r1 => ?_
  refine ⟨upd_same, (ks.map Sum.inl).zip us, ?_, ?_, p, rfl, .inl ⟨_, .inl upd_same⟩, ?_⟩
  · exact zip_keys ks us
  · have := r1.length
    rw [List.length_zip, List.length_map]; omega
  · have e2 : upd (upd H1 p (.dK [])) p (.dK (mergeK [] ((ks.map Sum.inl).zip us))) = upd H1 p (.dK (mergeK [] ((ks.map Sum.inl).zip us))) := by
      funext b
      by_cases h : b = p
      · rw [h, upd_same, upd_same]
      · rw [upd_ne h, upd_ne h, upd_ne h]
    rw [e2]
    have S2 := S1.laid hp1 (.dK (mergeK [] ((ks.map Sum.inl).zip us)))
    have le2 := Wd.le_frz (S1.F_none hp1) (.dK (mergeK [] ((ks.map Sum.inl).zip us)))
    have q2 : RvQ C (W1.frz p (.dK (mergeK [] ((ks.map Sum.inl).zip us)))) ((ra e s).bnd fun x s => (rb e s).bnd fun y s => pDge ks vs [x, y] s) Q (fun cls d H' => Wx cls d σ H') := by
      have q := RvQ.mono (r := en (.dge ks vs) (esC ra (esC rb esN)) e s) q (le1.trans le2)
      unfold en esC at q
      cases z : ra e s with
      | ok d s1 =>
        rw [z] at q
        have q : RvQ C (W1.frz p (.dK (mergeK [] ((ks.map Sum.inl).zip us)))) (((rb e s1).bns fun d s => .ok [d] s).bns (fun ds s => .ok (d :: ds) s) |>.bnd (pn (.dge ks vs))) Q (fun cls d H' => Wx cls d σ H') := q
        show RvQ C (W1.frz p (.dK (mergeK [] ((ks.map Sum.inl).zip us)))) ((rb e s1).bnd fun y s => pDge ks vs [d, y] s) Q (fun cls d H' => Wx cls d σ H')
        cases z2 : rb e s1 with
        | ok d2 s2 => rw [z2] at q; exact q
        | exc c p s1 => rw [z2] at q; exact q
        | bad n => rw [z2] at q; exact q
      | exc c p s1 => rw [z] at q; exact q
      | bad n => rw [z] at q; exact q
    refine ⟨_, e, s, S2, SE.mono (le1.trans le2), RvQ.imp (RvQ.bnd q2) (fun x H2 ⟨W2, d, s2, le3, S3, rd, q3⟩ => ⟨W2, e, s2, S3, SE.mono ((le1.trans le2).trans le3), RvQ.imp (RvQ.bnd q3) (fun y H3 ⟨W3, d2, s3, le4, S4, rd2, q4⟩ => ?_) fun _ _ _ z => z⟩) fun _ _ _ z => z⟩
    have hp3 : H3 p = some (.dK (mergeK [] ((ks.map Sum.inl).zip us))) := S4.sub _ _ (le4.F _ _ (le3.F _ _ (show (W1.frz p _).F p = _ from upd_same)))
    cases d with
    | int j =>
      have q4 : RvQ C W3 (.ok ((dgl ks vs j none).getD d2) s3) Q (fun cls d H' => Wx cls d σ H') := q4
      cases rd
      have g := dgl_ok (C := C) (W := W3) j (ks := ks) (vs := vs) (us := us) (acc := none) (kvs := []) ((r1.mono le2).mono le3 |>.mono le4) h3 rfl
      refine ⟨_, .inl ⟨_, Sum.inl j, .inl hp3, rfl, rfl⟩, ?_⟩
      cases z : dgl ks vs j none with
      | none =>
        rw [z] at g q4
        have g : valV (mergeK [] ((ks.map Sum.inl).zip us)) (Sum.inl j) = none := g
        rw [g]
        exact RvQ.here S4 rd2 q4
      | some dd =>
        rw [z] at g q4
        obtain ⟨w, g1, g2⟩ := g
        rw [g1]
        exact RvQ.here S4 g2 q4
    | _ => exact False.elim q4
end
end Mv
end

section
set_option Elab.async false
set_option linter.all false
set_option maxRecDepth 100000
set_option maxHeartbeats 4000000
/-! DspK: {k: v}, the key a tuple: the new dict stands while key and value are made. -/
namespace Mv
open PySem PySem.Spec PyProof.Rows L2
section
variable {X : Cx} {C : Cn} {Wx : WX}
def tDsp (X : Cx) (tk tv : TE) : TE := fun σ H Q => ∀ p, H p = none → tk σ (upd H p (DctO X.w p [])) fun x H1 => tv σ H1 fun y H2 =>
  H2 p = some (DctO X.w p []) ∧ ∃ nk b, x = V.ref b ∧ (∀ pins s, L2.Inv X pins σ H2 s → NKey s.heap nk b) ∧ Q (.ref p) (upd H2 p (DctO X.w p [(nk, b, y)]))
theorem pe_dsp (hu : X.A.units + 100 < cLine) {k v : Expr} {pos : Pos} {tk tv : TE} (hk : PE X k tk) (hv : PE X v tv) : PE X (.Dict [some k] [v] pos) (tDsp X tk tv) := by
  refine ⟨fun pins s σ H Q I q => ?_⟩
  have hn := I.hok.fresh (Nat.le_refl s.heap.objs.size)
  have I1 := I.laid (a := s.heap.objs.size) (o := DctO X.w s.heap.objs.size []) (t' := s.toks) (h' := s.heap.push { cls := .type "dict", data := .dict #[] }) (fun _ _ q => Heap.get?_push_of_some _ q) (Nat.le_refl _)
    (dct_obj ⟨Nat.zero_le _, beq_eq_false_iff_ne.mpr (Ne.symm (Nat.ne_of_lt I.big)), [], .nil, _, #[], 0, Heap.get?_push_size _ rfl, ⟨rfl, rfl, rfl⟩, rfl, rfl, List.nodup_nil⟩)
  have sh := zip_pairTrees [some k] [v] X.env pos rfl rfl
  rw [arm_eval_Dict, sh, dictDisplay_pairs (pairTrees [some k] [v] X.env pos) (fun z => by cases z) (show 1 < 17 by decide)]
  refine wpAny_bind (wpAny_standAt (wpAny_bind (wpAny_subDictH (knd := nestedKind X.prog X.w) (Q := fun d s' => wpAny (model X.prog X.w) X.A (pure (Value.ref d)) (EP X pins σ Q) X.xe s') ?_ (show 1 ≤ 15 by decide) ?_)))
  · show X.A.units + 8 < cLine
    omega
  · refine pairTrees_cons_walk (thn (hk.run pins _ σ _ _ I1 (q _ hn)) fun u s1 ⟨x, H1, I2, rx, q1⟩ => thn (hv.run pins s1 σ H1 _ I2 q1) fun w2 s2 ⟨y, H2, I3, ry, e, nk, b, ex, hkey, q2⟩ => pairTrees_nil_walk ?_)
    subst ex
    cases (show u = Value.ref b from rx)
    have d0 := dct_at I3 e (fun x hx => by cases hx)
    obtain ⟨z, hs, ys, r, d⟩ := d0
    cases r
    have kb := hkey pins s2 I3
    refine ⟨[(nk, b, w2)], ⟨rfl, rfl, kb, True.intro⟩, d, fun h' tk' d' hs' => wpAny_pure ⟨.ref s.heap.objs.size, _, ?_, rfl, q2⟩⟩
    obtain ⟨q', es, ep, hq, h2, h3, h4, _, h5⟩ := d'
    exact d_write I3 (by rw [e]; exact True.intro) hs' ⟨q', hq⟩ (dct_obj ⟨by show 1 ≤ sizeLine; rw [sizeLine_eq]; decide, hs, _, .cons ⟨rfl, rfl, ry⟩ .nil, q', es, ep, hq, h2, h3, h4, h5⟩)
theorem dsp_rv {ra rb : EvT} {e : Env} {s : St} : enD (esC ra (esC rb esN)) e s = ((ra e { nx := s.nx + 1, cs := (s.nx, .dct []) :: s.cs }).bnd fun x s1 => (rb e s1).bnd fun y s2 => pDsp s.nx [x, y] s2) := by
  unfold enD esC
  cases ra e { nx := s.nx + 1, cs := (s.nx, .dct []) :: s.cs } with
  | ok d s1 =>
    show (((rb e s1).bns fun d s => .ok [d] s).bns (fun ds s => .ok (d :: ds) s)).bnd (pDsp s.nx) = ((rb e s1).bnd fun y s2 => pDsp s.nx [d, y] s2)
    cases rb e s1 with
    | ok d2 s2 => rfl
    | exc c p s1 => rfl
    | bad n => rfl
  | exc c p s1 => rfl
  | bad n => rfl
theorem ok_dsp (hw : C.w = X.w) (hu : X.A.units + 100 < cLine) {k v : Expr} {pos : Pos} {ra rb : EvT} (ha : PE X k (tE C Wx ra)) (hb : PE X v (tE C Wx rb)) :
    PE X (.Dict [some k] [v] pos) (tE C Wx (en .dsp (esC ra (esC rb esN)))) := by
  refine pe_imp (pe_dsp hu ha hb) fun σ H Q ⟨W, e, s, S, SE, q⟩ => ?_
  intro p hp
  rw [← hw]
  have q : RvQ C W (enD (esC ra (esC rb esN)) e s) Q (fun cls d H' => Wx cls d σ H') := q
  rw [dsp_rv] at q
  obtain ⟨le1, S1, r1⟩ := S.newO hp (DctO C.w p []) (.dct []) ⟨[], upd_same, .nil⟩
  have q := RvQ.mono q le1
  refine ⟨_, e, _, S1, SE.mono le1, RvQ.imp (RvQ.bnd q) (fun x H2 ⟨W2, d, s2, le3, S3, rd, q3⟩ => ⟨W2, e, s2, S3, SE.mono (le1.trans le3), RvQ.imp (RvQ.bnd q3) (fun y H3 ⟨W3, d2, s3, le4, S4, rd2, q4⟩ => ?_) fun _ _ _ z => z⟩) fun _ _ _ z => z⟩
  have r1 := (r1.mono le3).mono le4
  cases r1 with | loc hρ =>
  change RvQ C W3 (match fnd s3.cs s.nx with | some (.dct kvs) => (match kvs with | [] => cond (kyt d) (.ok (.loc s.nx) { nx := s3.nx, cs := put s3.cs s.nx (.dct (dput [] d d2)) }) (.bad 251) | _ => .bad 252) | _ => .bad 253) Q (fun cls d H' => Wx cls d σ H') at q4
  · split at q4
    · rename_i kvs hf
      split at q4
      · cases hb : kyt d with
        | false => rw [hb] at q4; exact q4.elim
        | true =>
          rw [hb] at q4
          obtain ⟨nk, h1, l, h2⟩ := kyt_tup hb
          subst h2
          obtain ⟨a, xs, g1, g2, g3, g4⟩ := S4.dct hf
          rw [hρ] at g1; cases g1
          cases g4
          have rd' := rd.mono le4
          have rk := rd'
          cases rd' with | tup hf1 hr1 =>
          refine ⟨g3, nk, _, rfl, fun pins s' I => ?_, ?_⟩
          · exact rd_nkey S4.sub I.hok h1 rk
          · have S5 := S4.dset hf hρ (dput_ok h1 rk rd2 .nil)
            exact RvQ.here S5 (.loc hρ) q4
      · exact False.elim q4
    · exact False.elim q4
end
end Mv
end

section
set_option Elab.async false
set_option linter.all false
set_option maxRecDepth 100000
set_option maxHeartbeats 4000000
/-! Lam: sorted(x, key=lambda a: (a[0], -a[1])). -/
namespace Mv
open PySem PySem.Spec PyProof.Rows L2 LamX
section
variable {C : Cn} {W : Wd} {H : Hp} {s : St}
/-- a table grows -/
theorem SimS.tabw (S : SimS C W H s) {P : Addr} {ps ps' : Array Value} (hP : H P = some (.tbl ps)) (hF : W.F P = none) (ok : TriplesOk ps'.toList)
    (hall : ∀ p ∈ C.T, p.2.1 = P → ∀ (pos : Pos) (cv : Value), codeAmong pos ps'.toList = some cv → ∃ c, cv = .ref c ∧ W.F c = some (CodeO c p.2.2)) : SimS C W (upd H P (.tbl ps')) s := by
  refine ⟨fun a u q => ?_, fun n ob q => ?_, S.inj, S.new, fun n c vs q => ?_, S.nd, fun a vs q => ?_, S.hdT, fun p hp => ?_⟩
  · rw [upd_ne (fun e => by rw [e, hF] at q; cases q)]; exact S.sub a u q
  · obtain ⟨a, h1, h2, h3⟩ := S.cel n ob q
    exact ⟨a, h1, h2, h3.same (upd_ne (Ne.symm (h3.tbl hP)))⟩
  · obtain ⟨k, l, a, h1, h2, h3⟩ := S.lock n c vs q
    exact ⟨k, l, a, h1, h2, by rw [upd_ne (fun e => by rw [e, hP] at h3; cases h3)]; exact h3⟩
  · obtain ⟨h1, h2, h3⟩ := S.hd a vs q
    exact ⟨by rw [upd_ne (fun e => S.hdT a vs q ps (by rw [e, hP] at h1; exact (Option.some.inj h1).symm))]; exact h1, h2, h3⟩
  · obtain ⟨g1, qs, g2, g3, g4⟩ := S.tab p hp
    by_cases e : p.2.1 = P
    · exact ⟨g1, ps', by rw [e, upd_same], ok, hall p hp e⟩
    · exact ⟨g1, qs, by rw [upd_ne e]; exact g2, g3, g4⟩
end
section
variable {X : Cx} {pins : List (Addr × Obj)} {σ : L2.St} {H : Hp} {s : Shared} {C : Cn} {W : Wd} {st : St}
/-- the lambda is made -/
theorem lam_make3 {t : Addr × Addr × Str} {params : Arguments} {body : Expr} {scope : Scope} {pos : Pos} {E : Value → Shared → Prop} {Q : Value → Shared → Prop} (I : L2.Inv X pins σ H s) (S : SimS C W H st) (TB : TabB X.base X.mg t.1 t.2.1) (hcode : X.env.code = .ref t.1)
    (ht : t ∈ C.T) (hu : ∀ p ∈ C.T, p.2.1 = t.2.1 → p.2.2 = t.2.2) (hq : t.2.2 = X.env.qual ++ "<lambda>") (hdef : defaultsOf params X.env = ([], [])) (hfree : ∀ y ∈ scope.names, y.2 = .free → ∃ c, X.env.cells.lookup y.1 = some c)
    (h : ∀ (f c' : Addr) (pm ctv : Value) (W1 : Wd) (H1 : Hp) (s' : Shared), L2.Inv X pins σ H1 s' → W.Le W1 → SimS C W1 H1 st →
      s'.heap.get? f = some (PySem.W.kla_obj "<lambda>" (X.env.qual ++ "<lambda>") params body scope (cloFrom X.env.cells scope.names []) pm c' ctv) → H1 c' = some (CodeO c' (X.env.qual ++ "<lambda>")) → Q (.ref f) s') :
    wpAny (model X.prog X.w) X.A (eval (.Lambda params body scope pos) X.env) Q E s := by
  obtain ⟨c, P, q⟩ := t
  simp only at TB hcode hu hq
  subst hq
  obtain ⟨hF, ps, hP, htr, ha⟩ := S.tab _ ht
  simp only at hF hP ha
  refine PySem.W.kla_eval hdef ?_
  have bP : s.heap.BuiltinsAt X.mg P := TB.bm.keeps I.bk
  have hP' : s.heap.get? P = some { cls := .none, data := .fields ps } := I.hok P _ hP
  cases hc : codeAmong pos ps.toList with
  | none =>
    refine PySem.W.kla_makeFunction (mg := X.mg) (c := c) (P := P) (ps := ps) (closure_ok hfree) I.ok.glob (I.mod.glob.keeps I.bk) hcode (TB.code.keeps I.bk) hP' htr hc TB.gP bP fun c' ctv h' tk hx hge hlt hrec htb => ?_
    obtain ⟨c2, oc, vs, tq, e2, hoc, hd, hv⟩ := hrec
    cases e2
    have nC : H c' = none := I.hok.fresh hge
    have I1 := inv_table (t' := tk) (more := #[rawInt pos.line, rawInt pos.col, .ref c']) (h' := h'.push (PySem.W.kla_obj "<lambda>" (X.env.qual ++ "<lambda>") params body scope (cloFrom X.env.cells scope.names []) ((X.mg "__name__").getD .none) c' ctv)) I hP
      (fun b o hb e => Heap.get?_push_of_some _ (hx b o hb e)) (Heap.get?_push_of_some _ htb) hge ⟨oc, vs, tq, Heap.get?_push_of_some _ hoc, hd, hv⟩
    have nPc : P ≠ c' := ne_of_none hP nC
    have le := Wd.le_frz (S.F_none nC) (CodeO c' (X.env.qual ++ "<lambda>"))
    have S1 := S.laid nC (CodeO c' (X.env.qual ++ "<lambda>"))
    have eL : (ps ++ #[rawInt pos.line, rawInt pos.col, .ref c']).toList = ps.toList ++ [rawInt pos.line, rawInt pos.col, .ref c'] := by simp
    have S2 := S1.tabw (P := P) (ps := ps) (ps' := ps ++ #[rawInt pos.line, rawInt pos.col, .ref c']) (by rw [upd_ne nPc]; exact hP) (by show upd W.F c' _ P = none; rw [upd_ne nPc]; exact hF) (by rw [eL]; exact PySem.TriplesOk_snoc _ _ _ _ htr) fun p hp e p' cv hcv => by
      rw [eL] at hcv
      rw [hu p hp e]
      rcases among_app _ htr hcv with z | z
      · obtain ⟨c0, e1, e2⟩ := ha p' cv z
        exact ⟨c0, e1, le.F _ _ e2⟩
      · exact ⟨c', z, upd_same⟩
    have eH : upd (upd H c' (CodeO c' (X.env.qual ++ "<lambda>"))) P (.tbl (ps ++ #[rawInt pos.line, rawInt pos.col, .ref c'])) = upd (upd H P (.tbl (ps ++ #[rawInt pos.line, rawInt pos.col, .ref c']))) c' (CodeO c' (X.env.qual ++ "<lambda>")) := by
      funext b
      by_cases h1 : b = P
      · rw [h1, upd_same, upd_ne nPc, upd_same]
      · rw [upd_ne h1]
        by_cases h2 : b = c'
        · rw [h2, upd_same, upd_same]
        · rw [upd_ne h2, upd_ne h2, upd_ne h1]
    rw [eH] at S2
    exact h h'.objs.size c' ((X.mg "__name__").getD .none) ctv _ _ _ I1 le S2 (Heap.get?_push_size _ rfl) upd_same
  | some cv =>
    obtain ⟨c', e, hco⟩ := ha pos cv hc
    subst e
    refine PySem.W.kla_makeFunctionHit (mg := X.mg) (c := c) (P := P) (ps := ps) (closure_ok hfree) I.ok.glob (I.mod.glob.keeps I.bk) hcode (TB.code.keeps I.bk) hP' htr hc bP fun ctv h' tk hx hsz => ?_
    have I1 : L2.Inv X pins σ H { s with heap := h'.push (PySem.W.kla_obj "<lambda>" (X.env.qual ++ "<lambda>") params body scope (cloFrom X.env.cells scope.names []) ((X.mg "__name__").getD .none) c' ctv), toks := tk } := I.kept fun b o e => Heap.get?_push_of_some _ (hx b o e)
    exact h h'.objs.size c' ((X.mg "__name__").getD .none) ctv W H _ I1 (.refl W) S (Heap.get?_push_size _ rfl) (S.sub _ _ hco)
end
/-! ### its call -/
section
variable {prog : Program} {w : World} {A : Around} {E : Value → Shared → Prop}
theorem sub_name {env : PySem.Env} {x : Str} {p1 p2 p3 : Pos} {k : Nat} {i : Int} {t : Addr} {its : Array Value} {v : Value} {m : Str → Option Value} {s : Shared} {Q : Value → Shared → Prop} (hk : env.scope.kind = .function) (hl : env.kindOf x = some .local) (hd : (x == ("__debug__" : Str)) = false)
    (hn : s.heap.Ns env.locals m) (hm : m x = some (.ref t)) (ht : IsTup s.heap t its) (hlo : 0 ≤ i) (hhi : i < 2 ^ 63) (hi : i.toNat < its.size) (hv : its[i.toNat]? = some v) (h : ∀ tk, Q v { s with toks := tk }) :
    wpAny (model prog w) A (eval (.Subscript (.Name x p1) (.Constant (.int i) k p2) p3) env) Q E s := by
  refine Subscript_ (wpAny_Name (wpAny_loadName_local hk hl hn hm ?_) hd)
  refine lit_int _ fun z tk hz => ?_
  obtain ⟨u, rfl⟩ : ∃ u, z = .int i u := by cases hz s.heap; exact ⟨_, rfl⟩
  exact item_tuple ht (by omega) hhi (seqIndex_of hlo (by omega)) hv (h _)
theorem lam_bind {q x : Str} {ap : Pos} {v : Value} {body : Expr} {scope : Scope} {cl : List (Str × Addr)} {pm cd ctv : Value} :
    bindArgs (PySem.W.kla_fn "<lambda>" q { posonlyargs := [], args := [{ arg := x, annotation := none, pos := ap }], vararg := none, kwonlyargs := [], kw_defaults := [], kwarg := none, defaults := [] } body scope cl pm cd ctv) { pos := [v], kw := [] } = pure [(x, v)] := by
  have e : seqItems? Value.none = pure none := rfl
  unfold bindArgs
  simp [e]
/-- the lambda called: a pair's first number, its second one turned round -/
theorem lam_turn {f c' t : Addr} {q x : Str} {ap p1 p2 p3 p4 p5 p6 p7 p8 : Pos} {k1 k2 k3 : Nat} {scope : Scope} {cl : List (Str × Addr)} {pm ctv : Value} {its : Array Value} {a b : Int} {ta tb : Tok} {s : Shared}
    (hroom : A.depth < recursionLimit) (hlim : s.heap.NoLimit) (hf : s.heap.get? f = some (PySem.W.kla_obj "<lambda>" q { posonlyargs := [], args := [{ arg := x, annotation := none, pos := ap }], vararg := none, kwonlyargs := [], kw_defaults := [], kwarg := none, defaults := [] }
      (.Tuple [.Subscript (.Name x p1) (.Constant (.int 0) k1 p2) p3, .UnaryOp .USub (.Subscript (.Name x p4) (.Constant (.int 1) k2 p5) p6) p7] k3 p8) scope cl pm c' ctv)) (hcd : s.heap.CodeRec (.ref c') q)
    (hk : scope.kind = .function) (hco : scope.isCoroutine = false) (hgen : scope.isGenerator = false) (hcell : ∀ y ∈ scope.names, y.2 ≠ .cell) (hx : scope.names.lookup x = some .local) (hd : (x == ("__debug__" : Str)) = false)
    (ht : IsTup s.heap t its) (h0 : its[0]? = some (.int a ta)) (h1 : its[1]? = some (.int b tb)) :
    wpAny (model prog w) A (call (.ref f) [.ref t]) (PySem.W.KeyPure (.tuple [.int a, .int (-b)]) s) (fun _ _ => False) s := by
  have l0 : (0 : Int).toNat < its.size := (Array.getElem?_eq_some_iff.mp h0).1
  have l1 : (1 : Int).toNat < its.size := (Array.getElem?_eq_some_iff.mp h1).1
  refine wpAny_call ?_
  refine PySem.W.kla_callFunE hroom hf rfl hco hgen rfl hcd ?_
  rw [show bindArgs (PySem.W.kla_fn "<lambda>" q { posonlyargs := [], args := [{ arg := x, annotation := none, pos := ap }], vararg := none, kwonlyargs := [], kw_defaults := [], kwarg := none, defaults := [] } (.Tuple [.Subscript (.Name x p1) (.Constant (.int 0) k1 p2) p3, .UnaryOp .USub (.Subscript (.Name x p4) (.Constant (.int 1) k2 p5) p6) p7] k3 p8) scope cl pm (.ref c') ctv) { pos := [.ref t], kw := [] } = pure [(x, .ref t)] from lam_bind ..]
  refine wpAny_pure (wpAny_newFunctionEnv hcell (fun y hy => by simp at hy; rw [hy]; exact hx) (fun h₁ hns hsb => ⟨hlim.fresh _ hsb, ?_⟩) hk)
  show codeAny _ _ (.expr _ (PySem.W.envX q scope s.heap.objs.size f (.ref c') cl)) _ _
  have kp : ∀ b o, s.heap.get? b = some o → h₁.get? b = some o := fun b o e => hsb.extBut b o (Nat.ne_of_lt (Heap.lt_size e)) (Heap.get?_push_of_some _ e)
  have ht1 : IsTup h₁ t its := ht.keeps kp
  refine PySem.W.kla_codeExpr ?_
  refine wpAny_Tuple (Calls.spliced_cons (sub_name hk hx hd hns (by simp) ht1 (by decide) (by decide) l0 h0 fun tk => ?_))
  refine Calls.spliced_cons (wpAny_UnaryOp (sub_name hk hx hd hns (by simp) ht1 (by decide) (by decide) l1 h1 fun tk2 => ?_))
  refine P.neg_int ?_
  refine Calls.spliced_nil ⟨by rw [sizeLine_eq]; simp, ?_⟩
  exact ⟨_, _, rfl, fun b o e => Heap.get?_push_of_some _ (kp b o e), .tuple (Heap.get?_push_size _ rfl) rfl rfl (.cons (.int _ _) (.cons (.int _ _) .nil))⟩
end
/-! ### sorted by this key -/
/-- what such a lambda is -/
structure LamOk (params : Arguments) (body : Expr) (scope : Scope) : Prop where
  ex : ∃ (x : Str) (ap p1 p2 p3 p4 p5 p6 p7 p8 : Pos) (k1 k2 k3 : Nat), params = { posonlyargs := [], args := [{ arg := x, annotation := none, pos := ap }], vararg := none, kwonlyargs := [], kw_defaults := [], kwarg := none, defaults := [] } ∧
    body = .Tuple [.Subscript (.Name x p1) (.Constant (.int 0) k1 p2) p3, .UnaryOp .USub (.Subscript (.Name x p4) (.Constant (.int 1) k2 p5) p6) p7] k3 p8 ∧ scope.names.lookup x = some .local ∧ (x == ("__debug__" : Str)) = false
  kind : scope.kind = .function
  co : scope.isCoroutine = false
  gen : scope.isGenerator = false
  cell : ∀ y ∈ scope.names, y.2 ≠ .cell ∧ y.2 ≠ .free
/-- the def's table -/
structure TabOk (X : Cx) (C : Cn) (t : Addr × Addr × Str) : Prop where
  mem : t ∈ C.T
  one : ∀ p ∈ C.T, p.2.1 = t.2.1 → p.2.2 = t.2.2
  code : X.env.code = .ref t.1
  name : t.2.2 = X.env.qual ++ "<lambda>"
  tb : TabB X.base X.mg t.1 t.2.1
end Mv
end

section
set_option Elab.async false
set_option linter.all false
set_option maxRecDepth 100000
set_option maxHeartbeats 4000000
/-! SrtK: sorted, min, max of what is data. -/
namespace Mv
open PySem PySem.Spec PyProof.Rows L2
theorem dvs_map : ∀ l : List D, dvs l = l.map dv
  | [] => rfl
  | d :: r => by show dv d :: dvs r = dv d :: r.map dv; rw [dvs_map r]
theorem shps_each : ∀ {n : Nat} {l : List D}, shps (n + 1) l = true → ∀ d ∈ l, shp n d = true
  | _, [], _, d, h => by cases h
  | n, a :: r, h, d, hd => by
    have h := cond_eq_true (by simpa [shps] using h)
    rcases List.mem_cons.mp hd with e | e
    · rw [e]; exact h.1
    · exact shps_each h.2 d e
theorem homI_alk : ∀ (n : Nat) (a b : D), homI n a = true → homI n b = true → alk a b = true
  | 0, a, b, h1, h2 => by
    cases a with
    | int i => cases b with
      | int j => rfl
      | _ => exact absurd (show false = true from h2) Bool.false_ne_true
    | _ => exact absurd (show false = true from h1) Bool.false_ne_true
  | n + 1, a, b, h1, h2 => by
    cases a with
    | tup x => cases b with
      | tup y =>
        have h1 : x.all (homI n) = true := h1
        have h2 : y.all (homI n) = true := h2
        show alks x y = true
        induction x generalizing y with
        | nil => simp [alks]
        | cons a x ih => cases y with
          | nil => simp [alks]
          | cons b y =>
            simp only [List.all_cons, Bool.and_eq_true] at h1 h2
            simp only [alks, homI_alk n a b h1.1 h2.1, cond_true]
            exact ih (show x.all (homI n) = true from h1.2) y h2.2 h1.2 h2.2
      | _ => exact absurd (show false = true from h2) Bool.false_ne_true
    | _ => exact absurd (show false = true from h1) Bool.false_ne_true
theorem alkA_ok {l : List D} (h : alkA l = true) : ∀ a ∈ l, ∀ b ∈ l, alk a b = true := by
  have hom : ∀ n, l.all (homI n) = true → ∀ a ∈ l, ∀ b ∈ l, alk a b = true := fun n h a ha b hb => homI_alk n a b (List.all_eq_true.mp h a ha) (List.all_eq_true.mp h b hb)
  unfold alkA at h
  simp only [Bool.or_eq_true] at h
  rcases h with (((h | h) | h) | h) | h
  · exact hom 0 h
  · exact hom 1 h
  · exact hom 2 h
  · exact hom 3 h
  · exact fun a ha b hb => List.all_eq_true.mp (List.all_eq_true.mp h a ha) b hb
theorem alkA_data {l : List D} (h : alkA l = true) : W.AllAlike (l.map dv) ∧ ∀ d ∈ l, dv d ≠ .none := by
  have h := alkA_ok h
  refine ⟨fun d hd d' hd' => ?_, fun d hd => (alk_ok d d (h d hd d hd)).2⟩
  obtain ⟨a, ha, rfl⟩ := List.mem_map.mp hd
  obtain ⟨b, hb, rfl⟩ := List.mem_map.mp hd'
  exact (alk_ok a b (h a ha b hb)).1
theorem srtB_ok {l : List D} (h : srtB l = true) : l.length ≤ sizeLine ∧ shps 60 l = true ∧ alkA l = true ∧ (W.Sortable (l.map dv) ∨ l.length ≤ 1) := by
  unfold srtB at h
  simp only [Bool.and_eq_true, Bool.or_eq_true] at h
  obtain ⟨⟨⟨h1, h2⟩, h3⟩, h4⟩ := h
  refine ⟨ble16 h1, h2, h3, ?_⟩
  rcases h4 with (h4 | h4) | h4
  rotate_right
  · exact .inr (Nat.le_of_ble_eq_true h4)
  · refine .inl (.inl fun d hd => ?_)
    obtain ⟨a, ha, rfl⟩ := List.mem_map.mp hd
    have := List.all_eq_true.mp h4 a ha
    unfold neTup at this
    split at this
    · rename_i x r
      exact ⟨dv x, dvs r, rfl⟩
    · cases this
  · refine .inl (.inr fun d hd => ?_)
    obtain ⟨a, ha, rfl⟩ := List.mem_map.mp hd
    have h5 := List.all_eq_true.mp h4 a ha
    have h6 := alkA_ok h3 a ha a ha
    refine ⟨(alk_ok a a h6).2, fun xs => ?_⟩
    cases a <;> simp_all [alk, noTup, dv]
theorem sort_dlt {l : List D} (h1 : shps 60 l = true) (h2 : alkA l = true) : l.mergeSort (PySem.W.dataLe false dv) = msrt (fun a b => !(dlt b a)) l.length l := by
  rw [SQ.msrt_len _ _ _ (Nat.le_refl _)]
  refine W.sort_congr fun a ha b hb => ?_
  rw [W.dataLe_eq]
  show (!W.dataLt (dv b) (dv a)) = _
  rw [dlt_ok 59 59 b a (shps_each h1 b hb) (shps_each h1 a ha) (alkA_ok h2 b hb a ha)]
section
variable {C : Cn} {W : Wd}
/-- items beside the data that they are -/
def RV (C : Cn) (W : Wd) (u : Value) (d : D) : Prop := ∃ v, L2.RelV v u ∧ RD C W d v
theorem each_rv : ∀ {ds : List D} {vs : List V} {us : List Value}, RDs C W ds vs → Vals vs us → PySem.W.EachIs (RV C W) us ds
  | _, _, _, .nil, .nil => .nil
  | _, _, _, .cons h r, .cons q t => .cons ⟨_, q, h⟩ (each_rv r t)
theorem rv_each : ∀ {us : List Value} {ds : List D}, PySem.W.EachIs (RV C W) us ds → ∃ vs, RDs C W ds vs ∧ Vals vs us
  | _, _, .nil => ⟨[], .nil, .nil⟩
  | _, _, .cons ⟨v, q, h⟩ t => let ⟨vs, r, z⟩ := rv_each t; ⟨v :: vs, .cons h r, .cons q z⟩
end
section
variable {X : Cx} {C : Cn} {Wx : WX}
/-- a list's or tuple's items -/
theorem holds_of {pins : List (Addr × Obj)} {σ : L2.St} {H : Hp} {t : Shared} {a : Addr} {vs : List V} (I : L2.Inv X pins σ H t) (h : SqL X.K H a vs ∨ SqT X.K H a vs) : ∃ its, Vals vs its ∧ SQ.Holds t.heap a its ∧ vs.length ≤ sizeLine := by
  rcases h with h | h
  · obtain ⟨its, rv, pl, hz⟩ := I.list h
    exact ⟨its, rv, .inl pl.isList, hz⟩
  · obtain ⟨its, rv, pl, hz⟩ := I.tuple h
    exact ⟨its, rv, .inr pl, hz⟩
theorem reads_of {pins : List (Addr × Obj)} {σ : L2.St} {H : Hp} {t : Shared} {W : Wd} {s : St} (hK : C.K = X.K) (I : L2.Inv X pins σ H t) (S : SimS C W H s) : ∀ {ds : List D} {vs : List V} {us : List Value}, shps 60 ds = true → RDs C W ds vs → Vals vs us → PySem.W.EachIs (fun u d => ∃ as, Reads t.heap u (dv d) as) us ds
  | _, _, _, _, .nil, .nil => .nil
  | _, _, _, h, .cons q r, .cons z y => by
    have h := cond_eq_true (by simpa [shps] using h)
    refine .cons ?_ (reads_of hK I S h.2 r y)
    have := RD.dp (n := 59) S.sub h.1 q
    rw [hK] at this
    exact Dp.reads I _ _ _ this z
theorem rks_rds {W : Wd} : ∀ {kvs : List (D × D)} {zs : List NRow}, RKs C W kvs zs → RDs C W (kvs.map fun z => z.1) (zs.map fun x => L2.V.ref x.2.1)
  | _, _, .nil => .nil
  | _, _, .cons h t => .cons h.2.1 (rks_rds t)
theorem ok_srt (hK : C.K = X.K) (hw : C.w = X.w) (hc : X.calm = true) (hu : X.A.units + 100 < cLine) (m : Bool) : CallR X (.builtin "sorted") (rC1 C (pSrt m)) := by
  intro pins t σ H xs us Q I V ⟨x, e, W, d, s, E, S, hx, h⟩
  subst e
  unfold pSrt at h
  split at h
  · rename_i l e
    unfold srtR at h
    obtain ⟨hb, h⟩ := RvQ.cnd h
    obtain ⟨b1, b2, b3, b4⟩ := srtB_ok hb
    obtain ⟨a, vs, q, hl, r⟩ := sqv_ok S hx (lstv_sqv e)
    subst q
    rw [hK] at hl
    obtain ⟨its, rv, hh, hz⟩ := holds_of I hl
    rw [Vals.ref1 V]
    refine SQ.sorted_data (R := RV C W) (enc := dv) hh (each_rv r rv) (reads_of hK I S b2 r rv) (alkA_data b3).1 b4 b1 (fun b hb' => ?_) fun out ho eo => ?_
    · have := (shp_plain 59 b (shps_each b2 b hb')).2
      omega
    · rw [sort_dlt b2 b3] at eo
      obtain ⟨ws, r2, z2⟩ := rv_each eo
      obtain ⟨ep, he'⟩ := PyProof.Rows.sortedAll_at t.heap its out.toArray
      have hn : H (t.heap.objs.size + 1) = none := I.hok.fresh (Nat.le_succ _)
      obtain ⟨g1, g2⟩ := newL_ok S hn r2 h
      exact ⟨.ref _, upd H (t.heap.objs.size + 1) (.lst ws), I.laid (t' := t.toks) (fun _ _ => PyProof.Rows.sortedAll_old) (Nat.le_succ _) ⟨g1, out, ep, z2, he'⟩, rfl, g2⟩
  · split at h
    · rename_i kvs e
      unfold srtR at h
      obtain ⟨hb, h⟩ := RvQ.cnd h
      obtain ⟨b1, b2, b3, b4⟩ := srtB_ok hb
      obtain ⟨n, a, zs, g1, g2, g3, g4, g5, g6⟩ := dctv_ok S hx e
      subst g3
      rw [hw] at g5
      rw [Vals.ref1 V]
      have rk := rks_rds g6
      obtain ⟨zz, hs, ks, pr, o, es, ep, ho, hxx, hdt, he, hn⟩ := dct_get I g5
      have l1 : es.size = ks.length := by rw [← Array.length_toList, he]; simp [entsN]
      have l2 : zs.length = ks.length := Paired.length pr
      have ex := drel_keys pr
      refine SQ.sorted_src (R := RV C W) (enc := dv) (bs := kvs.map fun z => z.1) (kdl_raw hs hxx hdt) (I.ok.hd hc) ho (by have := rk.length; simp only [List.length_map] at this ⊢; omega) b1 (fun vs hvl hvP => ?_) (alkA_data b3).1 (b4.imp id fun z => z) (fun b hb' => ?_) fun p h' tk out c kp hge hD hol eo => ?_
      · have ea : vs = (ks.map fun x => x.2.1).map Value.ref := by
          rw [List.map_map]
          apply List.ext_getElem?
          intro j
          rw [List.getElem?_map]
          cases hj : vs[j]? with
          | none =>
            have h1 := List.getElem?_eq_none_iff.mp hj
            rw [List.getElem?_eq_none (by omega)]
            rfl
          | some v =>
            obtain ⟨en, hen, hv⟩ := hvP j v hj
            have qe : es[j]? = (ks[j]?).map fun x => (⟨x.1.hash X.w, .ref x.2.1, x.2.2⟩ : DictEntry) := by
              rw [← Array.getElem?_toList, he, entsN, List.getElem?_map]
            rw [hen] at qe
            cases hb : ks[j]? with
            | none => rw [hb] at qe; cases qe
            | some b =>
              rw [hb] at qe
              have e2 := Option.some.inj qe
              rw [hv, e2]; rfl
        have rv : Vals (zs.map fun x => L2.V.ref x.2.1) vs := by
          have : Vals ((ks.map fun x => x.2.1).map L2.V.ref) vs := by rw [ea]; exact vals_refs _
          rw [ex]
          exact this
        exact ⟨each_rv rk rv, reads_of hK I S b2 rk rv⟩
      · have := (shp_plain 59 b (shps_each b2 b hb')).2
        omega
      · rw [sort_dlt b2 b3] at eo
        obtain ⟨ws, r2, z2⟩ := rv_each eo
        have hn : H p = none := I.hok.fresh hge
        obtain ⟨y1, y2⟩ := newL_ok S hn r2 h
        exact ⟨.ref p, upd H p (.lst ws), I.laid (t' := tk) kp hge ⟨y1, out, c, z2, hD⟩, rfl, y2⟩
    · exact h.elim
end
/-! ### the least one, the greatest one -/
mutual
theorem dv_inj : ∀ a b : D, alk a a = true → alk b b = true → dv a = dv b → a = b
  | .int i, b, _, h2, e => by cases b <;> simp_all [alk, dv]
  | .str l, b, _, h2, e => by cases b <;> simp_all [alk, dv]
  | .tup l, b, h1, h2, e => by
    cases b <;> simp_all [alk, dv]
    exact dvs_inj _ _ h1 h2 e
  | .lst l, b, h1, h2, e => by
    cases b <;> simp_all [alk, dv]
    exact dvs_inj _ _ h1 h2 e
  | .non, _, h, _, _ => by simp [alk] at h
  | .bl _, _, h, _, _ => by simp [alk] at h
  | .tpn _, _, h, _, _ => by simp [alk] at h
  | .loc _, _, h, _, _ => by simp [alk] at h
  | .fn _, _, h, _, _ => by simp [alk] at h
  | .ty _, _, h, _, _ => by simp [alk] at h
  | .exc _ _, _, h, _, _ => by simp [alk] at h
  | .scr _, _, h, _, _ => by simp [alk] at h
  | .rng _ _, _, h, _, _ => by simp [alk] at h
theorem dvs_inj : ∀ a b : List D, alks a a = true → alks b b = true → dvs a = dvs b → a = b
  | [], [], _, _, _ => rfl
  | [], _ :: _, _, _, e => by simp [dvs] at e
  | _ :: _, [], _, _, e => by simp [dvs] at e
  | a :: r, b :: t, h1, h2, e => by
    have h1 := cond_eq_true (by simpa [alks] using h1)
    have h2 := cond_eq_true (by simpa [alks] using h2)
    simp only [dvs, List.cons.injEq] at e
    rw [dv_inj a b h1.1 h2.1 e.1, dvs_inj r t h1.2 h2.2 e.2]
end
theorem minDD_eq : ∀ (r : List D) (a : D) (l : List D), shps 60 l = true → alkA l = true → a ∈ l → (∀ d ∈ r, d ∈ l) → dv (minDD a r) = W.minD (dv a) (r.map dv) ∧ minDD a r ∈ l
  | [], a, l, _, _, ha, _ => ⟨rfl, ha⟩
  | y :: r, a, l, h1, h2, ha, hr => by
    have hy := hr y List.mem_cons_self
    have e : dlt y a = W.dataLt (dv y) (dv a) := dlt_ok 59 59 y a (shps_each h1 y hy) (shps_each h1 a ha) (alkA_ok h2 y hy a ha)
    show dv (minDD (cond (dlt y a) y a) r) = ((dv y :: r.map dv).foldl (fun a y => if W.dataLt y a then y else a) (dv a)) ∧ _
    rw [List.foldl_cons, ← e]
    have hs : minDD a (y :: r) = minDD (cond (dlt y a) y a) r := rfl
    rw [hs]
    cases q : dlt y a with
    | true => exact minDD_eq r y l h1 h2 hy fun d hd => hr d (List.mem_cons_of_mem _ hd)
    | false =>
      rw [if_neg Bool.false_ne_true]
      exact minDD_eq r a l h1 h2 ha fun d hd => hr d (List.mem_cons_of_mem _ hd)
theorem maxDD_eq : ∀ (r : List D) (a : D) (l : List D), shps 60 l = true → alkA l = true → a ∈ l → (∀ d ∈ r, d ∈ l) → dv (maxDD a r) = W.maxD (dv a) (r.map dv) ∧ maxDD a r ∈ l
  | [], a, l, _, _, ha, _ => ⟨rfl, ha⟩
  | y :: r, a, l, h1, h2, ha, hr => by
    have hy := hr y List.mem_cons_self
    have e : dlt a y = W.dataLt (dv a) (dv y) := dlt_ok 59 59 a y (shps_each h1 a ha) (shps_each h1 y hy) (alkA_ok h2 a ha y hy)
    show dv (maxDD (cond (dlt a y) y a) r) = ((dv y :: r.map dv).foldl (fun a y => if W.dataLt a y then y else a) (dv a)) ∧ _
    rw [List.foldl_cons, ← e]
    have hs : maxDD a (y :: r) = maxDD (cond (dlt a y) y a) r := rfl
    rw [hs]
    cases q : dlt a y with
    | true => exact maxDD_eq r y l h1 h2 hy fun d hd => hr d (List.mem_cons_of_mem _ hd)
    | false =>
      rw [if_neg Bool.false_ne_true]
      exact maxDD_eq r a l h1 h2 ha fun d hd => hr d (List.mem_cons_of_mem _ hd)
theorem each_readsAll : ∀ {h : Heap} {us : List Value} {ds : List D}, PySem.W.EachIs (fun u d => ∃ as, Reads h u (dv d) as) us ds → ∃ as, ReadsAll h us (ds.map dv) as
  | _, _, _, .nil => ⟨[], .nil⟩
  | _, _, _, .cons ⟨as, h1⟩ t => by
    obtain ⟨bs, h2⟩ := each_readsAll t
    exact ⟨as ++ bs, .cons h1 h2⟩
theorem each_at {α β : Type} {R : α → β → Prop} : ∀ {us : List α} {ds : List β}, PySem.W.EachIs R us ds → ∀ {i : Nat} {u : α}, us[i]? = some u → ∃ d, d ∈ ds ∧ R u d
  | _, _, .nil, i, u, h => by simp at h
  | _, _, .cons q t, 0, u, h => by simp at h; subst h; exact ⟨_, List.mem_cons_self, q⟩
  | _, _, .cons q t, i + 1, u, h => let ⟨d, h1, h2⟩ := each_at t (i := i) (by simpa using h); ⟨d, List.mem_cons_of_mem _ h1, h2⟩
theorem each_and {α β : Type} {R R' : α → β → Prop} : ∀ {us : List α} {ds : List β}, PySem.W.EachIs R us ds → PySem.W.EachIs R' us ds → PySem.W.EachIs (fun a b => R a b ∧ R' a b) us ds
  | _, _, .nil, .nil => .nil
  | _, _, .cons h t, .cons h' t' => .cons ⟨h, h'⟩ (each_and t t')
theorem depthAll_le {l : List D} (h : shps 60 l = true) : PyData.depthAll (l.map dv) ≤ 60 := by
  have := (shps_plain 60 l h).2
  rw [dvs_map] at this
  exact this
section
variable {X : Cx} {C : Cn} {Wx : WX}
theorem best_of {pins : List (Addr × Obj)} {σ : L2.St} {H : Hp} {t : Shared} {W : Wd} {s : St} {Q : VK} {E : XK} (hK : C.K = X.K) (I : L2.Inv X pins σ H t) (S : SimS C W H s) {ds : List D} {vs : List V} {its : List Value} (h1 : shps 60 ds = true) (h2 : alkA ds = true) (r : RDs C W ds vs) (rv : Vals vs its) {d : D} (hd : d ∈ ds)
    (q : RvQ C W (.ok d s) Q E) {i : Nat} {v : Value} {h' : Heap} {tk : Nat} {bs : List Addr} (hv : its[i]? = some v) (rd : Reads h' v (dv d) bs) (kp : ∀ b o, t.heap.get? b = some o → h'.get? b = some o) : EP X pins σ Q v { t with heap := h', toks := tk } := by
  obtain ⟨e, he, ⟨vv, z1, z2⟩, as, z3⟩ := each_at (each_and (each_rv r rv) (reads_of hK I S h1 r rv)) hv
  have z4 := PyProof.Rows.Reads.keeps kp z3
  have hp := (shp_plain 59 e (shps_each h1 e he)).1
  have e1 : dv e = dv d := by
    have a := SeqAt.readOf_plain hp z4
    have b := SeqAt.readOf_plain (shp_plain 59 d (shps_each h1 d hd)).1 rd
    exact a.symm.trans b
  have := dv_inj e d (alkA_ok h2 e he e he) (alkA_ok h2 d hd d hd) e1
  subst this
  exact ⟨vv, H, I.kept kp, z1, RvQ.here S z2 q⟩
theorem ok_min1 (hK : C.K = X.K) (hc : X.calm = true) (hu : X.A.units + 100 < cLine) : CallR X (.builtin "min") (rC1 C pMin1) := by
  intro pins t σ H xs us Q I V ⟨x, e, W, d, s, E, S, hx, h⟩
  subst e
  unfold pMin1 at h
  split at h
  · rename_i a r e
    obtain ⟨hb, h⟩ := RvQ.cnd h
    obtain ⟨b1, b2⟩ := (Bool.and_eq_true _ _).mp hb
    obtain ⟨p, vs, q, hl, rd⟩ := sqv_ok S hx (lstv_sqv e)
    subst q
    rw [hK] at hl
    rw [Vals.ref1 V]
    obtain ⟨g1, g2⟩ := minDD_eq r a (a :: r) b1 b2 List.mem_cons_self fun d hd => List.mem_cons_of_mem _ hd
    have al : PySem.W.AlikeAll (dv a :: r.map dv) := ⟨(alkA_data b2).1, fun x hx' => (by obtain ⟨y, hy, rfl⟩ := List.mem_map.mp (show x ∈ (a :: r).map dv from hx'); exact (alkA_data b2).2 y hy)⟩
    have hd : X.A.units + 1 + PyData.depthAll (dv a :: r.map dv) < cLine := by
      have : PyData.depthAll ((a :: r).map dv) ≤ 60 := depthAll_le b1
      have : PyData.depthAll (dv a :: r.map dv) ≤ 60 := this
      omega
    rcases hl with hl | hl
    · obtain ⟨its, rv, pl, hz⟩ := I.list hl
      obtain ⟨as, ra⟩ := each_readsAll (reads_of hK I S b1 rd rv)
      exact PySem.W.min_list_data (I.ok.hd hc) pl.isList ra al hd fun i v h' tk bs hv rr kp => best_of hK I S b1 b2 rd rv g2 h (by simpa using hv) (by rw [g1]; exact rr) kp
    · obtain ⟨its, rv, pl, hz⟩ := I.tuple hl
      obtain ⟨as, ra⟩ := each_readsAll (reads_of hK I S b1 rd rv)
      exact PySem.W.min_tuple_data (I.ok.hd hc) pl ra al hd fun i v h' tk bs hv rr kp => best_of hK I S b1 b2 rd rv g2 h (by simpa using hv) (by rw [g1]; exact rr) kp
  · exact h.elim
theorem ok_max1 (hK : C.K = X.K) (hc : X.calm = true) (hu : X.A.units + 100 < cLine) : CallR X (.builtin "max") (rC1 C pMax1) := by
  intro pins t σ H xs us Q I V ⟨x, e, W, d, s, E, S, hx, h⟩
  subst e
  unfold pMax1 at h
  split at h
  · rename_i a r e
    obtain ⟨hb, h⟩ := RvQ.cnd h
    obtain ⟨b1, b2⟩ := (Bool.and_eq_true _ _).mp hb
    obtain ⟨p, vs, q, hl, rd⟩ := sqv_ok S hx (lstv_sqv e)
    subst q
    rw [hK] at hl
    rw [Vals.ref1 V]
    obtain ⟨g1, g2⟩ := maxDD_eq r a (a :: r) b1 b2 List.mem_cons_self fun d hd => List.mem_cons_of_mem _ hd
    have al : PySem.W.AlikeAll (dv a :: r.map dv) := ⟨(alkA_data b2).1, fun x hx' => (by obtain ⟨y, hy, rfl⟩ := List.mem_map.mp (show x ∈ (a :: r).map dv from hx'); exact (alkA_data b2).2 y hy)⟩
    have hd : X.A.units + 1 + PyData.depthAll (dv a :: r.map dv) < cLine := by
      have : PyData.depthAll ((a :: r).map dv) ≤ 60 := depthAll_le b1
      have : PyData.depthAll (dv a :: r.map dv) ≤ 60 := this
      omega
    rcases hl with hl | hl
    · obtain ⟨its, rv, pl, hz⟩ := I.list hl
      obtain ⟨as, ra⟩ := each_readsAll (reads_of hK I S b1 rd rv)
      exact PySem.W.max_list_data (I.ok.hd hc) pl.isList ra al hd fun i v h' tk bs hv rr kp => best_of hK I S b1 b2 rd rv g2 h (by simpa using hv) (by rw [g1]; exact rr) kp
    · obtain ⟨its, rv, pl, hz⟩ := I.tuple hl
      obtain ⟨as, ra⟩ := each_readsAll (reads_of hK I S b1 rd rv)
      exact PySem.W.max_tuple_data (I.ok.hd hc) pl ra al hd fun i v h' tk bs hv rr kp => best_of hK I S b1 b2 rd rv g2 h (by simpa using hv) (by rw [g1]; exact rr) kp
  · exact h.elim
end
/-! ### sorted(x, key=lambda a: (a[0], -a[1])) -/
theorem prsI_ok : ∀ {l : List D} {ps : List (Int × Int)}, prsI l = some ps → l = ps.map prD
  | [], ps, h => by simp [prsI] at h; subst h; rfl
  | d :: r, ps, h => by
    unfold prsI at h
    split at h
    · rename_i p e
      split at h
      · rename_i l e2
        cases h
        have e1 : d = prD p := by
          unfold prI at e
          split at e
          · cases e; rfl
          · cases e
        rw [e1, prsI_ok e2]; rfl
      · cases h
    · cases h
theorem kle_eq : PySem.W.dataLe false (fun p : Int × Int => PyData.tuple [.int p.1, .int (-p.2)]) = kle := by
  rw [W.dataLe_ii (β := Int × Int) (fun p => p.1) (fun p => -p.2)]
  funext p q
  unfold kle
  rw [Bool.eq_iff_iff, decide_eq_true_iff]
  cases h1 : iltb q.1 p.1 with
  | true =>
    have h1 := (iltb_iff _ _).mp h1
    simp only [cond_true, Bool.not_true, Bool.false_eq_true, iff_false]
    omega
  | false =>
    have h1 : ¬ q.1 < p.1 := fun z => by rw [(iltb_iff _ _).mpr z] at h1; cases h1
    simp only [cond_false]
    cases h2 : ieqb q.1 p.1 with
    | false =>
      have h2 : ¬ q.1 = p.1 := fun z => by rw [(ieqb_iff _ _).mpr z] at h2; cases h2
      simp only [cond_false, Bool.not_false, iff_true]
      omega
    | true =>
      have h2 := (ieqb_iff _ _).mp h2
      simp only [cond_true]
      cases h3 : iltb p.2 q.2 with
      | true =>
        have h3 := (iltb_iff _ _).mp h3
        simp only [Bool.not_true, Bool.false_eq_true, iff_false]
        omega
      | false =>
        have h3 : ¬ p.2 < q.2 := fun z => by rw [(iltb_iff _ _).mpr z] at h3; cases h3
        simp only [Bool.not_false, iff_true]
        omega
section
variable {X : Cx} {C : Cn} {Wx : WX}
/-- a pair of numbers that stands -/
def PR (C : Cn) (W : Wd) (h : Heap) (u : Value) (p : Int × Int) : Prop := RV C W u (prD p) ∧ ∃ (t : Addr) (its : Array Value) (ta tb : Tok), u = .ref t ∧ IsTup h t its ∧ its[0]? = some (.int p.1 ta) ∧ its[1]? = some (.int p.2 tb)
theorem pr_of {pins : List (Addr × Obj)} {σ : L2.St} {H : Hp} {t : Shared} {W : Wd} {s : St} (hK : C.K = X.K) (I : L2.Inv X pins σ H t) (S : SimS C W H s) : ∀ {ps : List (Int × Int)} {vs : List V} {us : List Value}, RDs C W (ps.map prD) vs → Vals vs us → PySem.W.EachIs (PR C W t.heap) us ps
  | [], _, _, r, v => by
    cases r; cases v; exact .nil
  | p :: ps, _, _, r, v => by
    cases r with
    | cons q r =>
    cases v with
    | cons z v =>
      refine .cons ⟨⟨_, z, q⟩, ?_⟩ (pr_of hK I S r v)
      unfold prD at q
      cases q with
      | tup hp rr =>
        cases rr with
        | cons q1 rr =>
        cases rr with
        | cons q2 rr =>
        cases rr
        cases q1; cases q2
        have hs := hp.sq (K := C.K) S.sub
        rw [hK] at hs
        obtain ⟨its, rv, pl, hz⟩ := I.tuple hs
        cases z
        cases rv with
        | cons a rv =>
        cases rv with
        | cons b rv =>
        cases rv
        obtain ⟨ta, rfl⟩ := a
        obtain ⟨tb, rfl⟩ := b
        exact ⟨_, _, ta, tb, rfl, pl, rfl, rfl⟩
theorem pr_back {W : Wd} {h : Heap} : ∀ {us : List Value} {ps : List (Int × Int)}, PySem.W.EachIs (PR C W h) us ps → ∃ vs, RDs C W (ps.map prD) vs ∧ Vals vs us
  | _, _, .nil => ⟨[], .nil, .nil⟩
  | _, _, .cons ⟨⟨v, q, h⟩, _⟩ t => let ⟨vs, r, z⟩ := pr_back t; ⟨v :: vs, .cons h r, .cons q z⟩
theorem pe_srk {t : Addr × Addr × Str} {e : Expr} {re : EvT} {m : Bool} {params : Arguments} {body : Expr} {scope : Scope} {p lp kp pos : Pos} (T : TabOk X C t) (L : LamOk params body scope) (hs : nst e = true) (hK : C.K = X.K) (hr : Room 0 X.A) (hu : X.A.units + 100 < cLine)
    (he : PE X e (tE C Wx re)) (hg : Gl X "sorted") (hm : X.mg "sorted" = none) :
    PE X (.Call (.Name "sorted" p) [e] [⟨some "key", .Lambda params body scope lp, kp⟩] pos) (tE C Wx (e1 (.srk m) re)) := by
  refine ⟨fun pins s σ H Q I h => ?_⟩
  have h := tA1 (k := pSrk m) h
  have hst : backTo pos (starEach [e] X.env) = (false, eval e X.env) :: backTo pos (starEach [] X.env) := by
    rw [star_cons hs X.env]; rfl
  refine wpAny_Call_Name_kw (ld_blt I hg hm boot_sorted ?_ (by decide) (by decide))
  refine PyProof.Rows.callWith_kw (thn ((ok_cons hs he ok_nil).run pos pins s σ H _ I h) fun us s1 ⟨vs, H1, I1, r1, x, ex, W, d, st, E, S, hx, q1⟩ => ?_) hst (by rw [star_any _ _ (by simp [hs])]) rfl rfl
  subst ex
  show wpAny _ _ (evalAll [(do let v ← eval (.Lambda params body scope lp) X.env; standAt pos; pure v)]) _ _ s1
  obtain ⟨x, ap, p1, p2, p3, p4, p5, p6, p7, p8, k1, k2, k3, rfl, rfl, hl, hd⟩ := L.ex
  refine wpAny_evalAll_cons (wpAny_bind (lam_make3 I1 S T.tb T.code T.mem T.one T.name rfl (fun y hy e => absurd e (L.cell y hy).2) fun f c' pm ctv W2 H2 s2 I2 le S2 hf hc => wpAny_bind (wpAny_standAt (wpAny_pure (wpAny_evalAll_nil ?_)))))
  have q2 := RvQ.mono (r := pSrk m d st) q1 le
  have hx2 := hx.mono le
  show wpAny _ _ (call (.builtin "sorted") us [(Str.ofString "key", .ref f)]) _ _ s2
  unfold pSrk at q2
  split at q2
  · rename_i l el
    split at q2
    · rename_i ps eps
      obtain ⟨hb, q3⟩ := RvQ.cnd q2
      have hb := ble16 hb
      have ep := prsI_ok eps
      obtain ⟨a, vs2, ev, hq, r⟩ := sqv_ok S2 hx2 (lstv_sqv el)
      subst ev
      rw [hK] at hq
      rw [ep] at r
      rw [Vals.ref1 r1]
      obtain ⟨its, rv, hh, hz⟩ := holds_of I2 hq
      obtain ⟨⟨oc, os, ot, g1, g2, g3⟩, _, _⟩ := I2.hok c' _ hc
      refine SQ.sorted_key_data (R := PR C W2 s2.heap) (b := false) (fun p : Int × Int => PyData.tuple [.int p.1, .int (-p.2)]) hh (pr_of hK I2 S2 r rv) (PySem.W.AllAlike.of fun _ _ => by simp [PySem.W.alike, PySem.W.alikeAll]) (PySem.W.Sortable.tuples fun _ => ⟨_, _, rfl⟩) hb (fun z _ => ?_) (ksk_s1 _ _) (fun _ => ksk_l1 _ _) (fun _ => ksk_t1 _ _)
        (fun v z hR _ h tk kp => ?_) fun out c h' tk kp fr hD ho eo => ?_
      · have : (PyData.tuple [.int z.1, .int (-z.2)]).depth = 1 := by simp [PyData.depth, PyData.depthAll]
        omega
      · obtain ⟨_, t1, its1, ta, tb, rfl, i1, i2, i3⟩ := hR
        have KL : X.K.In s2.heap := I2.kIn
        exact lam_turn (by have := hr.dp; show X.A.depth < _; omega) (I2.nolimit.keeps kp) (kp _ _ hf) ⟨c', oc, os, ot, rfl, kp _ _ g1, g2, g3⟩ L.kind L.co L.gen (fun y hy => (L.cell y hy).1) hl hd (i1.keeps kp) i2 i3
      · rw [kle_eq, ← SQ.msrt_len kle ps.length ps (Nat.le_refl _)] at eo
        obtain ⟨ws, r2, z2⟩ := pr_back eo
        have hn : H2 (s2.heap.objs.size + 1) = none := I2.hok.fresh (Nat.le_succ _)
        obtain ⟨y1, y2⟩ := newL_ok S2 hn r2 q3
        exact ⟨.ref _, upd H2 (s2.heap.objs.size + 1) (.lst ws), I2.laid (t' := tk) kp (Nat.le_succ _) ⟨y1, out, c, z2, hD⟩, rfl, y2⟩
    · exact q2.elim
  · exact q2.elim
end
end Mv
end

section
set_option Elab.async false
set_option linter.all false
set_option maxRecDepth 100000
set_option maxHeartbeats 4000000
/-! StpK: x[::e], e 1 or -1. -/
namespace Mv
open PySem PySem.Spec PyProof.Rows L2
theorem pick_one (items : Array Value) : slicePick items none none (some 1) = items := by
  have e : sliceBounds none none none items.size = (((0 : Nat) : Int), ((items.size : Nat) : Int), 1) := by
    first
    | rfl
    | simp [sliceBounds]
  have h := PySem.W.kmk_pick_nat items e
  have h2 : slicePick items none none (some 1) = slicePick items none none none := by
    first
    | rfl
    | simp [slicePick, sliceBounds]
  rw [h2, h]
  show ((items.toList.drop 0).take (items.size - 0)).toArray = items
  rw [List.drop_zero, Nat.sub_zero, List.take_of_length_le (by simp)]
variable {X : Cx}
def tStp (K : PySem.W.Frag) (te ts : TE) : TE := fun σ H Q => te σ H fun x H1 => tPart ts σ H1 fun o H2 => ∃ (a : Addr) (xs : List V), x = .ref a ∧ (o = some 1 ∨ o = some (-1)) ∧ SqL K H2 a xs ∧ ∀ p, H2 p = none → Q (.ref p) (upd H2 p (.lst (if o = some 1 then xs else xs.reverse)))
theorem pe_stp {e st : Expr} {te ts : TE} {p3 pos : Pos} (he : PE X e te) (hs : PE X st ts) : PE X (.Subscript e (.Slice none none (some st) p3) pos) (tStp X.K te ts) := by
  refine ⟨fun pins s σ H Q I h => ?_⟩
  refine Subscript_ (thn (he.run pins s σ H _ I h) fun v s1 ⟨x, H1, I1, r1, q1⟩ => ?_)
  have hst : PO X (some st) (tPart ts) := po_some hs
  refine wpAny_Slice (thn (po_none.run pins s1 σ H1 (fun o H2 => o = none ∧ H2 = H1) I1 ⟨rfl, rfl⟩) fun vl s2 ⟨l, H2, I2, pl, el, e2⟩ => ?_)
  subst el e2
  refine thn (po_none.run pins s2 σ H2 (fun o H3 => o = none ∧ H3 = H2) I2 ⟨rfl, rfl⟩) fun vu s3 ⟨u, H3, I3, pu, eu, e3⟩ => ?_
  subst eu e3
  refine thn (hst.run pins s3 σ H3 _ I3 q1) fun vs s4 ⟨o, H4, I4, ps, a, xs, ex, hk, hx, q⟩ => ?_
  · subst ex
    cases r1
    have I5 : L2.Inv X pins σ H4 { s4 with heap := s4.heap.push { cls := .type "slice", data := .fields #[vl, vu, vs] } } := I4.kept (t' := s4.toks) fun b ob q => Heap.get?_push_of_some _ q
    obtain ⟨its, r, ht, hz⟩ := I5.list hx
    have hlen := r.length
    show wpAny (model X.prog X.w) X.A (subscriptTail e (.Slice none none (some st) p3) (.ref a) (.ref s4.heap.objs.size)) (EP X pins σ Q) X.xe { s4 with heap := s4.heap.push { cls := .type "slice", data := .fields #[vl, vu, vs] } }
    refine tail_any (ops := [.ref a, .ref s4.heap.objs.size]) ht.isList.typeIs (PySem.slot_list_getitem.lookup) ?_ (by with_unfolding_all rfl)
    refine wpAny_getItem_list_slice ht.isList (Heap.IsSliceOf.new _ vl vu vs) pl pu ps (by rcases hk with hk | hk <;> subst hk <;> decide) ?_ (by rw [List.size_toArray]; omega)
    rcases hk with hk | hk
    · subst hk
      rw [pick_one]
      refine ⟨.ref _, _, I5.laid (t' := s4.toks) (o := .lst xs) (fun b ob q => Heap.get?_push_of_some _ q) (Nat.le_refl _) ?_, rfl, q _ (I5.hok.fresh (Nat.le_refl _))⟩
      exact ⟨hz, _, 0, r, Heap.get?_push_size _ rfl⟩
    · subst hk
      rw [PySem.W.krv_pick]
      refine ⟨.ref _, _, I5.laid (t' := s4.toks) (o := .lst xs.reverse) (fun b ob q => Heap.get?_push_of_some _ q) (Nat.le_refl _) ?_, rfl, q _ (I5.hok.fresh (Nat.le_refl _))⟩
      exact ⟨by rw [List.length_reverse]; exact hz, _, 0, r.reverse, Heap.get?_push_size _ rfl⟩
theorem ok_stp {C : Cn} {Wx : WX} (hK : C.K = X.K) (m : Bool) {cb : Nat → Nat} {a b : Expr} {ra rb : EvT} {p3 pos : Pos} (ha : PE X a (tE C Wx ra)) (hb : PE X b (tE C Wx rb)) : PE X (.Subscript a (.Slice none none (some b) p3) pos) (tE C Wx (e2 cb (.stp m) ra rb)) := by
  refine pe_imp (pe_stp ha hb) fun σ H Q h => ?_
  refine te_imp (tE_two (k := pStp m) h) fun x H1 h1 => te_imp h1 fun y H2 ⟨W, dx, dy, s, E, S, hx, hy, h3⟩ => ?_
  unfold pStp at h3
  split at h3
  · cases hy
    split at h3
    · rename_i l e
      obtain ⟨a, vs, q, hl, r⟩ := sqv_lst S hx (lqv_sqv e).1 (lqv_sqv e).2
      subst q
      rw [hK] at hl
      refine ⟨_, rfl, a, vs, rfl, ?_⟩
      cases q1 : ieqb _ (.ofNat 1) with
      | true =>
        rw [q1] at h3
        rw [ieqb_eq] at q1
        cases eq_of_beq q1
        refine ⟨.inl rfl, hl, fun p hp => ?_⟩
        rw [if_pos (show some (Int.ofNat 1) = some (1 : Int) from rfl)]
        exact (newL_ok S hp r h3).2
      | false =>
        rw [q1] at h3
        simp only [cond_false] at h3
        cases q2 : ieqb _ (.negSucc 0) with
        | true =>
          rw [q2] at h3
          rw [ieqb_eq] at q2
          cases eq_of_beq q2
          refine ⟨.inr rfl, hl, fun p hp => ?_⟩
          rw [if_neg (show ¬ some (Int.negSucc 0) = some (1 : Int) by decide)]
          exact (newL_ok S hp r.reverse h3).2
        | false => rw [q2] at h3; exact h3.elim
    · exact h3.elim
  · exact h3.elim
/-! ### x[lo:hi:step], any step -/
section
variable {prog : Program} {w : World} {A : Around} {E : Value → Shared → Prop} {s : Shared}
theorem sliceApplied_step {sl : Addr} {vl vu vs : Value} {lo hi : Option Int} {k : Int} {n : Nat} {Q : Int × Int × Nat → Shared → Prop} (hs : s.heap.IsSliceOf sl vl vu vs) (pl : IsPart vl lo) (pu : IsPart vu hi) (ps : IsPart vs (some k)) (h0 : k ≠ 0)
    (h : Q ((adD lo hi k n).1, k, plD (adD lo hi k n).1 (adD lo hi k n).2 k) s) : wpAny (model prog w) A (Builtin.Slice.sliceApplied (.ref sl) (pure (n : Int))) Q E s := by
  obtain ⟨os, hos, hcs, hds⟩ := id hs
  unfold Builtin.Slice.sliceApplied Builtin.Slice.sliceFields
  refine wpAny_bind (wpAny_bind (wpAny_field hos hds (x := vl) rfl (wpAny_bind (wpAny_field hos hds (x := vu) rfl (wpAny_bind (wpAny_field hos hds (x := vs) rfl (wpAny_pure ?_)))))))
  refine wpAny_bind (HT.slicePart_ ps ?_)
  show wpAny _ _ (if (k == 0) = true then _ else _) _ _ s
  rw [if_neg (by simpa using h0)]
  refine wpAny_bind (HT.slicePart_ pl (wpAny_bind (HT.slicePart_ pu (wpAny_bind (wpAny_pure ?_)))))
  exact wpAny_pure h
theorem getItem_tuple_step {t sl : Addr} {items : Array Value} {vl vu vs : Value} {lo hi : Option Int} {k : Int} {Q : Value → Shared → Prop} (ht : IsTup s.heap t items) (hs : s.heap.IsSliceOf sl vl vu vs) (pl : IsPart vl lo) (pu : IsPart vu hi) (ps : IsPart vs (some k)) (h0 : k ≠ 0)
    (h1 : (((adD lo hi k items.size).1 == 0 && k == 1 && plD (adD lo hi k items.size).1 (adD lo hi k items.size).2 k == items.size) = true) → Q (.ref t) s)
    (h2 : ¬ (((adD lo hi k items.size).1 == 0 && k == 1 && plD (adD lo hi k items.size).1 (adD lo hi k items.size).2 k == items.size) = true) → Q (.ref s.heap.objs.size) { s with heap := s.heap.push { cls := .type "tuple", data := .seq ((List.range (plD (adD lo hi k items.size).1 (adD lo hi k items.size).2 k)).filterMap fun (j : Nat) => items[((adD lo hi k items.size).1 + (j : Int) * k).toNat]?).toArray } })
    (hsz : ((List.range (plD (adD lo hi k items.size).1 (adD lo hi k items.size).2 k)).filterMap fun (j : Nat) => items[((adD lo hi k items.size).1 + (j : Int) * k).toNat]?).length ≤ sizeLine) : wpAny (model prog w) A (getItem (.ref t) (.ref sl)) Q E s := by
  have htake : sizeOk (.seq ((List.range (plD (adD lo hi k items.size).1 (adD lo hi k items.size).2 k)).filterMap fun (j : Nat) => items[((adD lo hi k items.size).1 + (j : Int) * k).toNat]?).toArray) := by
    show _ ≤ sizeLine
    rw [List.size_toArray]; exact hsz
  obtain ⟨os, hos, hcs, hds⟩ := id hs
  have hTs : s.TypeIs (.ref sl) "slice" := ⟨os, hos, hcs⟩
  unfold getItem
  try with_reducible refine wpAny_holding ?_
  first | refine wpAny_bind (wpAny_pure ?_) | skip
  refine wpAny_bind (wpAny_sequenceKey ht.typeIs (by decide) ?_)
  refine wpAny_bind (wpAny_callSpecial?_slot (name := Str.ofString "__getitem__") ht.typeIs PyProof.Rows.slot_tuple_getitem
    (wpAny_call_entry PyProof.Rows.slot_tuple_getitem ht.typeIs entry_tuple_getitem ?_ (args_tuple_getitem _ _)))
  show wpAny _ _ (Builtin.Tuple.tupleItemsOf (.ref t) >>= _) _ _ s
  refine wpAny_bind (tupleItemsOf_ ht ?_)
  refine wpAny_bind (wpAny_typeOf hTs ?_)
  rw [if_pos (by decide)]
  refine wpAny_bind (sliceApplied_step hs pl pu ps h0 ?_)
  show wpAny _ _ (if (((adD lo hi k items.size).1 == 0 && k == 1 && plD (adD lo hi k items.size).1 (adD lo hi k items.size).2 k == items.size)) = true then _ else _) _ _ s
  by_cases hy : (((adD lo hi k items.size).1 == 0 && k == 1 && plD (adD lo hi k items.size).1 (adD lo hi k items.size).2 k == items.size) = true)
  · rw [if_pos hy]
    refine wpAny_bind ?_
    show wpAny _ _ (typeOf (.ref t) >>= fun T => pure (T == .type "tuple")) _ _ s
    refine wpAny_bind (wpAny_typeOf ht.typeIs (wpAny_pure ?_))
    have h := h1 hy
    first
      | rw [if_pos (by decide)]
      | simp only [beq_self_eq_true, if_true]
    first
      | exact wpAny_bind (wpAny_rule (wpAny_pure ⟨_, rfl, wpAny_pure h⟩))
      | exact wpAny_bind (wpAny_rule (wpAny_bind (wpAny_pure (wpAny_pure ⟨_, rfl, wpAny_pure h⟩))))
  · rw [if_neg hy]
    have h := h2 hy
    first
      | exact wpAny_bind (m := Builtin.Tuple.tupleExact _) (wpAny_newObj_type (wpAny_pure ⟨_, rfl, wpAny_pure h⟩) htake)
      | exact wpAny_bind (m := Builtin.Tuple.tupleExact _) (wpAny_newObj_type (wpAny_bind (wpAny_pure (wpAny_pure ⟨_, rfl, wpAny_pure h⟩))) htake)
      | exact wpAny_bind (wpAny_bind (m := Builtin.Tuple.tupleExact _) (wpAny_newObj_type (wpAny_pure (wpAny_pure ⟨_, rfl, wpAny_pure h⟩)) htake))
      | exact wpAny_bind (wpAny_bind (m := Builtin.Tuple.tupleExact _) (wpAny_newObj_type (wpAny_pure ⟨_, rfl, wpAny_pure h⟩) htake))
end
section
variable {α β : Type}
def ixL (n : Nat) (lo hi : Option Int) (k : Int) : List Nat := srD (sbD lo hi (some k) n).1 (sbD lo hi (some k) n).2.1 (sbD lo hi (some k) n).2.2
def ixT (n : Nat) (lo hi : Option Int) (k : Int) : List Nat := (List.range (plD (adD lo hi k n).1 (adD lo hi k n).2 k)).map fun (j : Nat) => ((adD lo hi k n).1 + (j : Int) * k).toNat
end
theorem stpL_eq (l : List D) (lo hi : Option Int) (k : Int) : stpL l lo hi k = (ixL l.length lo hi k).filterMap fun i => l[i]? := by
  unfold stpL ixL
  simp only [nth_eq]
theorem stpT_eq (l : List D) (lo hi : Option Int) (k : Int) : stpT l lo hi k = (ixT l.length lo hi k).filterMap fun i => l[i]? := by
  unfold stpT ixT
  rw [List.filterMap_map]
  simp only [nth_eq]
  rfl
theorem RDs.fmap {C : Cn} {W : Wd} {ds : List D} {vs : List V} (r : RDs C W ds vs) : ∀ p : List Nat, RDs C W (p.filterMap fun i => ds[i]?) (p.filterMap fun i => vs[i]?)
  | [] => .nil
  | i :: p => by
    rw [List.filterMap_cons, List.filterMap_cons]
    cases h : ds[i]? with
    | none =>
      have : vs[i]? = none := by rw [List.getElem?_eq_none_iff] at h ⊢; rw [← r.length]; exact h
      rw [this]; exact RDs.fmap r p
    | some d =>
      obtain ⟨v, h1, h2⟩ := r.get h
      rw [h1]; exact .cons h2 (RDs.fmap r p)
theorem vals_fmap {vs : List V} {us : List Value} (r : Vals vs us) : ∀ p : List Nat, Vals (p.filterMap fun i => vs[i]?) (p.filterMap fun i => us[i]?)
  | [] => .nil
  | i :: p => by
    rw [List.filterMap_cons, List.filterMap_cons]
    cases h : vs[i]? with
    | none =>
      have : us[i]? = none := by rw [List.getElem?_eq_none_iff] at h ⊢; rw [← r.length]; exact h
      rw [this]; exact vals_fmap r p
    | some d =>
      obtain ⟨v, h1, h2⟩ := r.get h
      rw [h1]; exact .cons h2 (vals_fmap r p)
def rSls (K : PySem.W.Frag) (x : V) (lo hi : Option Int) (k : Int) (H : Hp) (Q : VK) : Prop := ∃ (a : Addr) (vs : List V), x = .ref a ∧ ((SqL K H a vs ∧ ((ixL vs.length lo hi k).filterMap fun i => vs[i]?).length ≤ sizeLine ∧ ∀ p, H p = none → Q (.ref p) (upd H p (.lst ((ixL vs.length lo hi k).filterMap fun i => vs[i]?)))) ∨
  (SqT K H a vs ∧ ((ixT vs.length lo hi k).filterMap fun i => vs[i]?).length ≤ sizeLine ∧ ((((adD lo hi k vs.length).1 == 0 && k == 1 && plD (adD lo hi k vs.length).1 (adD lo hi k vs.length).2 k == vs.length) = true) → Q (.ref a) H) ∧ ∀ p, H p = none → Q (.ref p) (upd H p (.tup ((ixT vs.length lo hi k).filterMap fun i => vs[i]?)))))
def tSls (K : PySem.W.Frag) (te : TE) (tl th : TO) (ts : TE) : TE := fun σ H Q => te σ H fun x H1 => tl σ H1 fun lo H2 => th σ H2 fun hi H3 => tPart ts σ H3 fun o H4 => ∃ k : Int, o = some k ∧ k ≠ 0 ∧ rSls K x lo hi k H4 Q
theorem pe_sls {e st : Expr} {lo hi : Option Expr} {te ts : TE} {tl th : TO} {p3 pos : Pos} (he : PE X e te) (hl : PO X lo tl) (hu : PO X hi th) (hs : PE X st ts) : PE X (.Subscript e (.Slice lo hi (some st) p3) pos) (tSls X.K te tl th ts) := by
  refine ⟨fun pins s σ H Q I h => ?_⟩
  refine Subscript_ (thn (he.run pins s σ H _ I h) fun v s1 ⟨x, H1, I1, r1, q1⟩ => ?_)
  have hst : PO X (some st) (tPart ts) := po_some hs
  refine wpAny_Slice (thn (hl.run pins s1 σ H1 _ I1 q1) fun vl s2 ⟨l, H2, I2, pl, q2⟩ => ?_)
  refine thn (hu.run pins s2 σ H2 _ I2 q2) fun vu s3 ⟨u, H3, I3, pu, q3⟩ => ?_
  refine thn (hst.run pins s3 σ H3 _ I3 q3) fun vs s4 ⟨o, H4, I4, ps, k, eo, hk, a, xs, ex, q⟩ => ?_
  subst ex; subst eo
  cases r1
  have I5 : L2.Inv X pins σ H4 { s4 with heap := s4.heap.push { cls := .type "slice", data := .fields #[vl, vu, vs] } } := I4.kept (t' := s4.toks) fun b ob q => Heap.get?_push_of_some _ q
  rcases q with ⟨hx, hn, q⟩ | ⟨hx, hn, q0, q⟩
  · obtain ⟨its, r, ht, hz⟩ := I5.list hx
    have hlen := r.length
    show wpAny (model X.prog X.w) X.A (subscriptTail e (.Slice lo hi (some st) p3) (.ref a) (.ref s4.heap.objs.size)) (EP X pins σ Q) X.xe { s4 with heap := s4.heap.push { cls := .type "slice", data := .fields #[vl, vu, vs] } }
    refine tail_any (ops := [.ref a, .ref s4.heap.objs.size]) ht.isList.typeIs (PySem.slot_list_getitem.lookup) ?_ (by with_unfolding_all rfl)
    refine wpAny_getItem_list_slice ht.isList (Heap.IsSliceOf.new _ vl vu vs) pl pu ps (fun z => hk (Option.some.inj z)) ?_ (by rw [List.size_toArray]; omega)
    have eN : slicePick its.toArray l u (some k) = ((ixL xs.length l u k).filterMap fun i => its[i]?).toArray := by
      rw [hlen]
      unfold slicePick
      rw [List.size_toArray]
      show ((srD (sbD l u (some k) its.length).1 (sbD l u (some k) its.length).2.1 (sbD l u (some k) its.length).2.2).filterMap (its.toArray[·]?)).toArray = _
      simp only [List.getElem?_toArray]
      rfl
    rw [eN]
    refine ⟨.ref _, _, I5.laid (t' := s4.toks) (o := .lst ((ixL xs.length l u k).filterMap fun i => xs[i]?)) (fun b ob q => Heap.get?_push_of_some _ q) (Nat.le_refl _) ?_, rfl, q _ (I5.hok.fresh (Nat.le_refl _))⟩
    exact ⟨hn, _, 0, vals_fmap r _, Heap.get?_push_size _ rfl⟩
  · obtain ⟨its, r, ht, hz⟩ := I5.tuple hx
    have hlen := r.length
    have hsz : its.toArray.size = xs.length := by rw [List.size_toArray]; exact hlen.symm
    have eN : ∀ n, n = xs.length → ((List.range (plD (adD l u k n).1 (adD l u k n).2 k)).filterMap fun (j : Nat) => its.toArray[((adD l u k n).1 + (j : Int) * k).toNat]?) = (ixT xs.length l u k).filterMap fun i => its[i]? := fun n hn => by
      subst hn
      unfold ixT
      rw [List.filterMap_map]
      simp only [List.getElem?_toArray]
      rfl
    show wpAny (model X.prog X.w) X.A (subscriptTail e (.Slice lo hi (some st) p3) (.ref a) (.ref s4.heap.objs.size)) (EP X pins σ Q) X.xe { s4 with heap := s4.heap.push { cls := .type "slice", data := .fields #[vl, vu, vs] } }
    refine tail_any (ops := [.ref a, .ref s4.heap.objs.size]) (IsTup.typeIs ht) (PyProof.Rows.slot_tuple_getitem.lookup) ?_ (by with_unfolding_all rfl)
    have hv := vals_fmap r (ixT xs.length l u k)
    refine getItem_tuple_step ht (Heap.IsSliceOf.new _ vl vu vs) pl pu ps hk (fun z => ?_) (fun z => ?_) (by rw [eN _ hsz, ← hv.length]; exact hn)
    · rw [hsz] at z
      exact ⟨.ref a, H4, I5, rfl, q0 z⟩
    · rw [eN _ hsz]
      refine ⟨.ref _, _, I5.laid (t' := s4.toks) (o := .tup ((ixT xs.length l u k).filterMap fun i => xs[i]?)) (fun b ob q => Heap.get?_push_of_some _ q) (Nat.le_refl _) ?_, rfl, q _ (I5.hok.fresh (Nat.le_refl _))⟩
      exact ⟨hn, _, hv, IsTup.new _ _⟩
theorem sls_eq {ra rl rh rs : EvT} {m p q : Bool} {e : Env} {s : St} : en (.sls m p q) (esC ra (esC rl (esC rh (esC rs esN)))) e s = (ra e s).bnd fun x s => (rl e s).bnd fun l s => (rh e s).bnd fun h s => (rs e s).bnd fun k s => pSls m p q x l h k s := by
  unfold en esC esN
  cases ra e s with
  | ok d s1 =>
    show ((((rl e s1).bns _).bns _).bnd _) = (rl e s1).bnd _
    cases rl e s1 with
    | ok d2 s2 =>
      show (((((rh e s2).bns _).bns _).bns _).bnd _) = (rh e s2).bnd _
      cases rh e s2 with
      | ok d3 s3 =>
        show ((((((rs e s3).bns _).bns _).bns _).bns _).bnd _) = (rs e s3).bnd _
        cases rs e s3 <;> rfl
      | exc c p s3 => rfl
      | bad n => rfl
    | exc c p s2 => rfl
    | bad n => rfl
  | exc c p s1 => rfl
  | bad n => rfl
theorem optI_bdv {p : Bool} {x : D} {o : Option Int} (h : optI p x = some o) : bdv p x = o := by
  unfold optI at h
  unfold bdv
  cases p with
  | true =>
    simp only [cond_true] at h ⊢
    split at h
    · cases h; rfl
    · cases h
  | false => simp only [cond_false] at h ⊢; cases h; rfl
theorem filterMap_range (l : List D) : (List.range l.length).filterMap (fun i => l[i]?) = l := by
  induction l with
  | nil => rfl
  | cons a r ih =>
    rw [List.length_cons, List.range_succ_eq_map, List.filterMap_cons, List.filterMap_map]
    simp only [List.getElem?_cons_zero]
    show a :: List.filterMap (fun i => (a :: r)[i + 1]?) (List.range r.length) = _
    simp only [List.getElem?_cons_succ]
    rw [ih]
theorem ixT_whole {n : Nat} {lo hi : Option Int} {k : Int} (h : ((adD lo hi k n).1 == 0 && k == 1 && plD (adD lo hi k n).1 (adD lo hi k n).2 k == n) = true) : ixT n lo hi k = List.range n := by
  simp only [Bool.and_eq_true, beq_iff_eq] at h
  obtain ⟨⟨h1, h2⟩, h3⟩ := h
  unfold ixT
  rw [h3, h1, h2]
  have : (fun (j : Nat) => ((0 : Int) + (j : Int) * 1).toNat) = id := by funext j; simp
  rw [this, List.map_id]
theorem sls_lst {C : Cn} {W : Wd} {H : Hp} {s : St} {x : D} {v : V} {m : Bool} {lo hi : Option Int} {k : Int} {Q : VK} {E : XK} (hK : C.K = X.K) (S : SimS C W H s) (rx : RD C W x v)
    (h : RvQ C W (match lqv s x with | some z => newL m (stpL z lo hi k) s | none => .bad 202) Q E) (ne : ∀ z, x ≠ .tup z) : rSls X.K v lo hi k H Q := by
  split at h
  · rename_i z ez
    obtain ⟨p, vs, ep, hq, r⟩ := sqv_lst S rx (lqv_sqv ez).1 (lqv_sqv ez).2
    subst ep
    rw [hK] at hq
    have hlz := r.length
    rw [stpL_eq] at h
    have rf := r.fmap (ixL z.length lo hi k)
    rw [hlz] at rf
    refine ⟨_, _, rfl, .inl ⟨hq, ?_, fun p hp => ?_⟩⟩
    · rw [← rf.length, ← hlz]; exact newL_len h
    · refine (newL_ok S hp (ds := (ixL z.length lo hi k).filterMap fun i => z[i]?) ?_ h).2
      rw [hlz]; exact rf
  · exact h.elim
theorem ok_sls {C : Cn} {Wx : WX} (hK : C.K = X.K) {m p q : Bool} {a st : Expr} {lo hi : Option Expr} {ra rl rh rs : EvT} {pos p2 : Pos} (ha : PE X a (tE C Wx ra)) (hl : POk X C Wx p lo rl) (hh : POk X C Wx q hi rh) (hs : PE X st (tE C Wx rs)) :
    PE X (.Subscript a (.Slice lo hi (some st) p2) pos) (tE C Wx (en (.sls m p q) (esC ra (esC rl (esC rh (esC rs esN)))))) := by
  obtain ⟨tl, pl, gl⟩ := hl.po
  obtain ⟨th, ph, gh⟩ := hh.po
  refine pe_imp (pe_sls ha pl ph hs) fun σ H Q h => ?_
  obtain ⟨W, e, s, S, SE, h⟩ := h
  rw [sls_eq] at h
  refine ⟨W, e, s, S, SE, RvQ.imp (RvQ.bnd h) (fun x H1 ⟨W1, d1, s1, le1, S1, r1, h1⟩ => ?_) fun _ _ _ z => z⟩
  refine gl S1 (SE.mono le1) h1 fun W2 d2 s2 H2 le2 S2 h2 => ?_
  refine gh S2 ((SE.mono le1).mono le2) h2 fun W3 d3 s3 H3 le3 S3 h3 => ?_
  refine ⟨W3, e, s3, S3, ((SE.mono le1).mono le2).mono le3, RvQ.imp (RvQ.bnd h3) (fun y H4 ⟨W4, d4, s4, le4, S4, r4, h4⟩ => ?_) fun _ _ _ z => z⟩
  have rx := ((r1.mono le2).mono le3).mono le4
  unfold pSls at h4
  split at h4
  · rename_i lo' el
    split at h4
    · rename_i hi' eh
      split at h4
      · rename_i k
        obtain ⟨hk, h4⟩ := cnd_bad h4
        have hk := ieqb_false hk
        cases r4
        rw [optI_bdv el, optI_bdv eh]
        refine ⟨k, rfl, k, rfl, hk, ?_⟩
        clear h3 h2 h1 h
        have rx0 := rx
        cases rx with
        | @tup av z vz hp r =>
          have hsq := hp.sq (K := C.K) S4.sub
          rw [hK] at hsq
          have hlz := r.length
          dsimp only at h4
          rw [stpT_eq] at h4
          have rf := r.fmap (ixT z.length lo' hi' k)
          rw [hlz] at rf
          refine ⟨_, _, rfl, .inr ⟨hsq, ?_, fun hw => ?_, fun p hp => ?_⟩⟩
          · rw [← rf.length, ← hlz]; exact newT_len h4
          · have hw' := hw
            rw [← hlz] at hw'
            rw [ixT_whole hw', filterMap_range] at h4
            unfold newT at h4
            obtain ⟨_, h5⟩ := RvQ.cnd h4
            exact RvQ.here S4 (.tup hp r) h5
          · refine newT_ok S4 hp (ds := (ixT z.length lo' hi' k).filterMap fun i => z[i]?) ?_ h4
            rw [hlz]; exact rf
        | _ => exact sls_lst (m := m) hK S4 rx0 h4 (fun z e => by cases e)
      · exact h4.elim
    · exact h4.elim
  · exact h4.elim
theorem ok_frz {X : Cx} {C : Cn} {Wx : WX} {e : Expr} {r : EvT} (h : PE X e (tE C Wx r)) : PE X e (tE C Wx (e1 .frz r)) := by
  refine pe_imp h fun σ H Q ⟨W, en, s, S, SE, q⟩ => ⟨W, en, s, S, SE, RvQ.imp (RvQ.bnd q) (fun v H1 ⟨W1, d, s1, le, S1, r1, q1⟩ => ?_) fun _ _ _ z => z⟩
  have q1 : RvQ C W1 (pFrz d s1) Q _ := q1
  unfold pFrz at q1
  split at q1
  · split at q1
    · rename_i l hf
      cases r1 with | loc hp =>
      obtain ⟨vs, le2, S2, r2⟩ := S1.freeze hf hp
      exact q1 _ _ _ le2 S2 r2
    · exact q1.elim
  · exact RvQ.here S1 r1 q1
end Mv
end

section
set_option Elab.async false
set_option linter.all false
set_option maxRecDepth 100000
set_option maxHeartbeats 4000000
/-! EnT: enumerate(tuple). -/
namespace PySem
open Sem (wp)
open AutoSeq1 (wpAny_loadPart')
theorem meets_enumerate_newT (l : Addr) (items : Array Value) (n : Nat) (dct : Option Addr) (sl : Array (Option Value)) :
    Meets (Builtin.«enumerate.__new__» ⟨[.type "enumerate", .ref l], []⟩) (fun _ R s => s.heap.get? l = some { cls := .type "tuple", dict := dct, data := .seq items n, slots := sl } ∧
      R (.ok (.ret (.ref (s.heap.push { cls := .type "tuple_iterator", data := .fields #[.ref l, .int 0 0] }).objs.size)))
        { s with heap := (s.heap.push { cls := .type "tuple_iterator", data := .fields #[.ref l, .int 0 0] }).push { cls := .type "enumerate", data := .fields #[.none, .bool false, .ref s.heap.objs.size, rawInt 0, .none, .none] } }) :=
  .of_wp fun prog w A R s h => by
    obtain ⟨hp, g, d, tk, os⟩ := s; obtain ⟨hl, h⟩ := h
    have hsub := sub_enumerate
    have hL : Heap.IsTuple (Shared.heap ⟨hp, g, d, tk, os⟩) l items := ⟨_, hl, rfl, n, rfl⟩
    wp_walk using wpAny_loadPart' hl
    refine wpAny_stack_any fun st => wpAny_pure ?_
    split
    · rename_i c _ _ _ _ _
      cases (c == Value.type "enumerate")
      · wp_walk using wpAny_loadPart' hl, wpAny_pyIter_tuple hL
        exact ⟨_, rfl, h⟩
      · wp_walk using wpAny_loadPart' hl, wpAny_pyIter_tuple hL
        exact ⟨_, rfl, h⟩
    · wp_walk using wpAny_loadPart' hl, wpAny_pyIter_tuple hL
      exact ⟨_, rfl, h⟩
section
variable {prog : Program} {w : World} {A : Around} {E : Value → Shared → Prop} {s : Shared}
theorem call_enumerate_tup {l : Addr} {items : Array Value} {Q : Value → Shared → Prop} (hL : s.heap.IsTuple l items)
    (h : ∀ h', IsEnum h' (s.heap.objs.size + 1) s.heap.objs.size 0 .none → h'.IsTupleIter s.heap.objs.size l 0 → h'.objs.size = s.heap.objs.size + 2 →
      (∀ b o, s.heap.get? b = some o → h'.get? b = some o) → Q (.ref (s.heap.objs.size + 1)) { s with heap := h' }) :
    wpAny (model prog w) A (call (.type "enumerate") [.ref l]) Q E s := by
  obtain ⟨⟨c, dct, dt, sl⟩, hl, hc, n, hd⟩ := hL
  replace hc : c = .type "tuple" := hc
  replace hd : dt = .seq items n := hd
  subst hc hd
  refine callType_new F.called_enumerate (by decide) (F.typeCall_enumerate_1 _) (F.newCall_enumerate_1 _) (fun obj => F.args_object_init_2 obj _) F.entry_enumerate_new
    (meets_enumerate_newT l items n dct sl) ⟨hl, ?_⟩
  have hz : (s.heap.push { cls := .type "tuple_iterator", data := .fields #[.ref l, .int 0 0] }).objs.size = s.heap.objs.size + 1 := Heap.size_push ..
  show _ ∧ _
  rw [hz]
  have he : IsEnum ((s.heap.push { cls := .type "tuple_iterator", data := .fields #[.ref l, .int 0 0] }).push
      { cls := .type "enumerate", data := .fields #[.none, .bool false, .ref s.heap.objs.size, rawInt 0, .none, .none] }) (s.heap.objs.size + 1) s.heap.objs.size 0 .none := by
    have := Heap.get?_push_size (s.heap.push { cls := .type "tuple_iterator", data := .fields #[.ref l, .int 0 0] })
      (o := { cls := .type "enumerate", data := .fields #[.none, .bool false, .ref s.heap.objs.size, rawInt 0, .none, .none] }) rfl
    rw [hz] at this; exact this
  refine ⟨⟨_, he, rfl⟩, h _ he ⟨_, Heap.get?_push_of_some _ (Heap.get?_push_size _ rfl), rfl, rfl⟩ (by rw [Heap.size_push, hz]) fun b o x => Heap.get?_push_of_some _ (Heap.get?_push_of_some _ x)⟩
end
end PySem
namespace L2
open PySem PySem.Spec PyProof.Rows
/-- a tuple's items, each in a new pair -/
def IteT (K : PySem.W.Frag) (a : Addr) : It :=
  ⟨fun i H => ∃ (xs : List V) (x : V), SqT K H a xs ∧ xs[i]? = some x, fun i H v H' => ∃ T x, v = .ref T ∧ H T = none ∧ H' = upd H T (.tup [.int (i : Nat), x]) ∧ ∀ xs, SqT K H a xs → xs[i]? = some x, fun i H => ∃ xs : List V, SqT K H a xs ∧ xs.length ≤ i⟩
theorem tup_inj {X : Cx} {pins : List (Addr × Obj)} {σ : St} {H : Hp} {s : Shared} {a : Addr} {xs ys : List V} (I : Inv X pins σ H s) (h1 : SqT X.K H a xs) (h2 : SqT X.K H a ys) : xs = ys := by
  first
  | exact I.tuple_inj h1 h2
  | exact I.tup_inj h1 h2
theorem turn_enumT {P : Program} {w : World} {K : PySem.W.Frag} {elts : List Expr} {kk : Nat} {tpos : Pos} (a e it : Addr) :
    Turn P w K (.Tuple elts kk tpos) (IteT K a) [e, it] e (fun i h => (∃ old, IsEnum h e it ((i : Nat) : Int) old) ∧ h.IsTupleIter it a i ∧ e ≠ it) where
  mem := by simp
  obj := fun i h st b hb => by
    obtain ⟨⟨old, he⟩, ⟨o, ho, hc, hd⟩, _⟩ := st
    have e' : b = e ∨ b = it := by simpa using hb
    rcases e' with z | z
    · rw [z]; exact ⟨_, he, fun v q => nomatch q⟩
    · rw [z]; exact ⟨o, ho, fun v q => by rw [hd] at q; cases q⟩
  keep := fun i h h' st k => let ⟨⟨old, he⟩, ⟨o, ho, hc, hd⟩, hne⟩ := st; ⟨⟨old, k e (by simp) _ he⟩, ⟨o, k it (by simp) _ ho, hc, hd⟩, hne⟩
  item := by
    intro X hP hw hK hc i pins s σ H E I hf st hg
    subst hP hw hK
    obtain ⟨⟨old, he⟩, hit, hne⟩ := st
    obtain ⟨xs, x, hq, hx⟩ := hg
    obtain ⟨its, rv, p, hz⟩ := I.tuple hq
    obtain ⟨u, hu, ru⟩ := rv.get hx
    have hel : e < s.heap.objs.size := Heap.lt_size he
    have hil : it < s.heap.objs.size := by obtain ⟨_, q, _⟩ := hit; exact Heap.lt_size q
    have hal : a ≠ it := fun z => by
      obtain ⟨o, ho, hc', _⟩ := p
      obtain ⟨o2, ho2, hc2, _⟩ := hit
      rw [z, ho2] at ho
      cases ho
      rw [hc2] at hc'
      exact absurd (Value.type.inj hc') (by decide)
    have hae : e ≠ a := fun z => by
      obtain ⟨o, ho, hc', _⟩ := p
      rw [← z] at ho
      have he' : s.heap.get? e = some _ := he
      rw [he'] at ho
      cases ho
      exact absurd (Value.type.inj hc') (by decide)
    have D := Draws.tuple (prog := X.prog) (w := X.w) (A := X.A.in1) (I.ok.hd hc) it a hal its.toArray
    have hli : i < its.toArray.size := by
      have := (List.getElem?_eq_some_iff.mp hu).1
      simpa using this
    refine wpAny_pyNext_enum_itemD D he ⟨hit, p⟩ hli hne (by simp only [List.mem_cons, List.not_mem_nil, or_false, not_or]; exact ⟨hne, hae⟩) fun u' h' tk hP ho hst' hT hsz hk => ?_
    have eu : u' = u := by
      have h1 : its.toArray[i]? = some u' := hP
      rw [List.getElem?_toArray, hu] at h1
      exact (Option.some.inj h1).symm
    subst eu
    refine ⟨_, rfl, wpAny_letOwnedTupleGo_enum (s := { s with heap := h', toks := tk + 1 }) ho fun h'' he' sb => ?_⟩
    have hT2 : h''.get? s.heap.objs.size = some { cls := .type "tuple", data := .seq #[.int i tk, u'] } := (sb.2 _ (Nat.ne_of_gt hel)).trans hT
    have new : ObjOk X.prog X.w (upd H s.heap.objs.size (.tup [.int (i : Nat), x])) h'' s.heap.objs.size (.tup [.int (i : Nat), x]) :=
      ⟨by show 2 ≤ sizeLine; decide, [.int i tk, u'], .cons ⟨_, rfl⟩ (.cons ru .nil), ⟨_, hT2, rfl, _, rfl⟩⟩
    have I1 : Inv X pins σ (upd H s.heap.objs.size (.tup [.int (i : Nat), x])) { s with heap := h'', toks := tk + 1 } :=
      I.turnedNew (ch := [e, it]) (fun b ob hb q => (sb.2 b (fun z => hb (by simp [z]))).trans (hk b ob (fun z => hb (by simp [z])) (fun z => hb (by simp [z])) q)) hf (Nat.le_refl _) new
    refine ⟨.ref s.heap.objs.size, _, I1, rfl, ⟨_, x, rfl, I.hok.fresh (Nat.le_refl _), rfl, fun ys hy => by rw [tup_inj I hy hq]; exact hx⟩, ⟨⟨u', ?_⟩, ?_, hne⟩, fun b hb => ?_⟩
    · have e1 : ((i + 1 : Nat) : Int) = (i : Int) + 1 := by omega
      rw [e1]; exact he'
    · obtain ⟨o, ho1, hc1, hd1⟩ := hst'.1
      exact ⟨o, (sb.2 it (Ne.symm hne)).trans ho1, hc1, hd1⟩
    · have hb' : b < s.heap.objs.size := by
        have e' : b = e ∨ b = it := by simpa using hb
        rcases e' with z | z
        · rw [z]; exact hel
        · rw [z]; exact hil
      rw [upd_ne (Nat.ne_of_lt hb')]
      exact (hf b hb).1
  done := by
    intro X hP hw hK hc i pins s σ H E I hf st hg
    subst hP hw hK
    obtain ⟨⟨old, he⟩, hit, hne⟩ := st
    obtain ⟨xs, hq, hx⟩ := hg
    obtain ⟨its, rv, p, hz⟩ := I.tuple hq
    obtain ⟨f0, f1, f2, f3, f4, f5⟩ := hf it (by simp)
    have hl := rv.length
    have hT : s.TypeIs (.ref e) "enumerate" := ⟨_, he, rfl⟩
    unfold pyNext
    refine wpAny_bind (wpAny_attempt (wpAny_callSpecial?_slot (name := Str.ofString "__next__") hT F.slot_enumerate_next
      (wpAny_call_entry F.slot_enumerate_next hT F.entry_enumerate_next ?_ (F.args_enumerate_next_1 _))))
    show wpAny _ _ (field (.ref e) 2 >>= _) _ _ _
    refine wpAny_bind (wpAny_field he rfl (x := .ref it) rfl ?_)
    refine wpAny_bind (wpAny_nextOf_tuple_end (A := X.A.in1) (I.ok.hd hc) hit p (by simp; omega) fun h' x he' hx' => ?_)
    obtain ⟨o, ho, hc'⟩ := hx'
    refine wpAny_bind (wpAny_isInstance (T := "StopIteration") (b := true) ⟨o, ho, hc'⟩ isSubtype_stop ?_)
    exact wpAny_pure ⟨rfl, I.turned (t' := s.toks) (fun b o hb q => he' b o hb q) f0 f1 f3 f4 f5⟩
  self := fun A i s Q E st h => let ⟨⟨_, he⟩, _⟩ := st; wpAny_pyIter_enum he h
def iEnumA (K : PySem.W.Frag) (ta : TA) : TI := fun σ H R => ta σ H fun vs H1 => ∃ a xs, vs = [.ref a] ∧ ((SqL K H1 a xs ∧ R (Ite K a) H1) ∨ (SqT K H1 a xs ∧ R (IteT K a) H1))
theorem pi_enumA {X : Cx} {e : Expr} {ta : TA} {p pos tpos : Pos} {elts : List Expr} {kk : Nat} (hg : Gl X "enumerate") (hm : X.mg "enumerate" = none) (ha : PA X [e] ta) (hs : starEach [e] X.env = [(false, eval e X.env)] := by rfl) :
    PI X (.Tuple elts kk tpos) (.Call (.Name "enumerate" p) [e] [] pos) (iEnumA X.K ta) := by
  refine ⟨fun pins s σ H R I h => ?_⟩
  refine Call_ (ld_blt I hg hm boot_enumerate (PyProof.Rows.callWith_type1 (thn (ha.run pos pins s σ H _ I h) fun us s1 ⟨vs, H1, I1, r1, q1⟩ => ?_) hs rfl))
  obtain ⟨a, xs, ex, q1⟩ := q1
  subst ex
  cases r1 with
  | cons r rr =>
    cases rr
    cases r
    have fp : ∀ b ∈ [s1.heap.objs.size + 1, s1.heap.objs.size], s1.heap.objs.size ≤ b := fun b hb => by
      have e' : b = s1.heap.objs.size + 1 ∨ b = s1.heap.objs.size := by simpa using hb
      rcases e' with z | z
      · rw [z]; exact Nat.le_add_right _ _
      · rw [z]; exact Nat.le_refl _
    rcases q1 with ⟨hq, q⟩ | ⟨hq, q⟩
    · obtain ⟨its, rv, p', hz⟩ := I1.list hq
      refine call_enumerate_list p'.isList fun h' he hit hsz hk => wpAny_pyIter_enum he ?_
      have I2 : Inv X pins σ H1 { s1 with heap := h' } := I1.kept (t' := s1.toks) hk
      exact ⟨s1.heap.objs.size + 1, [s1.heap.objs.size + 1, s1.heap.objs.size], _, _, H1, rfl, I2, turn_enum a (s1.heap.objs.size + 1) s1.heap.objs.size, ⟨⟨.none, he⟩, hit, Nat.succ_ne_self _⟩, fun b hb => I1.fpOk (fp b hb) (I1.hok.fresh (fp b hb)), q⟩
    · obtain ⟨its, rv, p', hz⟩ := I1.tuple hq
      refine call_enumerate_tup p' fun h' he hit hsz hk => wpAny_pyIter_enum he ?_
      have I2 : Inv X pins σ H1 { s1 with heap := h' } := I1.kept (t' := s1.toks) hk
      exact ⟨s1.heap.objs.size + 1, [s1.heap.objs.size + 1, s1.heap.objs.size], _, _, H1, rfl, I2, turn_enumT a (s1.heap.objs.size + 1) s1.heap.objs.size, ⟨⟨.none, he⟩, hit, Nat.succ_ne_self _⟩, fun b hb => I1.fpOk (fp b hb) (I1.hok.fresh (fp b hb)), q⟩
end L2
end

section
set_option Elab.async false
set_option linter.all false
set_option maxRecDepth 100000
set_option maxHeartbeats 4000000
/-! Walk: targets, walks. -/
namespace Mv
open PySem PySem.Spec PyProof.Rows L2
/-! ### slots -/
theorem setE_length : ∀ (e : Env) (i : Nat) (d : D), (setE e i d).length = e.length
  | [], _, _ => rfl
  | _ :: _, 0, _ => rfl
  | a :: r, i + 1, d => by show (a :: setE r i d).length = _; rw [List.length_cons, setE_length r i d, List.length_cons]
theorem getE_eq : ∀ (e : Env) (i : Nat), getE e i = (e[i]?).join
  | [], i => by simp [getE]
  | a :: r, 0 => by show a = _; simp
  | a :: r, i + 1 => by show getE r i = _; rw [getE_eq r i]; simp
theorem setE_eq : ∀ (e : Env) (i : Nat) (d : D), setE e i d = e.set i (some d)
  | [], _, _ => rfl
  | _ :: _, 0, _ => rfl
  | a :: r, i + 1, d => by show a :: setE r i d = _; rw [setE_eq r i d]; rfl
theorem wipeE_eq : ∀ (e : Env) (i : Nat), wipeE e i = e.set i none
  | [], _ => rfl
  | _ :: _, 0 => rfl
  | a :: r, i + 1 => by show a :: wipeE r i = _; rw [wipeE_eq r i]; rfl
theorem SimE.set {C : Cn} {W : Wd} {σ : L2.St} {e : Env} {i : Nat} {d : D} {v : V} (SE : SimE C W σ e) (r : RD C W d v) (hE : ∀ x, C.er = some x → i ≠ x.i) : SimE C W (List.set σ i (some v)) (setE e i d) := by
  rw [setE_eq]
  refine ⟨by rw [List.length_set, List.length_set]; exact SE.len, fun j d' h => ?_, fun x q => ?_⟩
  rotate_left
  · obtain ⟨h1, h2, h3⟩ := SE.er x q
    refine ⟨by rw [List.getElem?_set, if_neg (hE x q)]; exact h1, ?_, h3⟩
    rw [getE_eq, List.getElem?_set, if_neg (hE x q), ← getE_eq]; exact h2
  rw [getE_eq, List.getElem?_set] at h
  by_cases e1 : i = j
  · subst e1
    rw [if_pos rfl] at h
    by_cases hl : i < e.length
    · rw [if_pos hl] at h
      cases h
      exact ⟨v, by rw [List.getElem?_set, if_pos rfl, if_pos (by rw [← SE.len]; exact hl)], r⟩
    · rw [if_neg hl] at h; cases h
  · rw [if_neg e1, ← getE_eq] at h
    obtain ⟨w, h1, h2⟩ := SE.at_ j d' h
    exact ⟨w, by rw [List.getElem?_set, if_neg e1]; exact h1, h2⟩
theorem SimE.wipe1 {C : Cn} {W : Wd} {σ : L2.St} {e : Env} {i : Nat} (hE : C.er = none) (SE : SimE C W σ e) : SimE C W (List.set σ i none) (wipeE e i) := by
  rw [wipeE_eq]
  refine ⟨by rw [List.length_set, List.length_set]; exact SE.len, fun j d' h => ?_, fun x q => by rw [hE] at q; cases q⟩
  rw [getE_eq, List.getElem?_set] at h
  by_cases e1 : i = j
  · subst e1
    rw [if_pos rfl] at h
    by_cases hl : i < e.length
    · rw [if_pos hl] at h; cases h
    · rw [if_neg hl] at h; cases h
  · rw [if_neg e1, ← getE_eq] at h
    obtain ⟨w, h1, h2⟩ := SE.at_ j d' h
    exact ⟨w, by rw [List.getElem?_set, if_neg e1]; exact h1, h2⟩
theorem SimE.wps {C : Cn} {W : Wd} {σ : L2.St} {e : Env} (hE : C.er = none) (SE : SimE C W σ e) : ∀ vs : List Nat, SimE C W (L2.wipe σ vs) (wps e vs)
  | [] => SE
  | v :: vs => by
    rw [L2.wipe]
    exact (SimE.wps hE SE vs).wipe1 hE
/-! ### targets -/
mutual
def tgs : Tg → List Nat
  | .nm i => [i]
  | .tp ts => tgss ts
def tgss : List Tg → List Nat
  | [] => []
  | t :: r => tgs t ++ tgss r
end
/-- slots elsewhere stay -/
def Stay (σ σ' : L2.St) (l : List Nat) : Prop := List.length σ' = List.length σ ∧ ∀ j, j ∉ l → σ'[j]? = σ[j]?
def tG (C : Cn) (t : Tg) : TG := fun v σ H Q => ∃ W d e s e', SimS C W H s ∧ SimE C W σ e ∧ RD C W d v ∧ bndT t d e s = some e' ∧ ∀ σ', SimE C W σ' e' → Stay σ σ' (tgs t) → Q σ' H
def tGs (C : Cn) (ts : List Tg) : TGs := fun vs σ H Q => ∃ W ds e s e', SimS C W H s ∧ SimE C W σ e ∧ RDs C W ds vs ∧ bndTs ts ds e s = some e' ∧ ∀ σ', SimE C W σ' e' → Stay σ σ' (tgss ts) → Q σ' H
section
variable {X : Cx} {C : Cn} {Wx : WX}
theorem pgs_imp {es : List Expr} {t t' : TGs} (h : PGs X es t) (hi : ∀ v σ H R, t' v σ H R → t v σ H R) : PGs X es t' := ⟨fun pins s σ H v u Q I r q => h.run pins s σ H v u Q I r (hi _ _ _ _ q)⟩
theorem ok_gname {i : Nat} {x : Str} {pos : Pos} (hN : X.N.Nodup) (hi : X.N[i]? = some x) (hx : L2.Loc X.env.scope x) (hf : X.fn x = true ∨ List.lookup x X.env.scope.names = some NameKind.local) (hE : ∀ x, C.er = some x → i ≠ x.i) : PG X (.Name x pos) (tG C (.nm i)) := by
  refine pg_imp (pg_name hN hi hx hf) fun v σ H Q ⟨W, d, e, s, e', S, SE, r, hb, q⟩ => ?_
  cases hb
  refine q _ (SE.set r hE) ⟨List.length_set, fun j hj => ?_⟩
  rw [List.getElem?_set, if_neg (fun e => hj (by rw [e]; simp [tgs]))]
theorem ok_gnil : PGs X [] (tGs C []) := by
  refine pgs_imp pgs_nil fun vs σ H Q ⟨W, ds, e, s, e', S, SE, r, hb, q⟩ => ?_
  cases ds with
  | cons d ds => cases hb
  | nil =>
    cases r
    cases hb
    exact ⟨rfl, q _ SE ⟨rfl, fun _ _ => rfl⟩⟩
theorem ok_gcons {e : Expr} {es : List Expr} {t : Tg} {ts : List Tg} (hs : nst e = true) (h1 : PG X e (tG C t)) (h2 : PGs X es (tGs C ts)) : PGs X (e :: es) (tGs C (t :: ts)) := by
  refine pgs_imp (pgs_cons h1 h2 (by rw [assign_cons hs]; rfl)) fun vs σ H Q ⟨W, ds, en, s, e', S, SE, r, hb, q⟩ => ?_
  cases ds with
  | nil => cases hb
  | cons d ds =>
    cases r with | cons rd rs =>
    unfold bndTs at hb
    dsimp only at hb
    split at hb
    · rename_i e1 he1
      refine ⟨_, _, rfl, W, d, en, s, e1, S, SE, rd, he1, fun σ1 SE1 st1 => ?_⟩
      refine ⟨W, ds, e1, s, e', S, SE1, rs, hb, fun σ2 SE2 st2 => q σ2 SE2 ⟨st2.1.trans st1.1, fun j hj => ?_⟩⟩
      simp only [tgss, List.mem_append, not_or] at hj
      rw [st2.2 j hj.2, st1.2 j hj.1]
    · cases hb
theorem assign_len : ∀ {es : List Expr} (env : PySem.Env), es.all nst = true → (assignEach es env).length = es.length ∧ List.findIdx? (fun x => x.fst) (assignEach es env) = none
  | [], _, _ => ⟨rfl, rfl⟩
  | e :: es, env, h => by
    have h := (Bool.and_eq_true _ _).mp (show (nst e && es.all nst) = true from h)
    rw [assign_cons h.1]
    obtain ⟨h1, h2⟩ := assign_len (es := es) env h.2
    refine ⟨by rw [List.length_cons, h1, List.length_cons], ?_⟩
    rw [List.findIdx?_cons, h2]; rfl
theorem bndTs_len : ∀ {ts : List Tg} {ds : List D} {e e' : Env} {s : St}, bndTs ts ds e s = some e' → ds.length = ts.length
  | [], [], _, _, _, _ => rfl
  | [], _ :: _, _, _, _, h => by cases h
  | _ :: _, [], _, _, _, h => by cases h
  | t :: ts, d :: ds, e, e', s, h => by
    unfold bndTs at h
    dsimp only at h
    split at h
    · rw [List.length_cons, List.length_cons, bndTs_len h]
    · cases h
theorem pg_seq {es : List Expr} {k : Nat} {pos : Pos} {t : TGs} {n : Nat} (hc : X.calm = true) (h : PGs X es t) (hn : (assignEach es X.env).length = n) (hst : (assignEach es X.env).findIdx? (·.1) = none) :
    PG X (.Tuple es k pos) (fun v σ H Q => gTup X.K n t v σ H Q ∨ gLst X.K n t v σ H Q) :=
  ⟨fun pins s σ H v u Q I r hw => hw.elim (fun hw => (pg_tup (pos := pos) hc h hn hst).run pins s σ H v u Q I r hw) fun hw => (pg_lst (pos := pos) hc h hn hst).run pins s σ H v u Q I r hw⟩
theorem ok_gtup (hK : C.K = X.K) {es : List Expr} {k : Nat} {pos : Pos} {ts : List Tg} (hc : X.calm = true) (hs : es.all nst = true) (hl : es.length = ts.length) (h : PGs X es (tGs C ts)) : PG X (.Tuple es k pos) (tG C (.tp ts)) := by
  obtain ⟨a1, a2⟩ := assign_len (es := es) X.env hs
  refine pg_imp (pg_seq (n := es.length) hc h a1 a2) fun v σ H Q ⟨W, d, e, s, e', S, SE, r, hb, q⟩ => ?_
  unfold bndT at hb
  split at hb
  · rename_i l hl2
    obtain ⟨a, vs, rfl, hq, rd⟩ := sqv_ok S r (lstv_sqv hl2)
    rw [hK] at hq
    rcases hq with hq | hq
    · exact .inr ⟨_, _, rfl, hq, by rw [← rd.length, bndTs_len hb, hl], W, _, e, s, e', S, SE, rd, hb, q⟩
    · exact .inl ⟨_, _, rfl, hq, by rw [← rd.length, bndTs_len hb, hl], W, _, e, s, e', S, SE, rd, hb, q⟩
  · cases hb
/-! ### walks -/
theorem iter_list {pins : List (Addr × Obj)} {σ : L2.St} {H : Hp} {t : Shared} {tg : Expr} {a : Addr} {xs : List V} {R : It → Hp → Prop} (I : L2.Inv X pins σ H t) (hq : SqL X.K H a xs) (q : R (Itl X.K a) H) : wpAny (model X.prog X.w) X.A (pyIter (.ref a)) (PIE X pins σ tg R) X.xe t := by
  obtain ⟨its, rv, p, hz⟩ := Inv.list I hq
  exact wpAny_pyIter_list (PlainL.isList p) (pi_one I { cls := .type "list_iterator", data := .fields #[.ref a, .int 0 0] } (turn_list a _) ⟨_, Heap.get?_push_size t.heap rfl, rfl, rfl⟩ q)
theorem iter_tup {pins : List (Addr × Obj)} {σ : L2.St} {H : Hp} {t : Shared} {tg : Expr} {a : Addr} {xs : List V} {R : It → Hp → Prop} (I : L2.Inv X pins σ H t) (hq : SqT X.K H a xs) (q : R (Itt X.K a) H) : wpAny (model X.prog X.w) X.A (pyIter (.ref a)) (PIE X pins σ tg R) X.xe t := by
  obtain ⟨its, rv, p, hz⟩ := Inv.tuple I hq
  exact wpAny_pyIter_tuple p (pi_one I { cls := .type "tuple_iterator", data := .fields #[.ref a, .int 0 0] } (turn_tuple a _) ⟨_, Heap.get?_push_size t.heap rfl, rfl, rfl⟩ q)
theorem iter_str {pins : List (Addr × Obj)} {σ : L2.St} {H : Hp} {t : Shared} {tg : Expr} {x : Str} {u : Tok} {R : It → Hp → Prop} (I : L2.Inv X pins σ H t) (q : R (Its x) H) : wpAny (model X.prog X.w) X.A (pyIter (.str x u)) (PIE X pins σ tg R) X.xe t := by
  cases ha : (x.cps.all fun x => decide (x < 128)) with
  | false => exact wpAny_pyIter_wide ha (pi_one I { cls := .type "str_iterator", data := .fields #[.str x u, .int 0 0] } (turn_str _ x u "str_iterator" (.inr rfl)) ⟨_, Heap.get?_push_size t.heap rfl, rfl, rfl⟩ q)
  | true => exact wpAny_pyIter_ascii ha (pi_one I { cls := .type "str_ascii_iterator", data := .fields #[.str x u, .int 0 0] } (turn_str _ x u "str_ascii_iterator" (.inl rfl)) ⟨_, Heap.get?_push_size t.heap rfl, rfl, rfl⟩ q)
/-- what is walked stays: more is known, the cells among ds are locked -/
structure Lkd (W1 : Wd) (H1 : Hp) (ds : List D) (W2 : Wd) : Prop where
  F : ∀ a o, W1.F a = some o → W2.F a = some o
  ρ : ∀ n a, W1.ρ n = some a → W2.ρ n = some a
  lk : ∀ n a vs, .loc n ∈ ds → W1.ρ n = some a → H1 a = some (.lst vs) → ∃ c, W2.lk n = some (c, vs)
structure WalkOk (C : Cn) (W1 : Wd) (H1 : Hp) (ds l : List D) (J : It) : Prop where
  go : ∀ W2 H2 s2 i, Lkd W1 H1 ds W2 → SimS C W2 H2 s2 → i < l.length → J.go i H2
  stop : ∀ W2 H2 s2, Lkd W1 H1 ds W2 → SimS C W2 H2 s2 → J.stop l.length H2
  yld : ∀ W2 H2 s2 i x H3, Lkd W1 H1 ds W2 → SimS C W2 H2 s2 → i < l.length → J.yld i H2 x H3 → ∃ W3 d, W2.Le W3 ∧ SimS C W3 H3 s2 ∧ l[i]? = some d ∧ RD C W3 d x
theorem Lkd.rds {W1 W2 : Wd} {H1 : Hp} {ds : List D} (L : Lkd W1 H1 ds W2) {l : List D} {vs : List V} (r : RDs C W1 l vs) : RDs C W2 l vs :=
  RDs.lk (W := { W1 with F := W2.F, ρ := W2.ρ }) (W' := W2) rfl rfl (RDs.mono (W' := { W1 with F := W2.F, ρ := W2.ρ }) ⟨L.F, L.ρ, rfl, rfl⟩ r)
/-- the items of a walked sequence, as long as it is locked -/
theorem sq_stay {W1 : Wd} {H1 : Hp} {s1 : St} (S1 : SimS C W1 H1 s1) {x : D} {v : V} {l : List D} (r : RD C W1 x v) (e : sqv s1 x = some l) : ∃ a vs, v = .ref a ∧ RDs C W1 l vs ∧
    ((∀ ds W2 H2 s2, x ∈ ds → Lkd W1 H1 ds W2 → SimS C W2 H2 s2 → SqL C.K H2 a vs) ∧ SqL C.K H1 a vs ∧ (∀ z, x ≠ .tup z) ∨ (∀ ds W2 H2 s2, x ∈ ds → Lkd W1 H1 ds W2 → SimS C W2 H2 s2 → SqT C.K H2 a vs) ∧ SqT C.K H1 a vs ∧ ∃ z, x = .tup z) := by
  cases r with
  | tup h r => simp only [sqv] at e; cases e; exact ⟨_, _, rfl, r, .inr ⟨fun ds W2 H2 s2 _ L S2 => (h.mono L.F).sq S2.sub, h.sq S1.sub, _, rfl⟩⟩
  | lst h r => simp only [sqv] at e; cases e; exact ⟨_, _, rfl, r, .inl ⟨fun ds W2 H2 s2 _ L S2 => .inl (.inl (S2.sub _ _ (L.F _ _ h))), .inl (.inl (S1.sub _ _ h)), fun z h => by cases h⟩⟩
  | loc h =>
    rename_i n a
    simp only [sqv] at e
    cases q : fnd s1.cs n with
    | none => rw [q] at e; cases e
    | some o =>
      cases o with
      | lst k m =>
        rw [q] at e; cases e
        obtain ⟨a', vs, h1, h2, h3, h4⟩ := S1.cell n k l q
        rw [h] at h1; cases h1
        refine ⟨_, _, rfl, h4, .inl ⟨fun ds W2 H2 s2 hm L S2 => ?_, .inl (.inl h3), fun z h => by cases h⟩⟩
        obtain ⟨c, hc⟩ := L.lk n a vs hm h h3
        obtain ⟨k', l', a'', g1, g2, g3⟩ := S2.lock n c vs hc
        rw [L.ρ n a h] at g2; cases g2
        exact .inl (.inl g3)
      | dct kvs => rw [q] at e; cases e
  | scr h => simp only [sqv] at e; cases e; exact ⟨_, _, rfl, RDs.ints C W1 _, .inl ⟨fun ds W2 H2 s2 _ L S2 => sqL_mono (fun a o q => S2.sub _ _ (L.F _ _ q)) h, sqL_mono S1.sub h, fun z h => by cases h⟩⟩
  | _ => simp only [sqv] at e; cases e
theorem SqL.uniq {K : PySem.W.Frag} {H : Hp} {a : Addr} {xs ys : List V} (h1 : SqL K H a xs) (h2 : SqL K H a ys) : True := trivial
theorem walk_list {W1 : Wd} {H1 : Hp} {s1 : St} (S1 : SimS C W1 H1 s1) {ds l : List D} {a : Addr} {vs : List V} (r : RDs C W1 l vs) (hq : ∀ W2 H2 s2, Lkd W1 H1 ds W2 → SimS C W2 H2 s2 → SqL C.K H2 a vs) : WalkOk C W1 H1 ds l (Itl C.K a) := by
  refine ⟨fun W2 H2 s2 i L S2 hi => ?_, fun W2 H2 s2 L S2 => ⟨vs, hq W2 H2 s2 L S2, by rw [r.length]; exact Nat.le_refl _⟩, fun W2 H2 s2 i x H3 L S2 hi y => ?_⟩
  · have h := hq W2 H2 s2 L S2
    have hi' : i < vs.length := by rw [← r.length]; exact hi
    exact ⟨vs, vs[i], h, List.getElem?_eq_getElem hi'⟩
  · obtain ⟨e, y⟩ := y
    subst e
    have h := y vs (hq W2 _ s2 L S2)
    obtain ⟨d, h1, h2⟩ := (L.rds r).getV h
    exact ⟨W2, d, .refl _, S2, h1, h2⟩
theorem walk_tup {W1 : Wd} {H1 : Hp} {s1 : St} (S1 : SimS C W1 H1 s1) {ds l : List D} {a : Addr} {vs : List V} (r : RDs C W1 l vs) (hq : ∀ W2 H2 s2, Lkd W1 H1 ds W2 → SimS C W2 H2 s2 → SqT C.K H2 a vs) : WalkOk C W1 H1 ds l (Itt C.K a) := by
  refine ⟨fun W2 H2 s2 i L S2 hi => ?_, fun W2 H2 s2 L S2 => ⟨vs, hq W2 H2 s2 L S2, by rw [r.length]; exact Nat.le_refl _⟩, fun W2 H2 s2 i x H3 L S2 hi y => ?_⟩
  · have h := hq W2 H2 s2 L S2
    have hi' : i < vs.length := by rw [← r.length]; exact hi
    exact ⟨vs, vs[i], h, List.getElem?_eq_getElem hi'⟩
  · obtain ⟨e, y⟩ := y
    subst e
    have h := y vs (hq W2 _ s2 L S2)
    obtain ⟨d, h1, h2⟩ := (L.rds r).getV h
    exact ⟨W2, d, .refl _, S2, h1, h2⟩
theorem walk_str {W1 : Wd} {H1 : Hp} {ds : List D} {x : List Nat} : WalkOk C W1 H1 ds (x.map fun c => .str [c]) (Its ⟨x.toArray⟩) := by
  refine ⟨fun W2 H2 s2 i L S2 hi => ?_, fun W2 H2 s2 L S2 => ?_, fun W2 H2 s2 i v H3 L S2 hi y => ?_⟩
  · show i < (x.toArray).size
    simpa using hi
  · show (x.toArray).size ≤ _
    simp
  · obtain ⟨e, c, hc, ev⟩ := y
    subst e; subst ev
    have hc : x[i]? = some c := by simpa using hc
    exact ⟨W2, .str [c], .refl _, S2, by rw [List.getElem?_map, hc]; rfl, .str [c]⟩
theorem rngD_get : ∀ (n : Nat) (a : Int) (i : Nat), i < n → (rngD a n)[i]? = some (.int (a + (i : Int)))
  | 0, _, _, h => absurd h (Nat.not_lt_zero _)
  | n + 1, a, 0, _ => by simp [rngD]
  | n + 1, a, i + 1, h => by
    show (rngD (Int.add a (.ofNat 1)) n)[i]? = _
    rw [rngD_get n _ i (Nat.lt_of_succ_lt_succ h)]
    have : Int.add a (.ofNat 1) + (i : Int) = a + ((i + 1 : Nat) : Int) := by
      show a + 1 + (i : Int) = _
      omega
    rw [this]
theorem rngD_len : ∀ (n : Nat) (a : Int), (rngD a n).length = n
  | 0, _ => rfl
  | n + 1, a => by show (rngD _ n).length + 1 = _; rw [rngD_len n]
theorem walk_rng {W1 : Wd} {H1 : Hp} {ds : List D} {a : Int} {n : Nat} : WalkOk C W1 H1 ds (rngD a n) (Itr a n) := by
  refine ⟨fun W2 H2 s2 i L S2 hi => ?_, fun W2 H2 s2 L S2 => ?_, fun W2 H2 s2 i v H3 L S2 hi y => ?_⟩
  · rw [rngD_len] at hi; exact hi
  · show n ≤ _; rw [rngD_len]; exact Nat.le_refl _
  · rw [rngD_len] at hi
    obtain ⟨e, ev⟩ := y
    subst e; subst ev
    exact ⟨W2, _, .refl _, S2, rngD_get n a i hi, .int _⟩
theorem rngN_len : ∀ (n : Nat) (a : Int), (rngN a n).length = n
  | 0, _ => rfl
  | n + 1, a => by show (rngN _ n).length + 1 = _; rw [rngN_len n]
theorem rngN_get : ∀ (n : Nat) (a : Int) (i : Nat), i < n → (rngN a n)[i]? = some (.int (a + (i : Nat) * (-1)))
  | 0, _, i, h => by omega
  | n + 1, a, 0, _ => by simp [rngN]
  | n + 1, a, i + 1, h => by
    show (rngN (a - 1) n)[i]? = _
    rw [rngN_get n _ i (by omega), show a - 1 + (i : Int) * (-1) = a + ((i + 1 : Nat) : Int) * (-1) by omega]
theorem walk_rngN {W1 : Wd} {H1 : Hp} {ds : List D} {a : Int} {n : Nat} : WalkOk C W1 H1 ds (rngN a n) (Itc a (-1) n) := by
  refine ⟨fun W2 H2 s2 i L S2 hi => ?_, fun W2 H2 s2 L S2 => ?_, fun W2 H2 s2 i v H3 L S2 hi y => ?_⟩
  · rw [rngN_len] at hi; exact hi
  · show n ≤ _; rw [rngN_len]; exact Nat.le_refl _
  · rw [rngN_len] at hi
    obtain ⟨e, ev⟩ := y
    subst e; subst ev
    exact ⟨W2, _, .refl _, S2, rngN_get n a i hi, .int _⟩
theorem rngD_len' : ∀ (n : Nat) (a : Int), (rngD a n).length = n
  | 0, _ => rfl
  | n + 1, a => by show (rngD _ n).length + 1 = _; rw [rngD_len' n]
theorem rngD_get' : ∀ (n : Nat) (a : Int) (i : Nat), i < n → (rngD a n)[i]? = some (.int (a + (i : Nat) * 1))
  | 0, _, _, h => absurd h (Nat.not_lt_zero _)
  | n + 1, a, 0, _ => by simp [rngD]
  | n + 1, a, i + 1, h => by
    show (rngD (a + 1) n)[i]? = _
    rw [rngD_get' n _ i (by omega), show a + 1 + (i : Int) * 1 = a + ((i + 1 : Nat) : Int) * 1 by omega]
theorem walk_rngU {W1 : Wd} {H1 : Hp} {ds : List D} {a : Int} {n : Nat} : WalkOk C W1 H1 ds (rngD a n) (Itc a 1 n) := by
  refine ⟨fun W2 H2 s2 i L S2 hi => ?_, fun W2 H2 s2 L S2 => ?_, fun W2 H2 s2 i v H3 L S2 hi y => ?_⟩
  · rw [rngD_len'] at hi; exact hi
  · show n ≤ _; rw [rngD_len']; exact Nat.le_refl _
  · rw [rngD_len'] at hi
    obtain ⟨e, ev⟩ := y
    subst e; subst ev
    exact ⟨W2, _, .refl _, S2, rngD_get' n a i hi, .int _⟩
theorem enumD_get : ∀ (l : List D) (j i : Nat), (enumD j l)[i]? = (l[i]?).map fun d => .tup [.int (.ofNat (j + i)), d]
  | [], _, _ => by simp [enumD]
  | d :: r, j, 0 => by simp [enumD]
  | d :: r, j, i + 1 => by
    show (enumD (j + 1) r)[i]? = _
    rw [enumD_get r (j + 1) i, List.getElem?_cons_succ, show j + 1 + i = j + (i + 1) by omega]
theorem enumD_len : ∀ (l : List D) (j : Nat), (enumD j l).length = l.length
  | [], _ => rfl
  | d :: r, j => by show (enumD _ r).length + 1 = _; rw [enumD_len r]; rfl
theorem walk_enum {W1 : Wd} {H1 : Hp} {s1 : St} (S1 : SimS C W1 H1 s1) {ds l : List D} {a : Addr} {vs : List V} (r : RDs C W1 l vs) (hq : ∀ W2 H2 s2, Lkd W1 H1 ds W2 → SimS C W2 H2 s2 → SqL C.K H2 a vs) : WalkOk C W1 H1 ds (enumD 0 l) (Ite C.K a) := by
  refine ⟨fun W2 H2 s2 i L S2 hi => ?_, fun W2 H2 s2 L S2 => ⟨vs, hq W2 H2 s2 L S2, by rw [enumD_len, r.length]; exact Nat.le_refl _⟩, fun W2 H2 s2 i x H3 L S2 hi y => ?_⟩
  · have h := hq W2 H2 s2 L S2
    have hi' : i < vs.length := by rw [← r.length, ← enumD_len l 0]; exact hi
    exact ⟨vs, vs[i], h, List.getElem?_eq_getElem hi'⟩
  · obtain ⟨T, w, ev, hT, e, y⟩ := y
    subst e; subst ev
    obtain ⟨d, h1, h2⟩ := (L.rds r).getV (y vs (hq W2 _ s2 L S2))
    obtain ⟨le, S3, r3⟩ := S2.newT hT (.cons (.int (i : Int)) (.cons h2 .nil))
    exact ⟨_, _, le, S3, by rw [enumD_get, h1, Nat.zero_add]; rfl, r3⟩
theorem walk_enumT {W1 : Wd} {H1 : Hp} {s1 : St} (S1 : SimS C W1 H1 s1) {ds l : List D} {a : Addr} {vs : List V} (r : RDs C W1 l vs) (hq : ∀ W2 H2 s2, Lkd W1 H1 ds W2 → SimS C W2 H2 s2 → SqT C.K H2 a vs) : WalkOk C W1 H1 ds (enumD 0 l) (IteT C.K a) := by
  refine ⟨fun W2 H2 s2 i L S2 hi => ?_, fun W2 H2 s2 L S2 => ⟨vs, hq W2 H2 s2 L S2, by rw [enumD_len, r.length]; exact Nat.le_refl _⟩, fun W2 H2 s2 i x H3 L S2 hi y => ?_⟩
  · have h := hq W2 H2 s2 L S2
    have hi' : i < vs.length := by rw [← r.length, ← enumD_len l 0]; exact hi
    exact ⟨vs, vs[i], h, List.getElem?_eq_getElem hi'⟩
  · obtain ⟨T, w, ev, hT, e, y⟩ := y
    subst e; subst ev
    obtain ⟨d, h1, h2⟩ := (L.rds r).getV (y vs (hq W2 _ s2 L S2))
    obtain ⟨le, S3, r3⟩ := S2.newT hT (.cons (.int (i : Int)) (.cons h2 .nil))
    exact ⟨_, _, le, S3, by rw [enumD_get, h1, Nat.zero_add]; rfl, r3⟩
theorem zipD_get : ∀ (l m : List D) (i : Nat) (x y : D), l[i]? = some x → m[i]? = some y → (zipD l m)[i]? = some (.tup [x, y])
  | [], _, _, _, _, h, _ => by simp at h
  | _ :: _, [], _, _, _, _, h => by simp at h
  | a :: l, b :: m, 0, x, y, h1, h2 => by simp at h1 h2; subst h1; subst h2; rfl
  | a :: l, b :: m, i + 1, x, y, h1, h2 => zipD_get l m i x y (by simpa using h1) (by simpa using h2)
theorem zipD_len : ∀ (l m : List D), (zipD l m).length = min l.length m.length
  | [], _ => by simp [zipD]
  | _ :: _, [] => by simp [zipD]
  | a :: l, b :: m => by show (zipD l m).length + 1 = _; rw [zipD_len l m]; simp
theorem walk_zip {W1 : Wd} {H1 : Hp} {s1 : St} (S1 : SimS C W1 H1 s1) {ds l m : List D} {a b : Addr} {vs ws : List V} (r : RDs C W1 l vs) (r2 : RDs C W1 m ws) (hq : ∀ W2 H2 s2, Lkd W1 H1 ds W2 → SimS C W2 H2 s2 → SqL C.K H2 a vs)
    (hq2 : ∀ W2 H2 s2, Lkd W1 H1 ds W2 → SimS C W2 H2 s2 → SqL C.K H2 b ws) : WalkOk C W1 H1 ds (zipD l m) (Itz C.K a b) := by
  have hl := zipD_len l m
  rw [r.length, r2.length] at hl
  refine ⟨fun W2 H2 s2 i L S2 hi => ?_, fun W2 H2 s2 L S2 => ⟨vs, ws, hq W2 H2 s2 L S2, hq2 W2 H2 s2 L S2, by rw [hl]; omega⟩, fun W2 H2 s2 i x H3 L S2 hi y => ?_⟩
  · rw [hl] at hi
    have hi' : i < vs.length := by omega
    have hi2 : i < ws.length := by omega
    exact ⟨vs, ws, vs[i], ws[i], hq W2 H2 s2 L S2, hq2 W2 H2 s2 L S2, List.getElem?_eq_getElem hi', List.getElem?_eq_getElem hi2⟩
  · obtain ⟨T, v, w, ev, hT, e, y, y2⟩ := y
    subst e; subst ev
    obtain ⟨d, h1, h2⟩ := (L.rds r).getV (y vs (hq W2 _ s2 L S2))
    obtain ⟨d2, g1, g2⟩ := (L.rds r2).getV (y2 ws (hq2 W2 _ s2 L S2))
    obtain ⟨le, S3, r3⟩ := S2.newT hT (.cons h2 (.cons g2 .nil))
    exact ⟨_, _, le, S3, zipD_get _ _ _ _ _ h1 g1, r3⟩
theorem walk_zipT {W1 : Wd} {H1 : Hp} {s1 : St} (S1 : SimS C W1 H1 s1) {ds l m : List D} {a b : Addr} {vs ws : List V} (r : RDs C W1 l vs) (r2 : RDs C W1 m ws) (hq : ∀ W2 H2 s2, Lkd W1 H1 ds W2 → SimS C W2 H2 s2 → SqT C.K H2 a vs)
    (hq2 : ∀ W2 H2 s2, Lkd W1 H1 ds W2 → SimS C W2 H2 s2 → SqT C.K H2 b ws) : WalkOk C W1 H1 ds (zipD l m) (RZ.ItzT C.K a b) := by
  have hl := zipD_len l m
  rw [r.length, r2.length] at hl
  refine ⟨fun W2 H2 s2 i L S2 hi => ?_, fun W2 H2 s2 L S2 => ⟨vs, ws, hq W2 H2 s2 L S2, hq2 W2 H2 s2 L S2, by rw [hl]; omega⟩, fun W2 H2 s2 i x H3 L S2 hi y => ?_⟩
  · rw [hl] at hi
    have hi' : i < vs.length := by omega
    have hi2 : i < ws.length := by omega
    exact ⟨vs, ws, vs[i], ws[i], hq W2 H2 s2 L S2, hq2 W2 H2 s2 L S2, List.getElem?_eq_getElem hi', List.getElem?_eq_getElem hi2⟩
  · obtain ⟨T, v, w, ev, hT, e, y, y2⟩ := y
    subst e; subst ev
    obtain ⟨d, h1, h2⟩ := (L.rds r).getV (y vs (hq W2 _ s2 L S2))
    obtain ⟨d2, g1, g2⟩ := (L.rds r2).getV (y2 ws (hq2 W2 _ s2 L S2))
    obtain ⟨le, S3, r3⟩ := S2.newT hT (.cons h2 (.cons g2 .nil))
    exact ⟨_, _, le, S3, zipD_get _ _ _ _ _ h1 g1, r3⟩
/-- what is walked, beside wk -/
def tI (C : Cn) (Wx : WX) (k : Wk) (es : EsT) : TI := fun σ H R => ∃ W e s, SimS C W H s ∧ SimE C W σ e ∧
  RsQ C W (es e s) (fun vs H1 => ∃ W1 ds s1 l, W.Le W1 ∧ SimS C W1 H1 s1 ∧ RDs C W1 ds vs ∧ wk k ds s1 = some l ∧ ∀ J, WalkOk C W1 H1 ds l J → R J H1) (fun cls d H' => Wx cls d σ H')
theorem tqv_tup {x : D} {l : List D} (h : tqv x = some l) : x = .tup l := by
  cases x <;> cases h; rfl
theorem ok_wval (hK : C.K = X.K) {tg e : Expr} {r : EvT} (he : PE X e (tE C Wx r)) : PI X tg e (tI C Wx .val (esC r esN)) := by
  refine ⟨fun pins t σ H R I h => ?_⟩
  obtain ⟨W, en, s, S, SE, q⟩ := h
  have q' : tE C Wx r σ H (fun v H1 => ∃ W1 d s1 l, SimS C W1 H1 s1 ∧ RD C W1 d v ∧ wkVal [d] s1 = some l ∧ ∀ J, WalkOk C W1 H1 [d] l J → R J H1) := by
    refine ⟨W, en, s, S, SE, ?_⟩
    unfold esC at q
    cases z : r en s with
    | ok d s1 =>
      rw [z] at q
      intro W' H' v le S' r'
      obtain ⟨W1, ds, s1', l, le1, S1, rs, hw, hj⟩ := q W' H' [v] le S' (.cons r' .nil)
      cases rs with | cons r1 rn =>
      cases rn
      exact ⟨W1, _, s1', l, S1, r1, hw, hj⟩
    | exc c p s1 => rw [z] at q; exact q
    | bad n => rw [z] at q; exact q
  refine thn (he.run pins t σ H _ I q') fun u t1 hh => ?_
  obtain ⟨v, H1, I1, rv, W1, d, s1, l, S1, rd, hw, hj⟩ := hh
  unfold wkVal at hw
  dsimp only at hw
  split at hw
  · rename_i a n
    cases hw
    cases rd with | rng hp =>
    obtain ⟨b, tt, tu, tv, hr, hsm, hsz⟩ := (I1.hok _ _ (S1.sub _ _ hp)).1
    obtain rfl : u = Value.ref _ := rv
    refine wpAny_pyIter_range hr hsm ?_
    refine pi_one (tk := t1.toks) I1 _ (turn_rangeC _ a 1 n) ?_ (hj _ walk_rngU)
    have e1 : a + ((0 : Nat) : Int) * 1 = a := by simp
    have e2 : (n : Int) - ((0 : Nat) : Int) = Builtin.Range.rangeSize a b 1 := by rw [hsz]; simp
    show IsRangeIter _ _ (a + ((0 : Nat) : Int) * 1) ((n : Int) - ((0 : Nat) : Int)) 1
    rw [e1, e2]
    exact Heap.get?_push_size _ rfl
  · cases hw
    cases rd
    obtain ⟨tk, eu⟩ := rv
    subst eu
    exact iter_str I1 (hj _ walk_str)
  · obtain ⟨a, vs, ev, r, hq⟩ := sq_stay S1 rd hw
    subst ev
    obtain rfl : u = Value.ref a := rv
    rcases hq with ⟨h1, h2, _⟩ | ⟨h1, h2, _⟩
    · have q := hj _ (walk_list S1 r fun W2 H2 s2 L S2 => h1 _ W2 H2 s2 (by simp) L S2)
      rw [hK] at h2 q
      exact iter_list I1 h2 q
    · have q := hj _ (walk_tup S1 r fun W2 H2 s2 L S2 => h1 _ W2 H2 s2 (by simp) L S2)
      rw [hK] at h2 q
      exact iter_tup I1 h2 q
theorem RsQ.imp {W : Wd} {r : Rs} {Q Q' : List V → Hp → Prop} {E : XK} (h : RsQ C W r Q E) (hQ : ∀ v H, Q v H → Q' v H) : RsQ C W r Q' E := by
  cases r with
  | ok d s => exact fun W' H' v a b c => hQ _ _ (h W' H' v a b c)
  | exc c p s => exact h
  | bad n => exact h
/-- as many values as terms -/
theorem rs1 {W : Wd} {ra : EvT} {e : Env} {s : St} {Q : List V → Hp → Prop} {E : XK} (h : RsQ C W (esC ra esN e s) Q E) : RsQ C W (esC ra esN e s) (fun vs H => (∃ v, vs = [v]) ∧ Q vs H) E := by
  unfold esC at h ⊢
  cases z : ra e s with
  | ok d s1 =>
    rw [z] at h
    intro W' H' vs le S r
    refine ⟨?_, h W' H' vs le S r⟩
    cases r with | cons r1 rn =>
    cases rn
    exact ⟨_, rfl⟩
  | exc c p s1 => rw [z] at h; exact h
  | bad n => rw [z] at h; exact h
theorem rs2 {W : Wd} {ra rb : EvT} {e : Env} {s : St} {Q : List V → Hp → Prop} {E : XK} (h : RsQ C W (esC ra (esC rb esN) e s) Q E) : RsQ C W (esC ra (esC rb esN) e s) (fun vs H => (∃ v w, vs = [v, w]) ∧ Q vs H) E := by
  unfold esC at h ⊢
  cases z : ra e s with
  | ok d s1 =>
    rw [z] at h
    have h : RsQ C W (((rb e s1).bns fun d s => .ok [d] s).bns fun ds s => .ok (d :: ds) s) Q E := h
    show RsQ C W (((rb e s1).bns fun d s => .ok [d] s).bns fun ds s => .ok (d :: ds) s) _ E
    cases z2 : rb e s1 with
    | ok d2 s2 =>
      rw [z2] at h
      intro W' H' vs le S r
      refine ⟨?_, h W' H' vs le S r⟩
      cases r with | cons r1 rn =>
      cases rn with | cons r2 rn =>
      cases rn
      exact ⟨_, _, rfl⟩
    | exc c p s1 => rw [z2] at h; exact h
    | bad n => rw [z2] at h; exact h
  | exc c p s1 => rw [z] at h; exact h
  | bad n => rw [z] at h; exact h
theorem ok_wrng1 {tg a : Expr} {ra : EvT} {p pos : Pos} (hg : Gl X (Str.ofString "range")) (hm : X.mg (Str.ofString "range") = none) (hs : nst a = true) (ha : PE X a (tE C Wx ra)) : PI X tg (.Call (.Name (Str.ofString "range") p) [a] [] pos) (tI C Wx .rng (esC ra esN)) := by
  refine pi_imp (pi_range1 hg hm (pa1 hs ha) (by rw [star_cons hs]; rfl)) fun σ H R ⟨W, e, s, S, SE, q⟩ => ⟨W, e, s, S, SE, RsQ.imp (rs1 q) fun vs H1 ⟨⟨v, ev⟩, W1, ds, s1, l, le, S1, r, hw0, hj⟩ => ?_⟩
  subst ev
  have hw : wkRng ds s1 = some l := hw0
  cases r with | cons r1 rn =>
  cases rn
  unfold wkRng at hw
  dsimp only at hw
  split at hw
  · rename_i b
    cases r1
    cases hb : small62 b with
    | false => rw [hb] at hw; cases hw
    | true =>
      rw [hb] at hw; cases hw
      have := small62_iff hb
      exact ⟨b, rfl, by omega, by omega, hj _ walk_rng⟩
  · cases hw
theorem ok_wrng2 {tg a b : Expr} {ra rb : EvT} {p pos : Pos} (hg : Gl X (Str.ofString "range")) (hm : X.mg (Str.ofString "range") = none) (hs : nst a = true) (hs2 : nst b = true) (ha : PE X a (tE C Wx ra)) (hb : PE X b (tE C Wx rb)) : PI X tg (.Call (.Name (Str.ofString "range") p) [a, b] [] pos) (tI C Wx .rng (esC ra (esC rb esN))) := by
  refine pi_imp (pi_range2 hg hm (pa2 hs hs2 ha hb) (by rw [star_cons hs, star_cons hs2]; rfl) (by rw [star_cons hs2]; rfl)) fun σ H R ⟨W, e, s, S, SE, q⟩ => ⟨W, e, s, S, SE, RsQ.imp (rs2 q) fun vs H1 ⟨⟨v, w, ev⟩, W1, ds, s1, l, le, S1, r, hw0, hj⟩ => ?_⟩
  subst ev
  have hw : wkRng ds s1 = some l := hw0
  cases r with | cons r1 rn =>
  cases rn with | cons r2 rn =>
  cases rn
  unfold wkRng at hw
  dsimp only at hw
  split at hw
  · split at hw
    · rename_i i _ j
      cases r1; cases r2
      cases hb : (small62 i && small62 j) with
      | false => rw [hb] at hw; cases hw
      | true =>
        rw [hb] at hw; cases hw
        have hb := (Bool.and_eq_true _ _).mp hb
        have h1 := small62_iff hb.1
        have h2 := small62_iff hb.2
        exact ⟨i, j, rfl, ⟨by omega, by omega, by omega, by omega⟩, hj _ walk_rng⟩
    · cases hw
  · cases hw
/-- .. of three -/
theorem rs3 {W : Wd} {ra rb rc : EvT} {e : Env} {s : St} {Q : List V → Hp → Prop} {E : XK} (h : RsQ C W (esC ra (esC rb (esC rc esN)) e s) Q E) : RsQ C W (esC ra (esC rb (esC rc esN)) e s) (fun vs H => (∃ u v w, vs = [u, v, w]) ∧ Q vs H) E := by
  unfold esC at h ⊢
  cases z : ra e s with
  | ok d s1 =>
    rw [z] at h
    have h : RsQ C W (((rb e s1).bns fun d s => ((rc e s).bns fun d s => .ok [d] s).bns fun ds s => .ok (d :: ds) s).bns fun ds s => .ok (d :: ds) s) Q E := h
    show RsQ C W (((rb e s1).bns fun d s => ((rc e s).bns fun d s => .ok [d] s).bns fun ds s => .ok (d :: ds) s).bns fun ds s => .ok (d :: ds) s) _ E
    cases z2 : rb e s1 with
    | ok d2 s2 =>
      rw [z2] at h
      have h : RsQ C W ((((rc e s2).bns fun d s => .ok [d] s).bns fun ds s => .ok (d2 :: ds) s).bns fun ds s => .ok (d :: ds) s) Q E := h
      show RsQ C W ((((rc e s2).bns fun d s => .ok [d] s).bns fun ds s => .ok (d2 :: ds) s).bns fun ds s => .ok (d :: ds) s) _ E
      cases z3 : rc e s2 with
      | ok d3 s3 =>
        rw [z3] at h
        intro W' H' vs le S r
        refine ⟨?_, h W' H' vs le S r⟩
        cases r with | cons r1 rn =>
        cases rn with | cons r2 rn =>
        cases rn with | cons r3 rn =>
        cases rn
        exact ⟨_, _, _, rfl⟩
      | exc c p s1 => rw [z3] at h; exact h
      | bad n => rw [z3] at h; exact h
    | exc c p s1 => rw [z2] at h; exact h
    | bad n => rw [z2] at h; exact h
  | exc c p s1 => rw [z] at h; exact h
  | bad n => rw [z] at h; exact h
theorem pa3 {a b c : Expr} {ra rb rc : EvT} (hs : nst a = true) (hs2 : nst b = true) (hs3 : nst c = true) (ha : PE X a (tE C Wx ra)) (hb : PE X b (tE C Wx rb)) (hc : PE X c (tE C Wx rc)) : PA X [a, b, c] (tA C Wx (esC ra (esC rb (esC rc esN)))) := ok_cons hs ha (ok_cons hs2 hb (ok_cons hs3 hc ok_nil))
theorem ok_wrng3 {tg a b c : Expr} {ra rb rc : EvT} {p pos : Pos} (hg : Gl X (Str.ofString "range")) (hm : X.mg (Str.ofString "range") = none) (hs : nst a = true) (hs2 : nst b = true) (hs3 : nst c = true) (ha : PE X a (tE C Wx ra)) (hb : PE X b (tE C Wx rb)) (hc : PE X c (tE C Wx rc)) :
    PI X tg (.Call (.Name (Str.ofString "range") p) [a, b, c] [] pos) (tI C Wx .rng (esC ra (esC rb (esC rc esN)))) := by
  refine pi_imp (pi_range3 hg hm (pa3 hs hs2 hs3 ha hb hc) (by rw [star_cons hs]) (by rw [star_cons hs2, star_cons hs3]; rfl)) fun σ H R ⟨W, e, s, S, SE, q⟩ => ⟨W, e, s, S, SE, RsQ.imp (rs3 q) fun vs H1 ⟨⟨u, v, w, ev⟩, W1, ds, s1, l, le, S1, r, hw0, hj⟩ => ?_⟩
  subst ev
  have hw : wkRng ds s1 = some l := hw0
  cases r with | cons r1 rn =>
  cases rn with | cons r2 rn =>
  cases rn with | cons r3 rn =>
  cases rn
  unfold wkRng at hw
  dsimp only at hw
  split at hw
  · split at hw
    · split at hw
      · rename_i i _ j _ k
        cases r1; cases r2; cases r3
        cases hb : (small62 i && small62 j && ieqb k (.negSucc 0)) with
        | false => rw [hb] at hw; cases hw
        | true =>
          rw [hb] at hw; cases hw
          simp only [Bool.and_eq_true] at hb
          have h1 := small62_iff hb.1.1
          have h2 := small62_iff hb.1.2
          have h3 := (ieqb_iff _ _).mp hb.2
          have h3 : k = -1 := h3
          subst h3
          exact ⟨i, j, -1, _, rfl, RgC.neg (by omega) (by omega) (by omega) (by omega), hj _ walk_rngN⟩
      · cases hw
    · cases hw
  · cases hw
theorem ok_wenum (hK : C.K = X.K) {a : Expr} {elts : List Expr} {kk : Nat} {tpos : Pos} {ra : EvT} {p pos : Pos} (hg : Gl X (Str.ofString "enumerate")) (hm : X.mg (Str.ofString "enumerate") = none) (hs : nst a = true) (ha : PE X a (tE C Wx ra)) :
    PI X (.Tuple elts kk tpos) (.Call (.Name (Str.ofString "enumerate") p) [a] [] pos) (tI C Wx .enum (esC ra esN)) := by
  refine pi_imp (pi_enumA hg hm (pa1 hs ha) (by rw [star_cons hs]; rfl)) fun σ H R ⟨W, e, s, S, SE, q⟩ => ⟨W, e, s, S, SE, RsQ.imp (rs1 q) fun vs H1 ⟨⟨v, ev⟩, W1, ds, s1, l, le, S1, r, hw0, hj⟩ => ?_⟩
  subst ev
  have hw : wkEnum ds s1 = some l := hw0
  cases r with | cons r1 rn =>
  cases rn
  unfold wkEnum at hw
  dsimp only at hw
  split at hw
  · rename_i l' e'
    cases hw
    obtain ⟨a, vs, ev, r, hq⟩ := sq_stay S1 r1 e'
    subst ev
    rcases hq with ⟨g1, g2, _⟩ | ⟨g1, g2, z, ez⟩
    · have q := hj _ (walk_enum S1 r fun W2 H2 s2 L S2 => g1 _ W2 H2 s2 (by simp) L S2)
      rw [hK] at g2 q
      exact ⟨a, vs, rfl, .inl ⟨g2, q⟩⟩
    · have q := hj _ (walk_enumT S1 r fun W2 H2 s2 L S2 => g1 _ W2 H2 s2 (by simp) L S2)
      rw [hK] at g2 q
      exact ⟨a, vs, rfl, .inr ⟨g2, q⟩⟩
  · cases hw
theorem ok_wzip (hK : C.K = X.K) {a b : Expr} {elts : List Expr} {kk : Nat} {tpos : Pos} {ra rb : EvT} {p pos : Pos} (hg : Gl X (Str.ofString "zip")) (hm : X.mg (Str.ofString "zip") = none) (hs : nst a = true) (hs2 : nst b = true) (ha : PE X a (tE C Wx ra)) (hb : PE X b (tE C Wx rb)) :
    PI X (.Tuple elts kk tpos) (.Call (.Name (Str.ofString "zip") p) [a, b] [] pos) (tI C Wx .zip (esC ra (esC rb esN))) := by
  refine pi_imp (RZ.pi_zipA hg hm (pa2 hs hs2 ha hb) (star_cons hs _) (star_any _ _ (by simp [hs2]))) fun σ H R ⟨W, e, s, S, SE, q⟩ => ⟨W, e, s, S, SE, RsQ.imp (rs2 q) fun vs H1 ⟨⟨v, w, ev⟩, W1, ds, s1, l, le, S1, r, hw0, hj⟩ => ?_⟩
  subst ev
  have hw : wkZip ds s1 = some l := hw0
  cases r with | cons r1 rn =>
  cases rn with | cons r2 rn =>
  cases rn
  unfold wkZip at hw
  dsimp only at hw
  split at hw
  · rename_i l1 e1
    split at hw
    · rename_i l2 e2
      cases hw
      have e1 := tqv_tup e1
      have e2 := tqv_tup e2
      subst e1; subst e2
      obtain ⟨a, vs, ev, r, hq⟩ := sq_stay S1 r1 (show sqv s1 (.tup l1) = some l1 from rfl)
      obtain ⟨b, ws, ew, r', hq'⟩ := sq_stay S1 r2 (show sqv s1 (.tup l2) = some l2 from rfl)
      subst ev; subst ew
      rcases hq with ⟨_, _, z⟩ | ⟨g1, g2, _⟩
      · exact absurd rfl (z l1)
      · rcases hq' with ⟨_, _, z⟩ | ⟨g1', g2', _⟩
        · exact absurd rfl (z l2)
        · have q := hj _ (walk_zipT S1 r r' (fun W2 H2 s2 L S2 => g1 _ W2 H2 s2 (by simp) L S2) (fun W2 H2 s2 L S2 => g1' _ W2 H2 s2 (by simp) L S2))
          rw [hK] at g2 g2' q
          exact ⟨a, b, vs, ws, rfl, .inr ⟨g2, g2', q⟩⟩
    · cases hw
  split at hw
  · rename_i l1 e1
    split at hw
    · rename_i l2 e2
      cases hw
      obtain ⟨h1, h1'⟩ := lqv_sqv e1
      obtain ⟨h2, h2'⟩ := lqv_sqv e2
      obtain ⟨a, vs, ev, r, hq⟩ := sq_stay S1 r1 h1
      obtain ⟨b, ws, ew, r', hq'⟩ := sq_stay S1 r2 h2
      subst ev; subst ew
      rcases hq with ⟨g1, g2, _⟩ | ⟨g1, g2, z, ez⟩
      · rcases hq' with ⟨g1', g2', _⟩ | ⟨g1', g2', z, ez⟩
        · have q := hj _ (walk_zip S1 r r' (fun W2 H2 s2 L S2 => g1 _ W2 H2 s2 (by simp) L S2) (fun W2 H2 s2 L S2 => g1' _ W2 H2 s2 (by simp) L S2))
          rw [hK] at g2 g2' q
          exact ⟨a, b, vs, ws, rfl, .inl ⟨g2, g2', q⟩⟩
        · exact absurd ez (h2' z)
      · exact absurd ez (h1' z)
    · cases hw
  · cases hw
end
end Mv
end

section
set_option Elab.async false
set_option linter.all false
set_option maxRecDepth 100000
set_option maxHeartbeats 4000000
/-! RngK: list(range(..)), tuple(range(..)). -/
namespace Mv
open PySem PySem.Spec PyProof.Rows L2
section
variable {X : Cx} {C : Cn} {Wx : WX}
theorem starEach_nil' (e : Expr) (env : PySem.Env) (h : nst e = true) : starEach [e] env = (false, eval e env) :: starEach [] env := star_cons h env
/-- an expression that makes a range -/
def PRgG (X : Cx) (e : Expr) (t : L2.St → Hp → (Int → Int → Nat → Hp → Prop) → Prop) : Prop :=
  ∀ (pins : List (Addr × Obj)) (s : Shared) (σ : L2.St) (H : Hp) (Q : Int → Int → Nat → Hp → Prop), L2.Inv X pins σ H s → t σ H Q →
    wpAny (model X.prog X.w) X.A (eval e X.env) (fun x s' => ∃ r a b c n t u v H', x = .ref r ∧ IsRange s'.heap r a b c t u v ∧ RgC a b c n ∧ L2.Inv X pins σ H' s' ∧ Q a c n H') X.xe s
theorem RgC.one {i j : Int} (ha : -(2 ^ 62) ≤ i) (ha' : i < 2 ^ 62) (hb : -(2 ^ 62) ≤ j) (hb' : j < 2 ^ 62) : RgC i j 1 (j - i).toNat :=
  ⟨by decide, by decide, small_one ha ha' hb hb', rangeSize_nat i j⟩
def tRgG (ta : TA) : L2.St → Hp → (Int → Int → Nat → Hp → Prop) → Prop := fun σ H Q => ta σ H fun vs H1 => ∃ a b c n, RgC a b c n ∧ ((vs = [.int b] ∧ a = 0 ∧ c = 1) ∨ (vs = [.int a, .int b] ∧ c = 1) ∨ vs = [.int a, .int b, .int c]) ∧ Q a c n H1
theorem prg_any {x : Expr} {xs : List Expr} {ta : TA} {p pos : Pos} (hg : Gl X "range") (hm : X.mg "range" = none) (hs : (x :: xs).all nst = true) (ha : PA X (x :: xs) ta) : PRgG X (.Call (.Name "range" p) (x :: xs) [] pos) (tRgG ta) := by
  intro pins s σ H Q I h
  have hs2 := (Bool.and_eq_true _ _).mp (show (nst x && xs.all nst) = true from hs)
  refine Call_ (ld_blt I hg hm boot_range (PyProof.Rows.callWith_type1 (thn (ha.run pos pins s σ H _ I h) fun us s1 ⟨vs, H1, I1, r1, a, b, c, n, hc, e, q⟩ => ?_) (star_cons hs2.1 _) (star_any pos _ hs2.2)))
  rcases e with ⟨e, e1, e2⟩ | ⟨e, e1⟩ | e
  · subst e e1 e2
    cases r1 with | cons r rr =>
    cases rr
    obtain ⟨t, rfl⟩ := r
    exact call_range_1 ⟨_, 0, b, 1, n, _, _, _, H1, rfl, IsRange.new _ _ _ _ _ _ _, hc, I1.kept fun b u e => Heap.get?_push_of_some _ e, q⟩
  · subst e e1
    cases r1 with | cons r rr =>
    cases rr with | cons r' rr =>
    cases rr
    obtain ⟨t, rfl⟩ := r
    obtain ⟨t', rfl⟩ := r'
    exact call_range_2 ⟨_, a, b, 1, n, _, _, _, H1, rfl, IsRange.new _ _ _ _ _ _ _, hc, I1.kept fun b u e => Heap.get?_push_of_some _ e, q⟩
  · subst e
    cases r1 with | cons r rr =>
    cases rr with | cons r' rr =>
    cases rr with | cons r'' rr =>
    cases rr
    obtain ⟨t, rfl⟩ := r
    obtain ⟨t', rfl⟩ := r'
    obtain ⟨t'', rfl⟩ := r''
    exact call_range_3 hc.1 ⟨_, a, b, c, n, _, _, _, H1, rfl, IsRange.new _ _ _ _ _ _ _, hc, I1.kept fun b u e => Heap.get?_push_of_some _ e, q⟩ (.inl (PyProof.noPylong_small hc.2.1))
def rgG (a c : Int) (n : Nat) : List V := (List.range n).map fun i => V.int (a + (i : Nat) * c)
theorem vals_rgG {a c : Int} {n : Nat} {acc : Array Value} (h : ItemsOf (fun i v => ∃ t, v = .int (a + i * c) t) acc n) : Vals (rgG a c n) acc.toList := by
  have e : acc.toList.length = n := by rw [Array.length_toList]; exact h.1
  unfold rgG
  rw [← e]
  refine vals_of_get acc.toList _ fun j u hj => ?_
  obtain ⟨t, rfl⟩ := h.2 j u (by rw [← hj, Array.getElem?_toList])
  exact ⟨t, rfl⟩
theorem rgG_length (a c : Int) (n : Nat) : (rgG a c n).length = n := by unfold rgG; rw [List.length_map, List.length_range]
variable {e : Expr} {te : L2.St → Hp → (Int → Int → Nat → Hp → Prop) → Prop}
def tRgO (b : Bool) (te : L2.St → Hp → (Int → Int → Nat → Hp → Prop) → Prop) : TE := fun σ H Q => te σ H fun a c n H1 => n ≤ 2 ^ 24 ∧ ∀ q, H1 q = none → Q (.ref q) (upd H1 q (cond b (.tup (rgG a c n)) (.lst (rgG a c n))))
theorem pe_listRgG {p pos : Pos} (hc : X.calm = true) (hg : Gl X "list") (hm : X.mg "list" = none) (he : PRgG X e te) (na : starEach [e] X.env = (false, eval e X.env) :: starEach [] X.env := by rfl) : PE X (.Call (.Name "list" p) [e] [] pos) (tRgO false te) := by
  refine ⟨fun pins s σ H Q I h => ?_⟩
  refine Call_ (ld_blt I hg hm boot_list (PyProof.Rows.callWith_type1 (args_cons (thn (he pins s σ H _ I h) fun x s1 ⟨r, a, b, c, n, t, u, v, H1, ex, hr, hrg, I1, hn, q⟩ => args_nil ?_) na) na))
  subst ex
  refine call_list_range (n := n) (I1.ok.hd hc) hr hrg.2.2.1 hrg.2.2.2 hn fun h' tk acc c' hk e' hi => ?_
  refine ⟨.ref s1.heap.objs.size, upd H1 s1.heap.objs.size (.lst (rgG a c n)), I1.laid hk (Nat.le_refl _) (show ObjOk X.prog X.w _ _ _ (.lst (rgG a c n)) from ⟨?_, acc.toList, c', vals_rgG hi, ?_⟩), rfl, q _ (I1.hok.fresh (Nat.le_refl _))⟩
  · rw [rgG_length, sizeLine_eq]; omega
  · rw [Array.toArray_toList]; exact e'
theorem pe_tupRgG {p pos : Pos} (hc : X.calm = true) (hg : Gl X "tuple") (hm : X.mg "tuple" = none) (he : PRgG X e te) (na : starEach [e] X.env = (false, eval e X.env) :: starEach [] X.env := by rfl) : PE X (.Call (.Name "tuple" p) [e] [] pos) (tRgO true te) := by
  refine ⟨fun pins s σ H Q I h => ?_⟩
  refine Call_ (ld_blt I hg hm boot_tuple (PyProof.Rows.callWith_type1 (args_cons (thn (he pins s σ H _ I h) fun x s1 ⟨r, a, b, c, n, t, u, v, H1, ex, hr, hrg, I1, hn, q⟩ => args_nil ?_) na) na))
  subst ex
  refine call_tuple_range (n := n) (I1.ok.hd hc) hr hrg.2.2.1 hrg.2.2.2 hn fun h' tk acc hk hi => ?_
  have I2 : L2.Inv X pins σ H1 { s1 with heap := h', toks := tk } := I1.kept hk
  refine ⟨.ref h'.objs.size, upd H1 h'.objs.size (.tup (rgG a c n)), I2.laid (t' := tk) (fun c o e => Heap.get?_push_of_some _ e) (Nat.le_refl _) (show ObjOk X.prog X.w _ _ _ (.tup (rgG a c n)) from ⟨?_, acc.toList, vals_rgG hi, ?_⟩), rfl, q _ (I2.hok.fresh (Nat.le_refl _))⟩
  · rw [rgG_length, sizeLine_eq]; omega
  · rw [Array.toArray_toList]; exact IsTup.new _ _
theorem rgG_up {W : Wd} (a : Int) (n : Nat) : RDs C W (rngD a n) (rgG a 1 n) := by
  have e : rgG a 1 n = (List.range n).map fun i => V.int (a + (i : Nat)) := by
    unfold rgG
    exact List.map_congr_left fun i _ => by rw [Int.mul_one]
  rw [e]
  exact rng_rd n a
theorem rgG_dn {W : Wd} : ∀ (n : Nat) (a : Int), RDs C W (rngN a n) (rgG a (-1) n)
  | 0, a => .nil
  | n + 1, a => by
    have e : rgG a (-1) (n + 1) = V.int a :: rgG (a - 1) (-1) n := by
      unfold rgG
      rw [List.range_succ_eq_map, List.map_cons, List.map_map]
      refine congr (congrArg _ (by simp)) (List.map_congr_left fun i _ => ?_)
      show V.int (a + ((i + 1 : Nat) : Int) * (-1)) = _
      rw [show a + ((i + 1 : Nat) : Int) * (-1) = a - 1 + (i : Int) * (-1) by omega]
    rw [e]
    exact .cons (.int a) (rgG_dn n (a - 1))
/-- what the list of a walked range is -/
theorem wkRng_ok {W : Wd} {ds : List D} {vs : List V} {s : St} {l : List D} (r : RDs C W ds vs) (h : wkRng ds s = some l) : ∃ a b c n, RgC a b c n ∧ ((vs = [.int b] ∧ a = 0 ∧ c = 1) ∨ (vs = [.int a, .int b] ∧ c = 1) ∨ vs = [.int a, .int b, .int c]) ∧ l.length = n ∧ ∀ W', RDs C W' l (rgG a c n) := by
  unfold wkRng at h
  split at h
  · cases r with | cons r1 rn =>
    cases rn
    split at h
    · rename_i b
      cases r1
      cases hb : small62 b with
      | false => rw [hb] at h; cases h
      | true =>
        rw [hb] at h; cases h
        have := small62_iff hb
        refine ⟨0, b, 1, b.toNat, ?_, .inl ⟨rfl, rfl, rfl⟩, (rgG_up (C := C) (W := W) (.ofNat 0) b.toNat).length.trans (rgG_length _ _ _), fun W' => rgG_up _ _⟩
        have q := RgC.one (i := 0) (j := b) (by decide) (by decide) (by omega) (by omega)
        rw [Int.sub_zero] at q
        exact q
    · cases h
  · cases r with | cons r1 rn =>
    cases rn with | cons r2 rn =>
    cases rn
    split at h
    · split at h
      · rename_i i _ j
        cases r1; cases r2
        cases hb : (small62 i && small62 j) with
        | false => rw [hb] at h; cases h
        | true =>
          rw [hb] at h; cases h
          have hb := (Bool.and_eq_true _ _).mp hb
          have h1 := small62_iff hb.1
          have h2 := small62_iff hb.2
          exact ⟨i, j, 1, _, RgC.one (by omega) (by omega) (by omega) (by omega), .inr (.inl ⟨rfl, rfl⟩), (rgG_up (C := C) (W := W) i _).length.trans (rgG_length _ _ _), fun W' => rgG_up _ _⟩
      · cases h
    · cases h
  · cases r with | cons r1 rn =>
    cases rn with | cons r2 rn =>
    cases rn with | cons r3 rn =>
    cases rn
    split at h
    · split at h
      · split at h
        · rename_i i _ j _ k
          cases r1; cases r2; cases r3
          cases hb : (small62 i && small62 j && ieqb k (.negSucc 0)) with
          | false => rw [hb] at h; cases h
          | true =>
            rw [hb] at h; cases h
            simp only [Bool.and_eq_true] at hb
            have h1 := small62_iff hb.1.1
            have h2 := small62_iff hb.1.2
            have h3 : k = -1 := (ieqb_iff _ _).mp hb.2
            subst h3
            exact ⟨i, j, -1, _, RgC.neg (by omega) (by omega) (by omega) (by omega), .inr (.inr rfl), (rgG_dn (C := C) (W := W) _ i).length.trans (rgG_length _ _ _), fun W' => rgG_dn _ _⟩
        · cases h
      · cases h
    · cases h
  · cases h
theorem tA_imp' {r : EsT} {σ : L2.St} {H : Hp} {Q Q' : List V → Hp → Prop} (h : tA C Wx r σ H Q) (i : ∀ v H', Q v H' → Q' v H') : tA C Wx r σ H Q' := by
  obtain ⟨W, e, s, S, SE, q⟩ := h
  exact ⟨W, e, s, S, SE, RsQ.imp q (fun v H1 hq => i v H1 hq)⟩
theorem ok_rgs (hc : X.calm = true) (b m : Bool) {x : Expr} {xs : List Expr} {r : EsT} {p p2 q pos : Pos} (hs : (x :: xs).all nst = true) (hg : Gl X (Str.ofString (cond b "tuple" "list"))) (hm : X.mg (Str.ofString (cond b "tuple" "list")) = none)
    (hg2 : Gl X (Str.ofString "range")) (hm2 : X.mg (Str.ofString "range") = none) (ha : PA X (x :: xs) (tA C Wx r)) :
    PE X (.Call (.Name (Str.ofString (cond b "tuple" "list")) p) [.Call (.Name (Str.ofString "range") p2) (x :: xs) [] q] [] pos) (tE C Wx (en (.rgs b m) r)) := by
  have main : ∀ σ H Q, tE C Wx (en (.rgs b m) r) σ H Q → tRgO b (tRgG (tA C Wx r)) σ H Q := fun σ H Q h => by
    refine tA_imp' (tA_one (k := pn (.rgs b m)) h) fun vs H1 ⟨W, ds, s, S, rd, h3⟩ => ?_
    have h3 : RvQ C W (pRgs b m ds s) Q _ := h3
    unfold pRgs at h3
    cases z : wkRng ds s with
    | none => rw [z] at h3; exact h3.elim
    | some l =>
      rw [z] at h3
      obtain ⟨hb, h4⟩ := RvQ.cnd h3
      have hl := Nat.le_of_ble_eq_true hb
      obtain ⟨a, b', c, n, g1, g2, g3, g4⟩ := wkRng_ok rd z
      refine ⟨a, b', c, n, g1, g2, by rw [← g3]; exact hl, fun q hq => ?_⟩
      cases b with
      | false => exact (newL_ok S hq (g4 _) h4).2
      | true => exact newT_ok S hq (g4 _) h4
  cases b with
  | false => exact pe_imp (pe_listRgG hc hg hm (prg_any hg2 hm2 hs ha) rfl) main
  | true => exact pe_imp (pe_tupRgG hc hg hm (prg_any hg2 hm2 hs ha) rfl) main
/-- range(a, b) as a value -/
def tRgV (ta : TA) : TE := fun σ H Q => ta σ H fun vs H1 => ∃ (a b : Int), vs = [.int a, .int b] ∧ RgC a b 1 (b - a).toNat ∧ ∀ p, H1 p = none → Q (.ref p) (upd H1 p (RngO p a (b - a).toNat))
theorem pe_rgv {x : Expr} {xs : List Expr} {ta : TA} {p pos : Pos} (hg : Gl X "range") (hm : X.mg "range" = none) (hs : (x :: xs).all nst = true) (ha : PA X (x :: xs) ta) : PE X (.Call (.Name "range" p) (x :: xs) [] pos) (tRgV ta) := by
  refine ⟨fun pins s σ H Q I h => ?_⟩
  have hs2 := (Bool.and_eq_true _ _).mp (show (nst x && xs.all nst) = true from hs)
  refine Call_ (ld_blt I hg hm boot_range (PyProof.Rows.callWith_type1 (thn (ha.run pos pins s σ H _ I h) fun us s1 ⟨vs, H1, I1, r1, a, b, e, hc, q⟩ => ?_) (star_cons hs2.1 _) (star_any pos _ hs2.2)))
  subst e
  cases r1 with | cons r rr =>
  cases rr with | cons r' rr =>
  cases rr
  obtain ⟨t, rfl⟩ := r
  obtain ⟨t', rfl⟩ := r'
  refine call_range_2 ⟨.ref s1.heap.objs.size, _, I1.laid (t' := s1.toks + 1) (fun b u e => Heap.get?_push_of_some _ e) (Nat.le_refl _) (rng_obj ⟨b, t, t', s1.toks, IsRange.new _ _ _ _ _ _ _, hc.2.2.1, hc.2.2.2⟩), rfl, q _ (I1.hok.fresh (Nat.le_refl _))⟩
theorem ok_rgv {x : Expr} {xs : List Expr} {r : EsT} {p pos : Pos} (hs : (x :: xs).all nst = true) (hg : Gl X (Str.ofString "range")) (hm : X.mg (Str.ofString "range") = none) (ha : PA X (x :: xs) (tA C Wx r)) :
    PE X (.Call (.Name (Str.ofString "range") p) (x :: xs) [] pos) (tE C Wx (en .rgv r)) := by
  refine pe_imp (pe_rgv hg hm hs ha) fun σ H Q h => ?_
  refine tA_imp' (tA_one (k := pn .rgv) h) fun vs H1 ⟨W, ds, s, S, rd, h3⟩ => ?_
  have h3 : RvQ C W (pRgv ds s) Q _ := h3
  unfold pRgv at h3
  split at h3
  · cases rd with | cons r1 rn =>
    cases rn with | cons r2 rn =>
    cases rn
    split at h3
    · split at h3
      · cases r1; cases r2
        obtain ⟨hb, h4⟩ := RvQ.cnd h3
        have hb := (Bool.and_eq_true _ _).mp hb
        have h1 := small62_iff hb.1
        have h2 := small62_iff hb.2
        refine ⟨_, _, rfl, RgC.one (by omega) (by omega) (by omega) (by omega), fun p hp => ?_⟩
        exact h4 _ _ _ (Wd.le_frz (S.F_none hp) _) (S.laid hp _) (.rng upd_same)
      · exact h3.elim
    · exact h3.elim
  · exact h3.elim
end
end Mv
end

section
set_option Elab.async false
set_option linter.all false
set_option maxRecDepth 100000
set_option maxHeartbeats 4000000
/-! EnR: enumerate(range(..)). -/
namespace PySem
open Sem (wp)
open AutoSeq1 (wpAny_loadPart')
section
variable {prog : Program} {w : World} {A : Around} {E : Value → Shared → Prop} {s : Shared}
theorem wpAny_nextOf_range_item {it : Addr} {x left step : Int} {Q : Value → Shared → Prop} (hit : IsRangeIter s.heap it x left step) (hleft : 0 < left)
    (hQ : ∀ h', IsRangeIter h' it (x + step) (left - 1) step → Heap.SameBut it s.heap h' → Q (.int x s.toks) { s with heap := h', toks := s.toks + 1 }) : wpAny (model prog w) A (Builtin.SmallTypes.nextOf (.ref it)) Q E s := by
  have hT : s.TypeIs (.ref it) "range_iterator" := ⟨_, hit, rfl⟩
  unfold Builtin.SmallTypes.nextOf
  refine wpAny_bind (wpAny_callSpecial?_slot (name := Str.ofString "__next__") hT F.slot_range_iterator_next
    (call_meets F.slot_range_iterator_next hT F.entry_range_iterator_next (F.args_range_iterator_next_1 _) (AutoRange.range_iterator___next___range_iterator_1 it x left step (by omega)) ⟨hit, ?_⟩))
  exact wpAny_pure (hQ _ (Heap.get?_update_self _ (Heap.get?_update_self _ hit rfl) rfl) ((Heap.SameBut.update ..).trans (Heap.SameBut.update ..)))
theorem wpAny_nextOf_range_end {it : Addr} {x left step : Int} {Q : Value → Shared → Prop} (hh : A.handled = none) (hit : IsRangeIter s.heap it x left step) (hleft : left ≤ 0)
    (hE : ∀ h' e, Heap.ExtBut it s.heap h' → (∃ o, h'.get? e = some o ∧ o.cls = .type "StopIteration") → E (.ref e) { s with heap := h' }) : wpAny (model prog w) A (Builtin.SmallTypes.nextOf (.ref it)) Q E s := by
  have hT : s.TypeIs (.ref it) "range_iterator" := ⟨_, hit, rfl⟩
  unfold Builtin.SmallTypes.nextOf
  refine wpAny_bind (wpAny_callSpecial?_slot (name := Str.ofString "__next__") hT F.slot_range_iterator_next
    (wpAny_call_entry F.slot_range_iterator_next hT F.entry_range_iterator_next ?_ (F.args_range_iterator_next_1 _)))
  show wpAny _ _ (field (.ref it) 0 >>= _) _ _ s
  refine wpAny_bind (wpAny_field hit rfl (x := rawInt x) rfl ?_)
  show wpAny _ _ (field (.ref it) 1 >>= _) _ _ s
  refine wpAny_bind (wpAny_field hit rfl (x := rawInt left) rfl ?_)
  show wpAny _ _ (field (.ref it) 2 >>= _) _ _ s
  refine wpAny_bind (wpAny_field hit rfl (x := rawInt step) rfl ?_)
  show wpAny _ _ (if left ≤ 0 then _ else _) _ _ s
  rw [if_pos hleft]
  refine wpAny_bind (wpAny_rule ?_)
  refine wpAny_bind ?_
  show wpAny _ _ (newExc (.type "StopIteration") [] >>= _) _ _ _
  refine wpAny_bind ?_
  simp only [newExc, newTuple]
  refine wpAny_bind (wpAny_newObj_type ?_ (by size_fits))
  refine wpAny_bind (m := firstArgMember _ _) (wpAny_of_eq (a := Value.none) (by first | rfl | (simp only [firstArgMember]; rfl)) ?_)
  refine wpAny_newObj_type ?_ (by size_fits)
  simp only [raiseNew]
  refine wpAny_bind (wpAny_handled ?_)
  first | rw [show A.in1.handled = none from hh] | rw [hh]
  refine wpAny_bind (wpAny_pure (wpAny_throw ?_))
  exact hE _ _ (((Heap.ExtBut.refl it s.heap).push _).push _) ⟨_, Heap.get?_push_size _ rfl, rfl⟩
end
theorem Draws.range {prog : Program} {w : World} {A : Around} (hh : A.handled = none) (it : Addr) (a c : Int) (n : Nat) :
    Draws prog w A it [it] n (fun i v => ∃ t, v = .int (a + (i : Nat) * c) t) (fun i h => IsRangeIter h it (a + (i : Nat) * c) ((n : Int) - (i : Nat)) c) where
  live := fun _ _ st => ⟨_, st⟩
  frame := fun _ _ _ st hk => hk it (by simp) _ st
  item := fun i s Q E hi st hQ => by
    refine wpAny_nextOf_range_item st (by omega) fun h' hit' hs' => ?_
    refine hQ _ h' _ ⟨_, rfl⟩ ?_ hs'
    have e1 : a + ((i + 1 : Nat) : Int) * c = a + (i : Int) * c + c := by push_cast; rw [Int.add_mul, Int.one_mul, Int.add_assoc]
    have e2 : (n : Int) - ((i + 1 : Nat) : Int) = (n : Int) - (i : Int) - 1 := by push_cast; omega
    rw [e1, e2]; exact hit'
  done := fun s Q E st hE => wpAny_nextOf_range_end hh st (by omega) hE
theorem meets_enumerate_newR (r : Addr) (a b c : Int) (t u v : Tok) (hsmall : Builtin.Range.small a b c = true) :
    Meets (Builtin.«enumerate.__new__» ⟨[.type "enumerate", .ref r], []⟩) (fun _ R s => IsRange s.heap r a b c t u v ∧
      R (.ok (.ret (.ref (s.heap.push { cls := .type "range_iterator", data := .fields #[rawInt a, rawInt (Builtin.Range.rangeSize a b c), rawInt c] }).objs.size)))
        { s with heap := (s.heap.push { cls := .type "range_iterator", data := .fields #[rawInt a, rawInt (Builtin.Range.rangeSize a b c), rawInt c] }).push { cls := .type "enumerate", data := .fields #[.none, .bool false, .ref s.heap.objs.size, rawInt 0, .none, .none] } }) :=
  .of_wp fun prog w A R s h => by
    obtain ⟨hp, g, d, tk, os⟩ := s; obtain ⟨hl, h⟩ := h
    have hsub := sub_enumerate
    have hL : IsRange (Shared.heap ⟨hp, g, d, tk, os⟩) r a b c t u v := hl
    have hl' : hp.get? r = some { cls := .type "range", data := .fields #[.int a t, .int b u, .int c v] } := hl
    wp_walk using wpAny_loadPart' hl'
    refine wpAny_stack_any fun st => wpAny_pure ?_
    split
    · rename_i c _ _ _ _ _
      cases (c == Value.type "enumerate")
      · wp_walk using wpAny_loadPart' hl', wpAny_pyIter_range hL hsmall
        exact ⟨_, rfl, h⟩
      · wp_walk using wpAny_loadPart' hl', wpAny_pyIter_range hL hsmall
        exact ⟨_, rfl, h⟩
    · wp_walk using wpAny_loadPart' hl', wpAny_pyIter_range hL hsmall
      exact ⟨_, rfl, h⟩
section
variable {prog : Program} {w : World} {A : Around} {E : Value → Shared → Prop} {s : Shared}
theorem call_enumerate_range {r : Addr} {a b c : Int} {t u v : Tok} {Q : Value → Shared → Prop} (hL : IsRange s.heap r a b c t u v) (hsmall : Builtin.Range.small a b c = true)
    (h : ∀ h', IsEnum h' (s.heap.objs.size + 1) s.heap.objs.size 0 .none → IsRangeIter h' s.heap.objs.size a (Builtin.Range.rangeSize a b c) c → h'.objs.size = s.heap.objs.size + 2 →
      (∀ b o, s.heap.get? b = some o → h'.get? b = some o) → Q (.ref (s.heap.objs.size + 1)) { s with heap := h' }) :
    wpAny (model prog w) A (call (.type "enumerate") [.ref r]) Q E s := by
  refine callType_new F.called_enumerate (by decide) (F.typeCall_enumerate_1 _) (F.newCall_enumerate_1 _) (fun obj => F.args_object_init_2 obj _) F.entry_enumerate_new
    (meets_enumerate_newR r a b c t u v hsmall) ⟨hL, ?_⟩
  have hz : (s.heap.push { cls := .type "range_iterator", data := .fields #[rawInt a, rawInt (Builtin.Range.rangeSize a b c), rawInt c] }).objs.size = s.heap.objs.size + 1 := Heap.size_push ..
  show _ ∧ _
  rw [hz]
  have he : IsEnum ((s.heap.push { cls := .type "range_iterator", data := .fields #[rawInt a, rawInt (Builtin.Range.rangeSize a b c), rawInt c] }).push
      { cls := .type "enumerate", data := .fields #[.none, .bool false, .ref s.heap.objs.size, rawInt 0, .none, .none] }) (s.heap.objs.size + 1) s.heap.objs.size 0 .none := by
    have := Heap.get?_push_size (s.heap.push { cls := .type "range_iterator", data := .fields #[rawInt a, rawInt (Builtin.Range.rangeSize a b c), rawInt c] })
      (o := { cls := .type "enumerate", data := .fields #[.none, .bool false, .ref s.heap.objs.size, rawInt 0, .none, .none] }) rfl
    rw [hz] at this; exact this
  refine ⟨⟨_, he, rfl⟩, h _ he (Heap.get?_push_of_some _ (Heap.get?_push_size _ rfl)) (by rw [Heap.size_push, hz]) fun b o x => Heap.get?_push_of_some _ (Heap.get?_push_of_some _ x)⟩
end
end PySem
namespace Mv
open PySem PySem.Spec PyProof.Rows L2
/-- a range's items, each in a new pair -/
def IteR (lo c : Int) (n : Nat) : It :=
  ⟨fun i _ => i < n, fun i H v H' => ∃ T, v = .ref T ∧ H T = none ∧ H' = upd H T (.tup [.int (i : Nat), .int (lo + (i : Nat) * c)]), fun i _ => n ≤ i⟩
theorem turn_enumR {P : Program} {w : World} {K : PySem.W.Frag} {elts : List Expr} {kk : Nat} {tpos : Pos} (lo c : Int) (n : Nat) (e it : Addr) :
    Turn P w K (.Tuple elts kk tpos) (IteR lo c n) [e, it] e (fun i h => (∃ old, IsEnum h e it ((i : Nat) : Int) old) ∧ IsRangeIter h it (lo + (i : Nat) * c) ((n : Int) - (i : Nat)) c ∧ e ≠ it) where
  mem := by simp
  obj := fun i h st b hb => by
    obtain ⟨⟨old, he⟩, hr, _⟩ := st
    have e' : b = e ∨ b = it := by simpa using hb
    rcases e' with z | z
    · rw [z]; exact ⟨_, he, fun v q => nomatch q⟩
    · rw [z]; exact ⟨_, hr, fun v q => nomatch q⟩
  keep := fun i h h' st k => let ⟨⟨old, he⟩, hr, hne⟩ := st; ⟨⟨old, k e (by simp) _ he⟩, k it (by simp) _ hr, hne⟩
  item := by
    intro X hP hw hK hc i pins s σ H E I hf st hg
    subst hP hw hK
    obtain ⟨⟨old, he⟩, hit, hne⟩ := st
    have hg : i < n := hg
    have hel : e < s.heap.objs.size := Heap.lt_size he
    have hil : it < s.heap.objs.size := Heap.lt_size hit
    have D := Draws.range (prog := X.prog) (w := X.w) (A := X.A.in1) (I.ok.hd hc) it lo c n
    refine wpAny_pyNext_enum_itemD D he hit hg hne (by simp only [List.mem_cons, List.not_mem_nil, or_false]; exact hne) fun u' h' tk hP ho hst' hT hsz hk => ?_
    obtain ⟨tu, eu⟩ := hP
    subst eu
    refine ⟨_, rfl, wpAny_letOwnedTupleGo_enum (s := { s with heap := h', toks := tk + 1 }) ho fun h'' he' sb => ?_⟩
    have hT2 : h''.get? s.heap.objs.size = some { cls := .type "tuple", data := .seq #[.int i tk, .int (lo + (i : Nat) * c) tu] } := (sb.2 _ (Nat.ne_of_gt hel)).trans hT
    have new : ObjOk X.prog X.w (upd H s.heap.objs.size (.tup [.int (i : Nat), .int (lo + (i : Nat) * c)])) h'' s.heap.objs.size (.tup [.int (i : Nat), .int (lo + (i : Nat) * c)]) :=
      ⟨by show 2 ≤ sizeLine; decide, [.int i tk, .int (lo + (i : Nat) * c) tu], .cons ⟨_, rfl⟩ (.cons ⟨_, rfl⟩ .nil), ⟨_, hT2, rfl, _, rfl⟩⟩
    have I1 : L2.Inv X pins σ (upd H s.heap.objs.size (.tup [.int (i : Nat), .int (lo + (i : Nat) * c)])) { s with heap := h'', toks := tk + 1 } :=
      I.turnedNew (ch := [e, it]) (fun b ob hb q => (sb.2 b (fun z => hb (by simp [z]))).trans (hk b ob (fun z => hb (by simp [z])) (fun z => hb (by simp [z])) q)) hf (Nat.le_refl _) new
    refine ⟨.ref s.heap.objs.size, _, I1, rfl, ⟨_, rfl, I.hok.fresh (Nat.le_refl _), rfl⟩, ⟨⟨.int (lo + (i : Nat) * c) tu, ?_⟩, ?_, hne⟩, fun b hb => ?_⟩
    · have e1 : ((i + 1 : Nat) : Int) = (i : Int) + 1 := by omega
      rw [e1]; exact he'
    · exact (sb.2 it (Ne.symm hne)).trans hst'
    · have hb' : b < s.heap.objs.size := by
        have e' : b = e ∨ b = it := by simpa using hb
        rcases e' with z | z
        · rw [z]; exact hel
        · rw [z]; exact hil
      rw [upd_ne (Nat.ne_of_lt hb')]
      exact (hf b hb).1
  done := by
    intro X hP hw hK hc i pins s σ H E I hf st hg
    subst hP hw hK
    obtain ⟨⟨old, he⟩, hit, hne⟩ := st
    have hg : n ≤ i := hg
    obtain ⟨f0, f1, f2, f3, f4, f5⟩ := hf it (by simp)
    have hT : s.TypeIs (.ref e) "enumerate" := ⟨_, he, rfl⟩
    unfold pyNext
    refine wpAny_bind (wpAny_attempt (wpAny_callSpecial?_slot (name := Str.ofString "__next__") hT F.slot_enumerate_next
      (wpAny_call_entry F.slot_enumerate_next hT F.entry_enumerate_next ?_ (F.args_enumerate_next_1 _))))
    show wpAny _ _ (field (.ref e) 2 >>= _) _ _ _
    refine wpAny_bind (wpAny_field he rfl (x := .ref it) rfl ?_)
    refine wpAny_bind (wpAny_nextOf_range_end (A := X.A.in1) (I.ok.hd hc) hit (by omega) fun h' x he' hx' => ?_)
    obtain ⟨o, ho, hc'⟩ := hx'
    refine wpAny_bind (wpAny_isInstance (T := "StopIteration") (b := true) ⟨o, ho, hc'⟩ isSubtype_stop ?_)
    exact wpAny_pure ⟨rfl, I.turned (t' := s.toks) (fun b o hb q => he' b o hb q) f0 f1 f3 f4 f5⟩
  self := fun A i s Q E st h => let ⟨⟨_, he⟩, _⟩ := st; wpAny_pyIter_enum he h
section
variable {X : Cx} {C : Cn} {Wx : WX}
def iEnumR (te : L2.St → Hp → (Int → Int → Nat → Hp → Prop) → Prop) : TI := fun σ H R => te σ H fun a c n H1 => R (IteR a c n) H1
theorem pi_enumR {e : Expr} {te : L2.St → Hp → (Int → Int → Nat → Hp → Prop) → Prop} {p pos tpos : Pos} {elts : List Expr} {kk : Nat} (hg : Gl X "enumerate") (hm : X.mg "enumerate" = none) (he : PRgG X e te) (na : starEach [e] X.env = (false, eval e X.env) :: starEach [] X.env := by rfl) :
    PI X (.Tuple elts kk tpos) (.Call (.Name "enumerate" p) [e] [] pos) (iEnumR te) := by
  refine ⟨fun pins s σ H R I h => ?_⟩
  refine Call_ (ld_blt I hg hm boot_enumerate (PyProof.Rows.callWith_type1 (args_cons (thn (he pins s σ H _ I h) fun x s1 ⟨r, a, b, c, n, t, u, v, H1, ex, hr, hrg, I1, q⟩ => args_nil ?_) na) na))
  subst ex
  have fp : ∀ b ∈ [s1.heap.objs.size + 1, s1.heap.objs.size], s1.heap.objs.size ≤ b := fun b hb => by
    have e' : b = s1.heap.objs.size + 1 ∨ b = s1.heap.objs.size := by simpa using hb
    rcases e' with z | z
    · rw [z]; exact Nat.le_add_right _ _
    · rw [z]; exact Nat.le_refl _
  refine call_enumerate_range hr hrg.2.2.1 fun h' he hit hsz hk => wpAny_pyIter_enum he ?_
  have I2 : L2.Inv X pins σ H1 { s1 with heap := h' } := I1.kept (t' := s1.toks) hk
  refine ⟨s1.heap.objs.size + 1, [s1.heap.objs.size + 1, s1.heap.objs.size], _, _, H1, rfl, I2, turn_enumR a c n (s1.heap.objs.size + 1) s1.heap.objs.size, ⟨⟨.none, he⟩, ?_, Nat.succ_ne_self _⟩, fun b hb => I1.fpOk (fp b hb) (I1.hok.fresh (fp b hb)), q⟩
  have e1 : a + ((0 : Nat) : Int) * c = a := by simp
  have e2 : (n : Int) - ((0 : Nat) : Int) = Builtin.Range.rangeSize a b c := by rw [hrg.2.2.2]; simp
  show IsRangeIter _ _ (a + ((0 : Nat) : Int) * c) ((n : Int) - ((0 : Nat) : Int)) c
  rw [e1, e2]
  exact hit
theorem rgG_get (a c : Int) (n i : Nat) (h : i < n) : (rgG a c n)[i]? = some (.int (a + (i : Nat) * c)) := by
  unfold rgG
  rw [List.getElem?_map, List.getElem?_range h]; rfl
theorem walk_enumR {W1 : Wd} {H1 : Hp} {ds l : List D} {a c : Int} {n : Nat} (hl : l.length = n) (r : ∀ W', RDs C W' l (rgG a c n)) : WalkOk C W1 H1 ds (enumD 0 l) (IteR a c n) := by
  refine ⟨fun W2 H2 s2 i L S2 hi => ?_, fun W2 H2 s2 L S2 => ?_, fun W2 H2 s2 i x H3 L S2 hi y => ?_⟩
  · rw [enumD_len, hl] at hi; exact hi
  · show n ≤ _; rw [enumD_len, hl]; exact Nat.le_refl _
  · rw [enumD_len, hl] at hi
    obtain ⟨T, ev, hT, e⟩ := y
    subst e; subst ev
    obtain ⟨d, h1, h2⟩ := (r W2).getV (rgG_get a c n i hi)
    obtain ⟨le, S3, r3⟩ := S2.newT hT (.cons (.int (i : Int)) (.cons h2 .nil))
    exact ⟨_, _, le, S3, by rw [enumD_get, h1, Nat.zero_add]; rfl, r3⟩
theorem ok_wenr {x : Expr} {xs elts : List Expr} {kk : Nat} {tpos : Pos} {r : EsT} {p p2 q pos : Pos} (hg : Gl X (Str.ofString "enumerate")) (hm : X.mg (Str.ofString "enumerate") = none) (hg2 : Gl X (Str.ofString "range")) (hm2 : X.mg (Str.ofString "range") = none) (hs : (x :: xs).all nst = true) (ha : PA X (x :: xs) (tA C Wx r)) :
    PI X (.Tuple elts kk tpos) (.Call (.Name (Str.ofString "enumerate") p) [.Call (.Name (Str.ofString "range") p2) (x :: xs) [] q] [] pos) (tI C Wx .enr r) := by
  refine pi_imp (pi_enumR hg hm (prg_any hg2 hm2 hs ha) rfl) fun σ H R ⟨W, e, s, S, SE, q⟩ => ⟨W, e, s, S, SE, RsQ.imp q fun vs H1 ⟨W1, ds, s1, l, le, S1, rd, hw0, hj⟩ => ?_⟩
  have hw : wkEnr ds s1 = some l := hw0
  unfold wkEnr at hw
  cases z : wkRng ds s1 with
  | none => rw [z] at hw; cases hw
  | some l' =>
    rw [z] at hw
    cases hw
    obtain ⟨a, b, c, n, g1, g2, g3, g4⟩ := wkRng_ok rd z
    exact ⟨a, b, c, n, g1, g2, hj _ (walk_enumR g3 g4)⟩
end
end Mv
end

section
set_option Elab.async false
set_option linter.all false
set_option maxRecDepth 100000
set_option maxHeartbeats 4000000
/-! Loop: locks, for. -/
namespace Mv
open PySem PySem.Spec PyProof.Rows L2
abbrev Wd.at_ (W : Wd) (lk : Nat → Option (Nat × List V)) (hd : Addr → Option HO) : Wd := { W with lk := lk, hd := hd }
section
variable {C : Cn} {W : Wd} {H : Hp} {s : St}
theorem RD.at_ {lk : Nat → Option (Nat × List V)} {hd : Addr → Option HO} {d : D} {v : V} (r : RD C W d v) : RD C (W.at_ lk hd) d v := RD.lk (W := W) (W' := W.at_ lk hd) rfl rfl r
theorem RDs.at_ {lk : Nat → Option (Nat × List V)} {hd : Addr → Option HO} {d : List D} {v : List V} (r : RDs C W d v) : RDs C (W.at_ lk hd) d v := RDs.lk (W := W) (W' := W.at_ lk hd) rfl rfl r
/-! ### locks -/
def lkUp (lk : Nat → Option (Nat × List V)) (n : Nat) (vs : List V) : Nat → Option (Nat × List V) := fun m => if m = n then some (match lk n with | some q => q.1 + 1 | none => 0, vs) else lk m
theorem lk_up (S : SimS C W H s) {n k : Nat} {l : List D} (hf : fnd s.cs n = some (.lst k l)) : ∃ a vs, W.ρ n = some a ∧ H a = some (.lst vs) ∧ SimS C (W.at_ (lkUp W.lk n vs) W.hd) H ⟨s.nx, put s.cs n (.lst (k + 1) l)⟩ ∧ ∀ c w, W.lk n = some (c, w) → w = vs := by
  obtain ⟨a, vs, h1, h2, h3, h4⟩ := S.cell n k l hf
  have hw : ∀ c w, W.lk n = some (c, w) → w = vs ∧ ∃ k0, k = k0 + c + 1 := fun c w q => by
    obtain ⟨k0, l0, a0, g1, g2, g3⟩ := S.lock n c w q
    rw [hf] at g1; cases g1
    rw [h1] at g2; cases g2
    rw [h3] at g3; cases g3
    exact ⟨rfl, k0, rfl⟩
  refine ⟨a, vs, h1, h3, ?_, fun c w q => (hw c w q).1⟩
  have S1 := S.recount (k' := k + 1) hf fun c w q => by obtain ⟨_, k0, e⟩ := hw c w q; omega
  refine S1.relk (W' := W.at_ (lkUp W.lk n vs) W.hd) rfl rfl (fun m c w q => ?_) S1.hd S1.hdT
  have q : (if m = n then some (match W.lk n with | some q => q.1 + 1 | none => 0, vs) else W.lk m) = some (c, w) := q
  by_cases e : m = n
  · subst e
    rw [if_pos rfl] at q
    show ∃ k' l' a', fnd (put s.cs m (.lst (k + 1) l)) m = _ ∧ _
    rw [fnd_put_self hf]
    cases z : W.lk m with
    | none => rw [z] at q; cases q; exact ⟨k, l, a, rfl, h1, h3⟩
    | some p =>
      rw [z] at q; cases q
      obtain ⟨_, k0, e⟩ := hw p.1 p.2 z
      exact ⟨k0, l, a, by rw [e, show k0 + p.1 + 1 + 1 = k0 + (p.1 + 1) + 1 by omega], h1, h3⟩
  · rw [if_neg e] at q
    exact S1.lock m c w q
theorem lk_dn {lk : Nat → Option (Nat × List V)} {hd : Addr → Option HO} {n : Nat} {vs : List V} (hw : ∀ c w, lk n = some (c, w) → w = vs) (S : SimS C (W.at_ (lkUp lk n vs) hd) H s) :
    SimS C (W.at_ lk hd) H s ∧ SimS C (W.at_ lk hd) H (ulk s n) := by
  have z : (W.at_ (lkUp lk n vs) hd).lk n = some (match lk n with | some q => q.1 + 1 | none => 0, vs) := if_pos rfl
  obtain ⟨k0, l, a, g1, g2, g3⟩ := S.lock n _ vs z
  have S1 : SimS C (W.at_ lk hd) H s := S.relk (W' := W.at_ lk hd) rfl rfl (fun m c w q => by
    have q : lk m = some (c, w) := q
    by_cases e : m = n
    · subst e
      cases hw c w q
      rw [q] at g1
      exact ⟨k0 + 1, l, a, by rw [g1]; show some (Ob.lst (k0 + (c + 1) + 1) l) = _; rw [show k0 + (c + 1) + 1 = k0 + 1 + c + 1 by omega], g2, g3⟩
    · have : (W.at_ (lkUp lk n vs) hd).lk m = some (c, w) := by show (if m = n then _ else lk m) = _; rw [if_neg e]; exact q
      exact S.lock m c w this) S.hd S.hdT
  refine ⟨S1, ?_⟩
  unfold ulk
  rw [g1]
  refine S1.recount g1 fun c w q => ?_
  have q : lk n = some (c, w) := q
  rw [q]
  show c < k0 + (c + 1)
  omega
theorem lks_ok : ∀ (ds : List D) {W : Wd} {H : Hp} {s : St}, SimS C W H s → (∀ n, .loc n ∈ ds → ∃ k m, fnd s.cs n = some (.lst k m)) →
    ∃ lk1, SimS C (W.at_ lk1 W.hd) H (lks s ds) ∧ (∀ n a vs, .loc n ∈ ds → W.ρ n = some a → H a = some (.lst vs) → ∃ c, lk1 n = some (c, vs)) ∧
      (∀ n c vs, W.lk n = some (c, vs) → ∃ c', lk1 n = some (c', vs)) ∧
      (∀ (W' : Wd) hd H' s', SimS C (W'.at_ lk1 hd) H' s' → SimS C (W'.at_ W.lk hd) H' s' ∧ SimS C (W'.at_ W.lk hd) H' (uls s' ds))
  | [], W, H, s, S, _ => ⟨W.lk, S, fun n a vs h => absurd h (by simp), fun n c vs h => ⟨c, h⟩, fun W' hd H' s' S' => ⟨S', S'⟩⟩
  | d :: r, W, H, s, S, ht => by
    by_cases hd : ∃ n, d = .loc n
    · obtain ⟨n, e⟩ := hd
      subst e
      obtain ⟨k, l, ho⟩ := ht n (by simp)
      obtain ⟨a, vs, h1, h2, S1, hw⟩ := lk_up S ho
      have e : lk1 s (.loc n) = ⟨s.nx, put s.cs n (.lst (k + 1) l)⟩ := by show lck s n = _; unfold lck; rw [ho]
      have ht' : ∀ m, D.loc m ∈ r → ∃ k' l', fnd (put s.cs n (.lst (k + 1) l)) m = some (.lst k' l') := fun m hm => by
        by_cases e : m = n
        · rw [e, fnd_put_self ho]; exact ⟨_, _, rfl⟩
        · rw [fnd_put_ne e]; exact ht m (by simp [hm])
      obtain ⟨lk2, S2, g1, g2, g3⟩ := lks_ok r S1 ht'
      refine ⟨lk2, ?_, fun m b ws hm h3 h4 => ?_, fun m c ws q => ?_, fun W' hd' H' s' S' => ?_⟩
      · show SimS C _ H (lks (lk1 s (.loc n)) r)
        rw [e]; exact S2
      · rcases List.mem_cons.mp hm with q | q
        · cases q
          rw [h1] at h3; cases h3
          rw [h2] at h4; cases h4
          exact g2 n _ vs (show lkUp W.lk n vs n = _ from if_pos rfl)
        · exact g1 m b ws q h3 h4
      · by_cases e : m = n
        · subst e
          cases hw c ws q
          exact g2 m _ vs (show lkUp W.lk m vs m = _ from if_pos rfl)
        · exact g2 m c ws (by show (if m = n then _ else W.lk m) = _; rw [if_neg e]; exact q)
      · obtain ⟨q1, q2⟩ := g3 W' hd' H' s' S'
        exact ⟨(lk_dn hw q1).1, (lk_dn hw q2).2⟩
    · have e : ∀ t, lk1 t d = t := fun t => by cases d <;> first | rfl | exact absurd ⟨_, rfl⟩ hd
      have e2 : ∀ t, ul1 t d = t := fun t => by cases d <;> first | rfl | exact absurd ⟨_, rfl⟩ hd
      obtain ⟨lk2, S2, g1, g2, g3⟩ := lks_ok r S fun n hn => ht n (by simp [hn])
      refine ⟨lk2, ?_, fun m b ws hm h3 h4 => ?_, g2, fun W' hd' H' s' S' => ?_⟩
      · show SimS C _ H (lks (lk1 s d) r); rw [e]; exact S2
      · rcases List.mem_cons.mp hm with q | q
        · exact absurd ⟨_, q.symm⟩ hd
        · exact g1 m b ws q h3 h4
      · show _ ∧ SimS C _ H' (ul1 (uls s' r) d)
        rw [e2]; exact g3 W' hd' H' s' S'
theorem sqv_thr {s : St} {x : D} {l : List D} (h : sqv s x = some l) (n : Nat) (e : x = .loc n) : ∃ k m, fnd s.cs n = some (.lst k m) := by
  subst e
  simp only [sqv] at h
  cases q : fnd s.cs n with
  | none => rw [q] at h; cases h
  | some o =>
    cases o with
    | lst k m => exact ⟨k, m, rfl⟩
    | dct kvs => rw [q] at h; cases h
theorem wk_thr {k : Wk} {ds l : List D} {s : St} (h : wk k ds s = some l) (n : Nat) (hn : .loc n ∈ ds) : ∃ k m, fnd s.cs n = some (.lst k m) := by
  cases k with
  | val =>
    have h : wkVal ds s = some l := h
    unfold wkVal at h
    split at h
    · split at h
      · simp at hn
      · simp at hn
      · simp at hn; exact sqv_thr h n hn.symm
    · cases h
  | rng =>
    have h : wkRng ds s = some l := h
    unfold wkRng at h
    split at h
    · split at h
      · simp at hn
      · cases h
    · split at h
      · split at h
        · simp at hn
        · cases h
      · cases h
    · split at h
      · split at h
        · split at h
          · simp at hn
          · cases h
        · cases h
      · cases h
    · cases h
  | enr =>
    have h : wkEnr ds s = some l := h
    unfold wkEnr at h
    split at h
    · rename_i l' e
      clear h
      have h : wkRng ds s = some l' := e
      unfold wkRng at h
      split at h
      · split at h
        · simp at hn
        · cases h
      · split at h
        · split at h
          · simp at hn
          · cases h
        · cases h
      · split at h
        · split at h
          · split at h
            · simp at hn
            · cases h
          · cases h
        · cases h
      · cases h
    · cases h
  | enum =>
    have h : wkEnum ds s = some l := h
    unfold wkEnum at h
    split at h
    · split at h
      · rename_i e
        simp at hn; exact sqv_thr e n hn.symm
      · cases h
    · cases h
  | zip =>
    have h : wkZip ds s = some l := h
    unfold wkZip at h
    split at h
    · split at h
      · rename_i e
        split at h
        · rename_i e2
          simp at hn
          rcases hn with hn | hn
          · rw [← hn] at e; cases e
          · rw [← hn] at e2; cases e2
        · cases h
      split at h
      · rename_i e
        split at h
        · rename_i e2
          simp at hn
          rcases hn with hn | hn
          · exact sqv_thr (lqv_sqv e).1 n hn.symm
          · exact sqv_thr (lqv_sqv e2).1 n hn.symm
        · cases h
      · cases h
    · cases h
end
/-! ### for -/
section
variable {X : Cx} {C : Cn} {Wx : WX}
theorem Wd.Le.unat {W W2 : Wd} {lk : Nat → Option (Nat × List V)} {hd : Addr → Option HO} (h : (W.at_ lk hd).Le W2) : W.Le (W2.at_ W.lk W.hd) := ⟨h.F, h.ρ, rfl, rfl⟩
theorem Wd.Le.lkhd {W W2 : Wd} {lk : Nat → Option (Nat × List V)} {hd : Addr → Option HO} (h : (W.at_ lk hd).Le W2) : W2 = (W2.at_ W.lk W.hd).at_ lk hd := by
  have h1 := h.lk
  have h2 := h.hd
  cases W2
  simp only at h1 h2
  rw [h1, h2]
theorem SimE.att {W : Wd} {σ : L2.St} {e : Env} {lk : Nat → Option (Nat × List V)} {hd : Addr → Option HO} (h : SimE C W σ e) : SimE C (W.at_ lk hd) σ e := SimE.lk (W := W) (W' := W.at_ lk hd) h rfl rfl
theorem drop_get {l : List D} {i : Nat} {d : D} (h : l[i]? = some d) : l.drop i = d :: l.drop (i + 1) := by
  have hi := (List.getElem?_eq_some_iff.mp h)
  obtain ⟨hi, e⟩ := hi
  rw [← e]
  exact List.drop_eq_getElem_cons hi
theorem ok_for {tg iter : Expr} {body : List Stmt} {t : Tg} {k : Wk} {es : EsT} {b : ExT} {pos : Pos} (hp : PassesOwn (model X.prog X.w) X.A X.env X.xe) (hc : X.calm = true) (hi : PI X tg iter (tI C Wx k es)) (hg : PG X tg (tG C t)) (hb : PSs X body (tS C Wx b))
    (hs : ∀ x, foldedSetIterable iter X.env x = pure x) : PS X (.For tg iter body [] pos) (tS C Wx (xFor t k es b)) := by
  refine ps_imp (ps_for hp hc hi hg hb hs) fun Dn σ H ⟨W, e, s, S, SE, q⟩ => ⟨W, e, s, S, SE, ?_⟩
  unfold xFor at q
  cases z : es e s with
  | exc c p s1 => rw [z] at q; exact fun W' H' cls dx le S' rx => q W' H' σ cls dx le S' (SE.mono le) rx
  | bad n => rw [z] at q; exact q
  | ok ds s1 =>
    rw [z] at q
    have q : FlQ C W σ (obnd (wk k ds s1) (.bad 114) fun l => (loopL (forTurn t b) l e (lks s1 ds)).seq fun e s => .nx e (uls s ds)) Dn Wx := q
    cases hw : wk k ds s1 with
    | none => rw [hw] at q; exact q.elim
    | some l =>
      rw [hw] at q
      have q : FlQ C W σ ((loopL (forTurn t b) l e (lks s1 ds)).seq fun e s => .nx e (uls s ds)) Dn Wx := q
      intro W1 H1 vs le1 S1 rs
      refine ⟨W1, ds, s1, l, le1, S1, rs, hw, fun J wo => ?_⟩
      obtain ⟨lk1, S1', g1, g2, g3⟩ := lks_ok ds S1 (wk_thr hw)
      let Iv : Nat → Nat → L2.St → Hp → Prop := fun i m σ' H' => i ≤ l.length ∧ m = l.length - i ∧ ∃ W' e' s', W1.Le W' ∧ SimS C (W'.at_ lk1 W1.hd) H' s' ∧ SimE C W' σ' e' ∧ FlQ C W' σ ((loopL (forTurn t b) (l.drop i) e' s').seq fun e s => .nx e (uls s ds)) Dn Wx
      have lkd : ∀ {W' : Wd}, W1.Le W' → Lkd W1 H1 ds (W'.at_ lk1 W1.hd) := fun {W'} le => ⟨le.F, le.ρ, fun n a vs h1 h2 h3 => g1 n a vs h1 h2 h3⟩
      refine ⟨Iv, ⟨l.length, Nat.zero_le _, by omega, W1, e, _, .refl _, S1', SE.mono le1, FlQ.mono q le1⟩, ?_⟩
      intro i m σ' H' ⟨hi1, hm, W', e', s', le', S', SE', q'⟩
      by_cases hi2 : i < l.length
      · refine .inr ⟨wo.go _ _ _ i (lkd le') S' hi2, Iv (i + 1) (l.length - (i + 1)), fun σ2 H2 h => ⟨l.length - (i + 1), by omega, h⟩, fun x H3 hy => ?_⟩
        obtain ⟨W3, d, le3, S3, hd, r3⟩ := wo.yld _ _ _ i x H3 (lkd le') S' hi2 hy
        rw [drop_get hd] at q'
        have q' : FlQ C W' σ ((turnF (obnd (bndT t d e' s') (.bad 113) fun e => b e s') (loopL (forTurn t b) (l.drop (i + 1)))).seq fun e s => .nx e (uls s ds)) Dn Wx := q'
        cases hb : bndT t d e' s' with
        | none => rw [hb] at q'; exact q'.elim
        | some e2 =>
          rw [hb] at q'
          have q' : FlQ C W' σ ((turnF (b e2 s') (loopL (forTurn t b) (l.drop (i + 1)))).seq fun e s => .nx e (uls s ds)) Dn Wx := q'
          refine ⟨W3, d, e', s', e2, S3, (SimE.att SE').mono le3, r3, hb, fun σ2 SE2 _ => ⟨W3, e2, s', S3, SE2, ?_⟩⟩
          have le3' := Wd.Le.unat le3
          have back : ∀ {W4 : Wd} {H4 : Hp} {s4 : St}, W3.Le W4 → SimS C W4 H4 s4 → W'.Le (W4.at_ W'.lk W'.hd) ∧ SimS C ((W4.at_ W'.lk W'.hd).at_ lk1 W1.hd) H4 s4 ∧ SimS C (W4.at_ W'.lk W'.hd) H4 s4 ∧ SimS C (W4.at_ W'.lk W'.hd) H4 (uls s4 ds) := fun {W4 H4 s4} l4 S4 => by
            have lt := le3.trans l4
            have e4 := Wd.Le.lkhd lt
            have S4' : SimS C ((W4.at_ W'.lk W'.hd).at_ lk1 W1.hd) H4 s4 := by rw [← e4]; exact S4
            obtain ⟨q1, q2⟩ := g3 (W4.at_ W'.lk W'.hd) W1.hd H4 s4 S4'
            refine ⟨Wd.Le.unat lt, S4', ?_, ?_⟩
            · rw [show W4.at_ W'.lk W'.hd = (W4.at_ W'.lk W'.hd).at_ W1.lk W1.hd by show _ = Wd.mk _ _ _ _; rw [← le'.lk, ← le'.hd]]; exact q1
            · rw [show W4.at_ W'.lk W'.hd = (W4.at_ W'.lk W'.hd).at_ W1.lk W1.hd by show _ = Wd.mk _ _ _ _; rw [← le'.lk, ← le'.hd]]; exact q2
          cases zb : b e2 s' with
          | nx e4 s4 =>
            rw [zb] at q'
            intro W4 H4 σ4 l4 S4 SE4
            obtain ⟨b1, b2, b3, b4⟩ := back l4 S4
            exact ⟨hi2, rfl, _, e4, s4, le'.trans b1, b2, SimE.att SE4, FlQ.mono (r := (loopL (forTurn t b) (l.drop (i + 1)) e4 s4).seq fun e s => .nx e (uls s ds)) q' b1⟩
          | rt d4 s4 =>
            rw [zb] at q'
            intro W4 H4 v4 l4 S4 r4
            obtain ⟨b1, b2, b3, b4⟩ := back l4 S4
            exact q' _ H4 v4 b1 b3 (RD.at_ r4)
          | bk e4 s4 =>
            rw [zb] at q'
            intro W4 H4 σ4 l4 S4 SE4
            obtain ⟨b1, b2, b3, b4⟩ := back l4 S4
            exact q' _ H4 σ4 b1 b4 (SimE.att SE4)
          | exc c p e4 s4 =>
            rw [zb] at q'
            intro W4 H4 σ4 cls dx l4 S4 SE4 rx
            obtain ⟨b1, b2, b3, b4⟩ := back l4 S4
            refine q' _ H4 σ4 cls dx b1 b3 (SimE.att SE4) ?_
            obtain ⟨a, h1, h2, h3⟩ := rx
            refine ⟨a, h1, h2, ?_⟩
            rcases h3 with h3 | ⟨pv, v, dx, e1, e2, e3, r⟩
            · exact .inl h3
            · exact .inr ⟨pv, v, dx, e1, e2, e3, RD.at_ r⟩
          | bad n => rw [zb] at q'; exact q'
      · have ei : i = l.length := by omega
        subst ei
        rw [List.drop_length] at q'
        refine .inl ⟨wo.stop _ _ _ (lkd le') S', ?_⟩
        have q' : FlQ C W' σ (.nx e' (uls s' ds)) Dn Wx := q'
        obtain ⟨q1, q2⟩ := g3 W' W1.hd H' s' S'
        have e5 : W'.at_ W1.lk W1.hd = W' := by
          rw [← le'.lk, ← le'.hd]
        rw [e5] at q2
        exact q' W' H' σ' (.refl _) q2 SE'
end
end Mv
end

section
set_option Elab.async false
set_option linter.all false
set_option maxRecDepth 100000
set_option maxHeartbeats 4000000
/-! Comp: comprehensions. -/
namespace Mv
open PySem PySem.Spec PyProof.Rows L2
def hdUp (hd : Addr → Option HO) (p : Addr) (vs : List V) : Addr → Option HO := fun a => if a = p then some (.lst vs) else hd a
section
variable {C : Cn} {W : Wd} {H : Hp} {s : St}
theorem SimS.hold (S : SimS C W H s) {p : Addr} {vs : List V} (hp : H p = none) : SimS C (W.at_ W.lk (hdUp W.hd p vs)) (upd H p (.lst vs)) s := by
  have hF := S.F_none hp
  refine ⟨fun a u q => ?_, fun n o q => ?_, S.inj, S.new, fun n c ws q => ?_, S.nd, fun a ws q => ?_, fun a o q => ?_, S.tab.to (fun _ _ q => q) fun b ps e n => ⟨by rw [upd_ne (ne_of_none e hp)]; exact e, n⟩⟩
  · rw [upd_ne (ne_of_none q hF)]; exact S.sub a u q
  · obtain ⟨a, h1, h2, h3⟩ := S.cel n o q
    exact ⟨a, h1, h2, CellR.to (W := W) (W' := W.at_ W.lk (hdUp W.hd p vs)) rfl rfl h3 (upd_ne (h3.ne hp))⟩
  · obtain ⟨k, l, a, h1, h2, h3⟩ := S.lock n c ws q
    exact ⟨k, l, a, h1, h2, by rw [upd_ne (ne_of_none h3 hp)]; exact h3⟩
  · have q : (if a = p then some (.lst vs) else W.hd a) = some ws := q
    by_cases e : a = p
    · subst e
      rw [if_pos rfl] at q; cases q
      refine ⟨upd_same, hF, fun n hn z => ?_⟩
      obtain ⟨o, ho⟩ := Option.isSome_iff_exists.mp hn
      obtain ⟨b, h1, h2, h3⟩ := S.cel n o ho
      have z : W.ρ n = some a := z
      rw [z] at h1; cases h1
      exact h3.ne hp rfl
    · rw [if_neg e] at q
      obtain ⟨h1, h2, h3⟩ := S.hd a ws q
      exact ⟨by rw [upd_ne e]; exact h1, h2, h3⟩
  · have q : (if a = p then some (.lst vs) else W.hd a) = some o := q
    by_cases e : a = p
    · rw [if_pos e] at q; cases q; exact fun ps z => by cases z
    · rw [if_neg e] at q; exact S.hdT a o q
theorem SimS.reheld {lk : Nat → Option (Nat × List V)} {hd : Addr → Option HO} {p : Addr} {vs : List V} (S : SimS C (W.at_ lk (hdUp hd p vs)) H s) (ws : List V) : SimS C (W.at_ lk (hdUp hd p ws)) (upd H p (.lst ws)) s := by
  obtain ⟨g1, g2, g3⟩ := S.hd p (.lst vs) (show (if p = p then some (.lst vs) else hd p) = some (.lst vs) from if_pos rfl)
  refine ⟨fun a u q => ?_, fun n o q => ?_, S.inj, S.new, fun n c zs q => ?_, S.nd, fun a zs q => ?_, fun a o q => ?_, S.tab.to (fun _ _ q => q) fun b ps e n => have ne : b ≠ p := fun z => by { rw [z, g1] at e; cases e }; ⟨by rw [upd_ne ne]; exact e, n⟩⟩
  · rw [upd_ne (ne_of_none q g2)]; exact S.sub a u q
  · obtain ⟨a, h1, h2, h3⟩ := S.cel n o q
    have e : a ≠ p := fun e => g3 n (by rw [q]; rfl) (by rw [← e]; exact h1)
    exact ⟨a, h1, h2, CellR.to (W := W.at_ lk (hdUp hd p vs)) (W' := W.at_ lk (hdUp hd p ws)) rfl rfl h3 (upd_ne e)⟩
  · obtain ⟨k, l, a, h1, h2, h3⟩ := S.lock n c zs q
    have e : a ≠ p := fun e => g3 n (by rw [h1]; rfl) (by rw [← e]; exact h2)
    exact ⟨k, l, a, h1, h2, by rw [upd_ne e]; exact h3⟩
  · have q : (if a = p then some (.lst ws) else hd a) = some zs := q
    by_cases e : a = p
    · subst e
      rw [if_pos rfl] at q; cases q
      exact ⟨upd_same, g2, g3⟩
    · rw [if_neg e] at q
      obtain ⟨h1, h2, h3⟩ := S.hd a zs (show (if a = p then some (.lst vs) else hd a) = some zs by rw [if_neg e]; exact q)
      exact ⟨by rw [upd_ne e]; exact h1, h2, h3⟩
  · have q : (if a = p then some (.lst ws) else hd a) = some o := q
    by_cases e : a = p
    · rw [if_pos e] at q; cases q; exact fun ps z => by cases z
    · rw [if_neg e] at q; exact S.hdT a o (show (if a = p then some (.lst vs) else hd a) = some o by rw [if_neg e]; exact q)
theorem SimS.unheld {lk : Nat → Option (Nat × List V)} {hd : Addr → Option HO} {p : Addr} {vs : List V} (S : SimS C (W.at_ lk (hdUp hd p vs)) H s) (hn : hd p = none) : ∃ H0, H0 p = none ∧ upd H0 p (.lst vs) = H ∧ SimS C (W.at_ lk hd) H0 s := by
  obtain ⟨g1, g2, g3⟩ := S.hd p (.lst vs) (show (if p = p then some (.lst vs) else hd p) = some (.lst vs) from if_pos rfl)
  have hne : ∀ a, a ≠ p → (if a = p then none else H a) = H a := fun a e => if_neg e
  refine ⟨fun a => if a = p then none else H a, if_pos rfl, ?_, ?_⟩
  · funext a
    by_cases e : a = p
    · rw [e, upd_same]; exact g1.symm
    · rw [upd_ne e]; exact if_neg e
  · refine ⟨fun a u q => ?_, fun n o q => ?_, S.inj, S.new, fun n c zs q => ?_, S.nd, fun a zs q => ?_, fun a o q => ?_, S.tab.to (fun _ _ q => q) fun b ps e n => have ne : b ≠ p := fun z => by { rw [z, g1] at e; cases e }; ⟨by rw [hne b ne]; exact e, n⟩⟩
    · rw [hne a (ne_of_none q g2)]; exact S.sub a u q
    · obtain ⟨a, h1, h2, h3⟩ := S.cel n o q
      have e : a ≠ p := fun e => g3 n (by rw [q]; rfl) (by rw [← e]; exact h1)
      exact ⟨a, h1, h2, CellR.to (W := W.at_ lk (hdUp hd p vs)) (W' := W.at_ lk hd) rfl rfl h3 (hne a e)⟩
    · obtain ⟨k, l, a, h1, h2, h3⟩ := S.lock n c zs q
      have e : a ≠ p := fun e => g3 n (by rw [h1]; rfl) (by rw [← e]; exact h2)
      exact ⟨k, l, a, h1, h2, by rw [hne a e]; exact h3⟩
    · have q : hd a = some zs := q
      have e : a ≠ p := fun e => by rw [e, hn] at q; cases q
      obtain ⟨h1, h2, h3⟩ := S.hd a zs (show (if a = p then some (.lst vs) else hd a) = some zs by rw [if_neg e]; exact q)
      exact ⟨by rw [hne a e]; exact h1, h2, h3⟩
    · have q : hd a = some o := q
      have e : a ≠ p := fun e => by rw [e, hn] at q; cases q
      exact S.hdT a o (show (if a = p then some (.lst vs) else hd a) = some o by rw [if_neg e]; exact q)
end
/-! ### the loop over the items -/
/-- the list is at p; where it stands: what is outside -/
structure LS (C : Cn) (lk1 : Nat → Option (Nat × List V)) (hd1 : Addr → Option HO) (p : Addr) (W1 W : Wd) (s : St) (H : Hp) (ac : List D) : Prop where
  le : W1.Le W
  ex : ∃ vs, SimS C (W.at_ lk1 (hdUp hd1 p vs)) H s ∧ RDs C W ac vs
noncomputable def rem (x : Rs) (fin : List D → St → Rv) (ac : List D) : Rv := (noExc x).bnd fun r s => fin (ac ++ r) s
def LcIt (J : It) (H0 : Hp) (Done : Hp → Prop) (Item : V → Hp → (Hp → Prop) → Prop) : Prop :=
  ∃ W : Nat → Nat → Hp → Prop, (∃ m, W 0 m H0) ∧ ∀ (i m : Nat) (H : Hp), W i m H → J.stop i H ∧ Done H ∨ J.go i H ∧ ∃ Nx : Hp → Prop, (∀ H', Nx H' → ∃ m', m' < m ∧ W (i + 1) m' H') ∧ ∀ (x : V) (H' : Hp), J.yld i H x H' → Item x H' Nx
theorem rem_cons (f : D → St → Rs) (d : D) (r : List D) (s : St) (fin : List D → St → Rv) (ac : List D) :
    rem (lcLoop f (d :: r) s) fin ac = rem (f d s) (fun a s => rem (lcLoop f r s) fin a) ac := by
  show (noExc ((f d s).bns fun v s => (lcLoop f r s).bns fun vs s => .ok (v ++ vs) s)).bnd _ = _
  unfold rem
  cases f d s with
  | ok v s1 =>
    show (noExc ((lcLoop f r s1).bns fun vs s => .ok (v ++ vs) s)).bnd _ = (noExc (lcLoop f r s1)).bnd _
    cases lcLoop f r s1 with
    | ok vs s2 => show fin (ac ++ (v ++ vs)) s2 = fin (ac ++ v ++ vs) s2; rw [List.append_assoc]
    | exc c p s2 => rfl
    | bad n => rfl
  | exc c p s1 => rfl
  | bad n => rfl
theorem rem_nil (fin : List D → St → Rv) (ac : List D) (s : St) : rem (.ok [] s) fin ac = fin ac s := by
  show fin (ac ++ []) s = _; rw [List.append_nil]
section
variable {X : Cx} {C : Cn} {Wx : WX}
theorem lcit_ok {W1 : Wd} {H1 : Hp} {ds l : List D} {J : It} {lk1 : Nat → Option (Nat × List V)} {hd1 : Addr → Option HO} {p : Addr} (wo : WalkOk C W1 H1 ds l J) (hl : ∀ n a vs, .loc n ∈ ds → W1.ρ n = some a → H1 a = some (.lst vs) → ∃ c, lk1 n = some (c, vs))
    {W0 : Wd} (le0 : W1.Le W0) {f : D → St → Rs} {fin : List D → St → Rv} {Q : VK} {E : XK} {H0 : Hp} {s0 : St} {ac0 : List D} (L0 : LS C lk1 hd1 p W1 W0 s0 H0 ac0) (q0 : RvQ C W0 (rem (lcLoop f l s0) fin ac0) Q E)
    {Done : Hp → Prop} {Item : V → Hp → (Hp → Prop) → Prop} (hD : ∀ W s H ac, LS C lk1 hd1 p W1 W s H ac → RvQ C W (fin ac s) Q E → Done H)
    (hI : ∀ (W : Wd) (s : St) (H : Hp) (ac : List D) (vs : List V) (d : D) (x : V) (fin2 : List D → St → Rv) (Nx : Hp → Prop), W1.Le W → SimS C (W.at_ lk1 (hdUp hd1 p vs)) H s → RDs C W ac vs → RD C W d x → RvQ C W (rem (f d s) fin2 ac) Q E →
      (∀ W2 s2 H2 ac2, LS C lk1 hd1 p W1 W2 s2 H2 ac2 → RvQ C W2 (fin2 ac2 s2) Q E → Nx H2) → (∀ W2 s2 ac2, RvQ C W2 (fin2 ac2 s2) Q E → ac2.length ≤ sizeLine) → Item x H Nx) (hlen : ∀ W s ac, RvQ C W (fin ac s) Q E → ac.length ≤ sizeLine) :
    LcIt J H0 Done Item := by
  refine ⟨fun i m H => i ≤ l.length ∧ m = l.length - i ∧ ∃ W s ac, LS C lk1 hd1 p W1 W s H ac ∧ RvQ C W (rem (lcLoop f (l.drop i) s) fin ac) Q E, ⟨l.length, Nat.zero_le _, by omega, W0, s0, ac0, L0, q0⟩, ?_⟩
  intro i m H ⟨hi1, hm, W, s, ac, ⟨le, vs, S, r⟩, q⟩
  have lkd : Lkd W1 H1 ds (W.at_ lk1 (hdUp hd1 p vs)) := ⟨le.F, le.ρ, fun n a vs h1 h2 h3 => hl n a vs h1 h2 h3⟩
  by_cases hi2 : i < l.length
  · refine .inr ⟨wo.go _ _ _ i lkd S hi2, fun H' => i + 1 ≤ l.length ∧ (l.length - (i + 1)) = l.length - (i + 1) ∧ ∃ W s ac, LS C lk1 hd1 p W1 W s H' ac ∧ RvQ C W (rem (lcLoop f (l.drop (i + 1)) s) fin ac) Q E, fun H' h => ⟨_, by omega, h⟩, fun x H3 hy => ?_⟩
    obtain ⟨W3, d, le3, S3, hd, r3⟩ := wo.yld _ _ _ i x H3 lkd S hi2 hy
    rw [drop_get hd, rem_cons] at q
    have e3 := Wd.Le.lkhd le3
    have le3' := Wd.Le.unat le3
    rw [e3] at S3
    refine hI (W3.at_ W.lk W.hd) s H3 ac vs d x _ _ (le.trans le3') S3 (r.mono le3') (RD.at_ r3) (RvQ.mono (r := rem (f d s) (fun a s => rem (lcLoop f (l.drop (i + 1)) s) fin a) ac) q le3') (fun W2 s2 H2 ac2 L2 q2 => ⟨hi2, rfl, W2, s2, ac2, L2, q2⟩) fun W2 s2 ac2 q2 => ?_
    have q2 : RvQ C W2 ((noExc (lcLoop f (l.drop (i + 1)) s2)).bnd fun r s => fin (ac2 ++ r) s) Q E := q2
    cases z : lcLoop f (l.drop (i + 1)) s2 with
    | ok r s3 =>
      rw [z] at q2
      have q2 : RvQ C W2 (fin (ac2 ++ r) s3) Q E := q2
      have := hlen _ _ _ q2
      rw [List.length_append] at this
      omega
    | exc c p s3 => rw [z] at q2; exact q2.elim
    | bad n => rw [z] at q2; exact q2.elim
  · have ei : i = l.length := by omega
    subst ei
    rw [List.drop_length] at q
    have q : RvQ C W (rem (.ok [] s) fin ac) Q E := q
    rw [rem_nil] at q
    exact .inl ⟨wo.stop _ _ _ lkd S, hD W s H ac ⟨le, vs, S, r⟩ q⟩
theorem wipe_get (σ : L2.St) : ∀ (vs : List Nat) (j : Nat), (L2.wipe σ vs)[j]? = if j ∈ vs ∧ j < List.length σ then some none else σ[j]?
  | [], j => by simp [L2.wipe]
  | v :: vs, j => by
    rw [L2.wipe, List.getElem?_set, wipe_get σ vs j, L2.wipe_length]
    by_cases e : v = j
    · subst e
      rw [if_pos rfl]
      by_cases h : v < List.length σ
      · rw [if_pos h, if_pos ⟨by simp, h⟩]
      · rw [if_neg h, if_neg (fun q => h q.2)]
        exact (List.getElem?_eq_none (Nat.le_of_not_lt h)).symm
    · rw [if_neg e]
      by_cases h : j ∈ vs ∧ j < List.length σ
      · rw [if_pos h, if_pos ⟨by simp [h.1], h.2⟩]
      · rw [if_neg h, if_neg (fun q => h ⟨by
          rcases List.mem_cons.mp q.1 with q | q
          · exact absurd q.symm e
          · exact q, q.2⟩)]
theorem wipe_stay {σ σ2 : L2.St} {vs l : List Nat} (hs : Stay (L2.wipe σ vs) σ2 l) (hl : ∀ j ∈ l, j ∈ vs) : L2.wipe σ2 vs = L2.wipe σ vs := by
  have hlen : List.length σ2 = List.length σ := by rw [hs.1, L2.wipe_length]
  apply List.ext_getElem?
  intro j
  rw [wipe_get, wipe_get, hlen]
  by_cases h : j ∈ vs ∧ j < List.length σ
  · rw [if_pos h, if_pos h]
  · rw [if_neg h, if_neg h]
    by_cases hj : j < List.length σ
    · have : j ∉ vs := fun q => h ⟨q, hj⟩
      rw [hs.2 j (fun q => this (hl j q)), wipe_get, if_neg h]
    · rw [List.getElem?_eq_none (by rw [hlen]; omega), List.getElem?_eq_none (Nat.le_of_not_lt hj)]
/-- one item -/
def ItemP (C : Cn) (Wx : WX) (t : Tg) (c a : EvT) (p : Addr) (σ : L2.St) (vs0 : List Nat) (x : V) (H : Hp) (Nx : Hp → Prop) : Prop :=
  tG C t x (L2.wipe σ vs0) H fun σ2 H2 => L2.wipe σ2 vs0 = L2.wipe σ vs0 ∧ tT C Wx c σ2 H2 fun b H3 => if b = true then tE C Wx a σ2 H3 fun y H4 => ∃ acc, H4 p = some (.lst acc) ∧ acc.length < sizeLine ∧ Nx (upd H4 p (.lst (acc ++ [y]))) else Nx H3
theorem lc_item {W1 : Wd} {lk1 : Nat → Option (Nat × List V)} {hd1 : Addr → Option HO} {p : Addr} {σ : L2.St} {e : Env} (hE : C.er = none) (SE : SimE C W1 σ e) {t : Tg} {c a : EvT} {vs0 : List Nat} (hsub : ∀ j ∈ tgs t, j ∈ vs0) {Q : VK} {E : XK}
    (W : Wd) (s : St) (H : Hp) (ac : List D) (vs : List V) (d : D) (x : V) (fin2 : List D → St → Rv) (Nx : Hp → Prop) (le : W1.Le W) (S : SimS C (W.at_ lk1 (hdUp hd1 p vs)) H s) (r : RDs C W ac vs) (rd : RD C W d x) (q : RvQ C W (rem (lcItem t c a (wps e vs0) d s) fin2 ac) Q E)
    (hN : ∀ W2 s2 H2 ac2, LS C lk1 hd1 p W1 W2 s2 H2 ac2 → RvQ C W2 (fin2 ac2 s2) Q E → Nx H2) (hlen : ∀ W2 s2 ac2, RvQ C W2 (fin2 ac2 s2) Q E → ac2.length ≤ sizeLine) : ItemP C Wx t c a p σ vs0 x H Nx := by
  unfold lcItem at q
  cases hb : bndT t d (wps e vs0) s with
  | none => rw [hb] at q; exact q.elim
  | some e1 =>
    rw [hb] at q
    have q : RvQ C W (rem ((c e1 s).bns fun x s => obnd (tru s x) (.bad 101) fun b => cond b ((a e1 s).bns fun v s => .ok [v] s) (.ok [] s)) fin2 ac) Q E := q
    refine ⟨_, d, wps e vs0, s, e1, S, SimE.att ((SE.mono le).wps hE vs0), RD.at_ rd, hb, fun σ2 SE2 st => ⟨wipe_stay st hsub, _, e1, s, S, SE2, ?_⟩⟩
    cases zc : c e1 s with
    | exc c p s1 => rw [zc] at q; exact q.elim
    | bad n => rw [zc] at q; exact q.elim
    | ok x1 s1 =>
      rw [zc] at q
      have q : RvQ C W (rem (obnd (tru s1 x1) (.bad 101) fun b => cond b ((a e1 s1).bns fun v s => .ok [v] s) (.ok [] s1)) fin2 ac) Q E := q
      cases ht : tru s1 x1 with
      | none => rw [ht] at q; exact q.elim
      | some b =>
        rw [ht] at q
        refine ⟨b, ht, fun W' H' le' S' => ?_⟩
        have e' := Wd.Le.lkhd le'
        have leu := Wd.Le.unat le'
        cases b with
        | false =>
          refine Eq.mpr (if_neg Bool.false_ne_true) ?_
          have q : RvQ C W (rem (.ok [] s1) fin2 ac) Q E := q
          rw [rem_nil] at q
          exact hN (W'.at_ W.lk W.hd) s1 H' ac ⟨le.trans leu, vs, by rw [← e']; exact S', r.mono leu⟩ (RvQ.mono q leu)
        | true =>
          refine Eq.mpr (if_pos rfl) ?_
          have q : RvQ C W (rem ((a e1 s1).bns fun v s => .ok [v] s) fin2 ac) Q E := q
          refine ⟨W', e1, s1, S', SE2.mono le', ?_⟩
          cases za : a e1 s1 with
          | exc c p s1 => rw [za] at q; exact q.elim
          | bad n => rw [za] at q; exact q.elim
          | ok v s2 =>
            rw [za] at q
            have q : RvQ C W (fin2 (ac ++ [v]) s2) Q E := q
            intro W3 H3 y le3 S3 ry
            have le4 := le'.trans le3
            have e4 := Wd.Le.lkhd le4
            have leu4 := Wd.Le.unat le4
            obtain ⟨g1, g2, g3⟩ := S3.hd p (.lst vs) (by rw [le4.hd]; exact if_pos rfl)
            refine ⟨vs, g1, ?_, ?_⟩
            · have := hlen _ _ _ q
              rw [List.length_append, r.length] at this
              exact this
            · refine hN (W3.at_ W.lk W.hd) s2 _ (ac ++ [v]) ⟨le.trans leu4, vs ++ [y], ?_, (r.mono leu4).append (.cons (RD.at_ ry) .nil)⟩ (RvQ.mono q leu4)
              rw [e4] at S3
              exact S3.reheld _
theorem lc_done {W1 W : Wd} {lk1 : Nat → Option (Nat × List V)} {p : Addr} {ds ac : List D} {m : Bool} {s : St} {H : Hp} {Q : VK} {E : XK} (hn : W1.hd p = none)
    (g3 : ∀ (W' : Wd) hd H' s', SimS C (W'.at_ lk1 hd) H' s' → SimS C (W'.at_ W1.lk hd) H' s' ∧ SimS C (W'.at_ W1.lk hd) H' (uls s' ds)) (L : LS C lk1 W1.hd p W1 W s H ac) (q : RvQ C W (newL m ac (uls s ds)) Q E) : Q (.ref p) H := by
  obtain ⟨le, vs, S, r⟩ := L
  have S2 := (g3 W _ H s S).2
  obtain ⟨H0, h1, h2, S3⟩ := S2.unheld hn
  have e : W.at_ W1.lk W1.hd = W := by rw [← le.lk, ← le.hd]
  rw [e] at S3
  have := (newL_ok S3 h1 r q).2
  rw [h2] at this
  exact this
theorem rem_bns (x : Rs) (fin : List D → St → Rv) (ac ds : List D) : rem (x.bns fun r s => .ok r (uls s ds)) fin ac = rem x (fun a s => fin a (uls s ds)) ac := by
  unfold rem
  cases x <;> rfl
theorem lc_read {m : Bool} {vs0 : List Nat} {t : Tg} {k : Wk} {es : EsT} {c a : EvT} (hE : C.er = none) (hsub : ∀ j ∈ tgs t, j ∈ vs0) {σ : L2.St} {H : Hp} {Q : VK} (h : tE C Wx (eLc m vs0 t k es c a) σ H Q) :
    tLc (tI C Wx k es) (tG C t) (tT C (fun _ _ _ _ => False) c) (tE C (fun _ _ _ _ => False) a) vs0 σ H Q := by
  obtain ⟨W, e, s, S, SE, q⟩ := h
  refine ⟨W, e, s, S, SE, ?_⟩
  unfold eLc at q
  cases z : es e s with
  | exc c p s1 => rw [z] at q; exact q
  | bad n => rw [z] at q; exact q
  | ok ds s1 =>
    rw [z] at q
    have q : RvQ C W (obnd (wk k ds s1) (.bad 103) fun l => (noExc (lcLoop (lcItem t c a (wps e vs0)) l (lks s1 ds))).bnd fun r s => newL m r (uls s ds)) Q _ := q
    cases hw : wk k ds s1 with
    | none => rw [hw] at q; exact q.elim
    | some l =>
      rw [hw] at q
      have q : RvQ C W (rem (lcLoop (lcItem t c a (wps e vs0)) l (lks s1 ds)) (fun r s => newL m r (uls s ds)) []) Q _ := q
      intro W1 H1 vs le1 S1 rs
      refine ⟨W1, ds, s1, l, le1, S1, rs, hw, fun J wo p hp => ?_⟩
      obtain ⟨lk1, S1', g1, g2, g3⟩ := lks_ok ds S1 (wk_thr hw)
      have hdn : W1.hd p = none := by
        cases z : W1.hd p with
        | none => rfl
        | some vs => rw [(S1.hd p vs z).1] at hp; cases hp
      exact lcit_ok (Item := ItemP C (fun _ _ _ _ => False) t c a p σ vs0) wo g1 (.refl W1) (hd1 := W1.hd) (fin := fun r s => newL m r (uls s ds)) ⟨.refl W1, [], S1'.hold hp, .nil⟩ (RvQ.mono q le1)
        (fun W s H ac L q => lc_done hdn g3 L q) (fun W s H ac vs d x fin2 Nx le S r rd q hN hl => lc_item hE (SE.mono le1) hsub W s H ac vs d x fin2 Nx le S r rd q hN hl) fun W s ac q => newL_len q
/-- what a comprehension's parts are -/
structure LcOk (X : Cx) (C : Cn) (Wx : WX) (elt tg iter : Expr) (ifs : List Expr) (scope : Scope) (own : List (Str × Nat)) (vs0 : List Nat) (t : Tg) (k : Wk) (es : EsT) (c a : EvT) : Prop where
  hE : C.er = none
  hc : X.calm = true
  hN : X.N.Nodup
  hi : PI X tg iter (tI C Wx k es)
  ok : BlkOk X.N X.env.scope scope own
  hg : ∀ s H A cl fp, PG (X.blk s H scope (compEnvC scope cl A X.env) fp) tg (tG C t)
  ht : ∀ s H A cl fp, PTs (X.blk s H scope (compEnvC scope cl A X.env) fp) ifs (tT C (fun _ _ _ _ => False) c)
  he : ∀ s H A cl fp, PE (X.blk s H scope (compEnvC scope cl A X.env) fp) elt (tE C (fun _ _ _ _ => False) a)
  hs : ∀ x, foldedSetIterable iter X.env x = pure x
  ho : own.map (fun x => x.2) = vs0
  hsub : ∀ j ∈ tgs t, j ∈ vs0
theorem ok_lc {elt tg iter : Expr} {ifs : List Expr} {scope : Scope} {own : List (Str × Nat)} {pos : Pos} {m : Bool} {vs0 : List Nat} {t : Tg} {k : Wk} {es : EsT} {c a : EvT} (h : LcOk X C Wx elt tg iter ifs scope own vs0 t k es c a) :
    PE X (.ListComp elt [⟨tg, iter, ifs, 0⟩] scope pos) (tE C Wx (eLc m vs0 t k es c a)) :=
  pe_imp (pe_lc h.hc h.hN h.hi h.ok h.hg h.ht h.he h.hs) fun σ H Q q => h.ho ▸ lc_read h.hE h.hsub q
theorem ok_setLc {elt tg iter : Expr} {ifs : List Expr} {scope : Scope} {own : List (Str × Nat)} {pos spos py : Pos} {y : Str} {i : Nat} {m : Bool} {vs0 : List Nat} {t : Tg} {k : Wk} {es : EsT} {c a : EvT} (h : LcOk X C Wx elt tg iter ifs scope own vs0 t k es c a)
    (hy : X.N[i]? = some y) (hyl : List.lookup y X.env.scope.names = some NameKind.local) (hsw : swapsWith (.ListComp elt [⟨tg, iter, ifs, 0⟩] scope pos) (some (.Name y py)) spos.line X.env = pure true) :
    PS X (.Assign [.Name y py] (.ListComp elt [⟨tg, iter, ifs, 0⟩] scope pos) spos) (fun D σ H => tE C Wx (eLc m vs0 t k es c a) σ H fun x H1 => gName i x σ H1 D.nx) :=
  ps_imp (ps_setLc h.hc h.hN hy hyl hsw h.hi h.ok h.hg h.ht h.he h.hs) fun D σ H q => by rw [h.ho]; exact lc_read h.hE h.hsub q
theorem WalkOk.re {W1 : Wd} {H1 : Hp} {ds l : List D} {J : It} (w : WalkOk C W1 H1 ds l J) (lk hd) : WalkOk C (W1.at_ lk hd) H1 ds l J :=
  ⟨fun W2 H2 s2 i L S hi => w.go W2 H2 s2 i ⟨L.F, L.ρ, L.lk⟩ S hi, fun W2 H2 s2 L S => w.stop W2 H2 s2 ⟨L.F, L.ρ, L.lk⟩ S, fun W2 H2 s2 i x H3 L S hi y => w.yld W2 H2 s2 i x H3 ⟨L.F, L.ρ, L.lk⟩ S hi y⟩
theorem lc2_read {m : Bool} {vs0 vs1 : List Nat} {t0 t : Tg} {k0 k : Wk} {es0 es : EsT} {c a : EvT} (hE : C.er = none) (hsub0 : ∀ j ∈ tgs t0, j ∈ vs0) (hsub : ∀ j ∈ tgs t, j ∈ vs1) {σ : L2.St} {H : Hp} {Q : VK} (h : tE C Wx (eLc2 m vs0 t0 k0 es0 vs1 t k es c a) σ H Q) :
    tLc2 (tI C Wx k0 es0) (tG C t0) tYes (tI C (fun _ _ _ _ => False) k es) (tG C t) (tT C (fun _ _ _ _ => False) c) (tE C (fun _ _ _ _ => False) a) vs0 vs1 σ H Q := by
  obtain ⟨W, e, s, S, SE, q⟩ := h
  refine ⟨W, e, s, S, SE, ?_⟩
  unfold eLc2 at q
  cases z : es0 e s with
  | exc c p s1 => rw [z] at q; exact q
  | bad n => rw [z] at q; exact q
  | ok ds s1 =>
    rw [z] at q
    have q : RvQ C W (obnd (wk k0 ds s1) (.bad 106) fun l => (noExc (lcLoop (lcIn vs1 t k es c a t0 (wps e vs0)) l (lks s1 ds))).bnd fun r s => newL m r (uls s ds)) Q _ := q
    cases hw : wk k0 ds s1 with
    | none => rw [hw] at q; exact q.elim
    | some l =>
      rw [hw] at q
      have q : RvQ C W (rem (lcLoop (lcIn vs1 t k es c a t0 (wps e vs0)) l (lks s1 ds)) (fun r s => newL m r (uls s ds)) []) Q _ := q
      intro W1 H1 vs le1 S1 rs
      refine ⟨W1, ds, s1, l, le1, S1, rs, hw, fun J wo p hp => ?_⟩
      obtain ⟨lk1, S1', g1, g2, g3⟩ := lks_ok ds S1 (wk_thr hw)
      have hdn : W1.hd p = none := by
        cases z : W1.hd p with
        | none => rfl
        | some vs => rw [(S1.hd p vs z).1] at hp; cases hp
      refine lcit_ok (Item := fun x H Nx => tG C t0 x (L2.wipe σ vs0) H fun σ2 H2 => L2.wipe σ2 vs0 = L2.wipe σ vs0 ∧ tYes σ2 H2 fun b H3 => if b = true then tI C (fun _ _ _ _ => False) k es σ2 H3 fun J1 H4 => LcIt J1 H4 Nx (ItemP C (fun _ _ _ _ => False) t c a p σ2 vs1) else Nx H3) wo g1 (.refl W1) (hd1 := W1.hd) (fin := fun r s => newL m r (uls s ds)) ⟨.refl W1, [], S1'.hold hp, .nil⟩ (RvQ.mono q le1)
        (fun W s H ac L q => lc_done hdn g3 L q) (fun W s H ac vs d x fin2 Nx le S r rd q hN hl => ?_) fun W s ac q => newL_len q
      unfold lcIn at q
      cases hb : bndT t0 d (wps e vs0) s with
      | none => rw [hb] at q; exact q.elim
      | some e1 =>
        rw [hb] at q
        have q : RvQ C W (rem ((es e1 s).bns fun ds s => obnd (wk k ds s) (.bad 105) fun l => (lcLoop (lcItem t c a (wps e1 vs1)) l (lks s ds)).bns fun r s => .ok r (uls s ds)) fin2 ac) Q _ := q
        refine ⟨_, d, wps e vs0, s, e1, S, SimE.att (((SE.mono le1).mono le).wps hE vs0), RD.at_ rd, hb, fun σ2 SE2 st => ⟨wipe_stay st hsub0, ?_⟩⟩
        show (if true = true then tI C (fun _ _ _ _ => False) k es σ2 H fun J1 H4 => LcIt J1 H4 Nx (ItemP C (fun _ _ _ _ => False) t c a p σ2 vs1) else Nx H)
        refine Eq.mpr (if_pos rfl) ?_
        refine ⟨_, e1, s, S, SE2, ?_⟩
        cases zc : es e1 s with
        | exc c p s1 => rw [zc] at q; exact q.elim
        | bad n => rw [zc] at q; exact q.elim
        | ok ds1 s2 =>
          rw [zc] at q
          have q : RvQ C W (rem (obnd (wk k ds1 s2) (.bad 105) fun l => (lcLoop (lcItem t c a (wps e1 vs1)) l (lks s2 ds1)).bns fun r s => .ok r (uls s ds1)) fin2 ac) Q _ := q
          cases hw1 : wk k ds1 s2 with
          | none => rw [hw1] at q; exact q.elim
          | some l1 =>
            rw [hw1] at q
            have q : RvQ C W (rem ((lcLoop (lcItem t c a (wps e1 vs1)) l1 (lks s2 ds1)).bns fun r s => .ok r (uls s ds1)) fin2 ac) Q _ := q
            rw [rem_bns] at q
            intro W' H' us le' S' rs'
            refine ⟨W', ds1, s2, l1, le', S', rs', hw1, fun J1 wo1 => ?_⟩
            have e' := Wd.Le.lkhd le'
            have leu := Wd.Le.unat le'
            obtain ⟨lk2, S2', f1, f2, f3⟩ := lks_ok ds1 S' (wk_thr hw1)
            have hlk : W'.lk = lk1 := le'.lk
            have hhd : W'.hd = hdUp W1.hd p vs := le'.hd
            have SE2' : SimE C (W'.at_ W.lk W.hd) σ2 e1 := SimE.att (SE2.mono le')
            refine lcit_ok (W1 := W'.at_ W.lk W.hd) (wo1.re W.lk W.hd) (fun n b ws h1 h2 h3 => f1 n b ws h1 h2 h3) (.refl _) (hd1 := W1.hd) (lk1 := lk2) (fin := fun a s => fin2 a (uls s ds1)) ⟨.refl _, vs, by rw [hhd] at S2'; exact S2', r.mono leu⟩ (RvQ.mono q leu)
              (fun W5 s5 H5 ac5 L5 q5 => ?_) (fun W s H ac vs d x fin2 Nx le S r rd q hN hl => lc_item hE SE2' hsub W s H ac vs d x fin2 Nx le S r rd q hN hl) fun W5 s5 ac5 q5 => hl _ _ _ q5
            obtain ⟨le5, vs5, S5, r5⟩ := L5
            have S6 := (f3 W5 _ H5 s5 S5).2
            rw [hlk] at S6
            exact hN W5 (uls s5 ds1) H5 ac5 ⟨(le.trans leu).trans le5, vs5, S6, r5⟩ q5
structure LcOk2 (X : Cx) (C : Cn) (Wx : WX) (elt tg iter tg1 iter1 : Expr) (ifs1 : List Expr) (scope : Scope) (own : List (Str × Nat)) (vs0 : List Nat) (t0 : Tg) (k0 : Wk) (es0 : EsT) (vs1 : List Nat) (t : Tg) (k : Wk) (es : EsT) (c a : EvT) : Prop where
  hE : C.er = none
  hc : X.calm = true
  hN : X.N.Nodup
  hi : PI X tg iter (tI C Wx k0 es0)
  ok : BlkOk X.N X.env.scope scope own
  hv : ∀ i, i ∈ vs1 → i ∈ vs0
  hg : ∀ s H A cl fp, PG (X.blk s H scope (compEnvC scope cl A X.env) fp) tg (tG C t0)
  hi1 : ∀ s H A cl fp, PI (X.blk s H scope (compEnvC scope cl A X.env) fp) tg1 iter1 (tI C (fun _ _ _ _ => False) k es)
  hg1 : ∀ s H A cl fp, PG (X.blk s H scope (compEnvC scope cl A X.env) fp) tg1 (tG C t)
  ht : ∀ s H A cl fp, PTs (X.blk s H scope (compEnvC scope cl A X.env) fp) ifs1 (tT C (fun _ _ _ _ => False) c)
  he : ∀ s H A cl fp, PE (X.blk s H scope (compEnvC scope cl A X.env) fp) elt (tE C (fun _ _ _ _ => False) a)
  hs : ∀ x, foldedSetIterable iter X.env x = pure x
  hs1 : ∀ env x, foldedSetIterable iter1 env x = pure x
  ho : own.map (fun x => x.2) = vs0
  hsub0 : ∀ j ∈ tgs t0, j ∈ vs0
  hsub : ∀ j ∈ tgs t, j ∈ vs1
theorem ok_lc2 {elt tg iter tg1 iter1 : Expr} {ifs1 : List Expr} {scope : Scope} {own : List (Str × Nat)} {pos : Pos} {m : Bool} {vs0 vs1 : List Nat} {t0 t : Tg} {k0 k : Wk} {es0 es : EsT} {c a : EvT} (h : LcOk2 X C Wx elt tg iter tg1 iter1 ifs1 scope own vs0 t0 k0 es0 vs1 t k es c a) :
    PE X (.ListComp elt [⟨tg, iter, [], 0⟩, ⟨tg1, iter1, ifs1, 0⟩] scope pos) (tE C Wx (eLc2 m vs0 t0 k0 es0 vs1 t k es c a)) :=
  pe_imp (pe_lc2 h.hc h.hN h.hi h.ok (fun i hi => by rw [h.ho]; exact h.hv i hi) h.hg (fun _ _ _ _ _ => pts_nil) h.hi1 h.hg1 h.ht h.he h.hs h.hs1) fun σ H Q q => h.ho ▸ lc2_read h.hE h.hsub0 h.hsub q
theorem ok_setLc2 {elt tg iter tg1 iter1 : Expr} {ifs1 : List Expr} {scope : Scope} {own : List (Str × Nat)} {pos spos py : Pos} {y : Str} {i : Nat} {m : Bool} {vs0 vs1 : List Nat} {t0 t : Tg} {k0 k : Wk} {es0 es : EsT} {c a : EvT} (h : LcOk2 X C Wx elt tg iter tg1 iter1 ifs1 scope own vs0 t0 k0 es0 vs1 t k es c a)
    (hy : X.N[i]? = some y) (hyl : List.lookup y X.env.scope.names = some NameKind.local) (hsw : swapsWith (.ListComp elt [⟨tg, iter, [], 0⟩, ⟨tg1, iter1, ifs1, 0⟩] scope pos) (some (.Name y py)) spos.line X.env = pure true) :
    PS X (.Assign [.Name y py] (.ListComp elt [⟨tg, iter, [], 0⟩, ⟨tg1, iter1, ifs1, 0⟩] scope pos) spos) (fun D σ H => tE C Wx (eLc2 m vs0 t0 k0 es0 vs1 t k es c a) σ H fun x H1 => gName i x σ H1 D.nx) :=
  ps_imp (ps_setLc2 h.hc h.hN hy hyl hsw h.hi h.ok (fun i hi => by rw [h.ho]; exact h.hv i hi) h.hg (fun _ _ _ _ _ => pts_nil) h.hi1 h.hg1 h.ht h.he h.hs h.hs1) fun D σ H q => by rw [h.ho]; exact lc2_read h.hE h.hsub0 h.hsub q
end
end Mv
end

section
set_option Elab.async false
set_option linter.all false
set_option maxRecDepth 100000
set_option maxHeartbeats 4000000
/-! Stmt: statements. -/
namespace Mv
open PySem PySem.Spec PyProof.Rows L2
section
variable {X : Cx} {C : Cn} {Wx : WX}
theorem FlQ.bnf {W : Wd} {σ : L2.St} {e : Env} {r : Rv} {k : D → St → Fl} {Dn : Ends} (SE : SimE C W σ e) (h : FlQ C W σ (r.bnf e k) Dn Wx) :
    RvQ C W r (fun v H => ∃ W' d s, W.Le W' ∧ SimS C W' H s ∧ RD C W' d v ∧ FlQ C W' σ (k d s) Dn Wx) (fun cls d H' => Wx cls d σ H') := by
  cases r with
  | ok d s => exact fun W' H' v a b c => ⟨W', d, s, a, b, c, FlQ.mono (r := k d s) h a⟩
  | exc c p s => exact fun W' H' cls dx a b c => h W' H' σ cls dx a b (SE.mono a) c
  | bad n => exact h
theorem ok_xexp {e : Expr} {r : EvT} {pos : Pos} (he : PE X e (tE C Wx r)) (hs : swapsWith e none pos.line X.env = pure false) : PS X (.Expr e pos) (tS C Wx (xExp r)) := by
  refine ps_imp (ps_expr he hs) fun Dn σ H ⟨W, en, s, S, SE, q⟩ => ⟨W, en, s, S, SE, RvQ.imp (FlQ.bnf SE q) (fun v H1 ⟨W1, d, s1, le, S1, r1, q1⟩ => ?_) fun _ _ _ z => z⟩
  exact q1 W1 H1 σ (.refl _) S1 (SE.mono le)
theorem ok_xpas {pos : Pos} : PS X (.Pass pos) (tS C Wx xPas) := ps_imp ps_pass fun Dn σ H ⟨W, e, s, S, SE, q⟩ => q W H σ (.refl _) S SE
theorem ok_xbrk {pos : Pos} : PS X (.Break pos) (tS C Wx xBrk) := ps_imp ps_break fun Dn σ H ⟨W, e, s, S, SE, q⟩ => q W H σ (.refl _) S SE
theorem ok_xret {e : Expr} {r : EvT} {pos : Pos} (he : PE X e (tE C Wx r)) : PS X (.Return (some e) pos) (tS C Wx (xRet r)) := by
  refine ps_imp (ps_ret he) fun Dn σ H ⟨W, en, s, S, SE, q⟩ => ⟨W, en, s, S, SE, RvQ.imp (FlQ.bnf SE q) (fun v H1 ⟨W1, d, s1, le, S1, r1, q1⟩ => ?_) fun _ _ _ z => z⟩
  exact q1 W1 H1 v (.refl _) S1 r1
theorem ok_xret0 {pos : Pos} : PS X (.Return none pos) (tS C Wx (xRet (eCon .non))) := by
  refine ps_imp ps_retN fun Dn σ H ⟨W, en, s, S, SE, q⟩ => ?_
  exact q W H .non (.refl _) S .non
/-- a value is stored -/
theorem asg_read {t : Tg} {r : EvT} {Dn : Ends} {σ : L2.St} {H : Hp} (h : tS C Wx (xAsg t r) Dn σ H) : tE C Wx r σ H fun x H1 => tG C t x σ H1 Dn.nx := by
  obtain ⟨W, en, s, S, SE, q⟩ := h
  refine ⟨W, en, s, S, SE, RvQ.imp (FlQ.bnf SE q) (fun v H1 ⟨W1, d, s1, le, S1, r1, q1⟩ => ?_) fun _ _ _ z => z⟩
  cases hb : bndT t d en s1 with
  | none => rw [hb] at q1; exact q1.elim
  | some e1 =>
    rw [hb] at q1
    exact ⟨W1, d, en, s1, e1, S1, SE.mono le, r1, hb, fun σ' SE' _ => q1 W1 H1 σ' (.refl _) S1 SE'⟩
theorem ok_xasg {tg e : Expr} {t : Tg} {r : EvT} {pos : Pos} (hn : nst tg = true) (he : PE X e (tE C Wx r)) (hg : PG X tg (tG C t)) (hs : swapsWithSole [tg] e pos.line X.env = pure false) (hw : swappedStores [tg] e X.env = pure none) :
    PS X (.Assign [tg] e pos) (tS C Wx (xAsg t r)) :=
  ps_imp (ps_asg he hg hs hw (by rw [assign_cons hn]; rfl)) fun Dn σ H q => asg_read q
theorem tG_name {i : Nat} {x : V} {σ : L2.St} {H : Hp} {Q : L2.St → Hp → Prop} (hE : ∀ x, C.er = some x → i ≠ x.i) (h : tG C (.nm i) x σ H Q) : gName i x σ H Q := by
  obtain ⟨W, d, e, s, e', S, SE, r, hb, q⟩ := h
  cases hb
  refine q _ (SE.set r hE) ⟨List.length_set, fun j hj => ?_⟩
  rw [List.getElem?_set, if_neg (fun e => hj (by rw [e]; simp [tgs]))]
theorem ok_xset1 {i : Nat} {x : Str} {p pos : Pos} {e : Expr} {r : EvT} (hN : X.N.Nodup) (hi : X.N[i]? = some x) (hx : L2.Loc X.env.scope x) (he : PE X e (tE C Wx r)) (hs : swapsWith e (some (.Name x p)) pos.line X.env = pure false)
    (hf : X.fn x = true ∨ List.lookup x X.env.scope.names = some NameKind.local) (hE : ∀ x, C.er = some x → i ≠ x.i) : PS X (.Assign [.Name x p] e pos) (tS C Wx (xAsg (.nm i) r)) :=
  ps_imp (ps_set hN hi hx he hs hf) fun Dn σ H q => by
    obtain ⟨W, en, s, S, SE, q⟩ := asg_read q
    exact ⟨W, en, s, S, SE, RvQ.imp q (fun v H1 z => tG_name hE z) fun _ _ _ z => z⟩
theorem ok_xsetLc {elt tg iter : Expr} {ifs : List Expr} {scope : Scope} {own : List (Str × Nat)} {pos spos py : Pos} {y : Str} {i : Nat} {m : Bool} {vs0 : List Nat} {t : Tg} {k : Wk} {es : EsT} {c a : EvT} (h : LcOk X C Wx elt tg iter ifs scope own vs0 t k es c a) (hE : ∀ x, C.er = some x → i ≠ x.i)
    (hy : X.N[i]? = some y) (hyl : List.lookup y X.env.scope.names = some NameKind.local) (hsw : swapsWith (.ListComp elt [⟨tg, iter, ifs, 0⟩] scope pos) (some (.Name y py)) spos.line X.env = pure true) :
    PS X (.Assign [.Name y py] (.ListComp elt [⟨tg, iter, ifs, 0⟩] scope pos) spos) (tS C Wx (xAsg (.nm i) (eLc m vs0 t k es c a))) :=
  ps_imp (ok_setLc h hy hyl hsw) fun Dn σ H q => by
    obtain ⟨W, en, s, S, SE, q⟩ := asg_read q
    exact ⟨W, en, s, S, SE, RvQ.imp q (fun v H1 z => tG_name hE z) fun _ _ _ z => z⟩
theorem ok_xsetLc2 {elt tg iter tg1 iter1 : Expr} {ifs1 : List Expr} {scope : Scope} {own : List (Str × Nat)} {pos spos py : Pos} {y : Str} {i : Nat} {m : Bool} {vs0 vs1 : List Nat} {t0 t : Tg} {k0 k : Wk} {es0 es : EsT} {c a : EvT} (h : LcOk2 X C Wx elt tg iter tg1 iter1 ifs1 scope own vs0 t0 k0 es0 vs1 t k es c a) (hE : ∀ x, C.er = some x → i ≠ x.i)
    (hy : X.N[i]? = some y) (hyl : List.lookup y X.env.scope.names = some NameKind.local) (hsw : swapsWith (.ListComp elt [⟨tg, iter, [], 0⟩, ⟨tg1, iter1, ifs1, 0⟩] scope pos) (some (.Name y py)) spos.line X.env = pure true) :
    PS X (.Assign [.Name y py] (.ListComp elt [⟨tg, iter, [], 0⟩, ⟨tg1, iter1, ifs1, 0⟩] scope pos) spos) (tS C Wx (xAsg (.nm i) (eLc2 m vs0 t0 k0 es0 vs1 t k es c a))) :=
  ps_imp (ok_setLc2 h hy hyl hsw) fun Dn σ H q => by
    obtain ⟨W, en, s, S, SE, q⟩ := asg_read q
    exact ⟨W, en, s, S, SE, RvQ.imp q (fun v H1 z => tG_name hE z) fun _ _ _ z => z⟩
/-! ### several at once -/
theorem par_read {t : Tg} {r : EsT} {Dn : Ends} {σ : L2.St} {H : Hp} (h : tS C Wx (xAsg t (en .tup r)) Dn σ H) :
    tA C Wx r σ H fun vs H1 => ∃ W ds s e e', SimS C W H1 s ∧ SimE C W σ e ∧ RDs C W ds vs ∧ bndT t (.tup ds) e s = some e' ∧ ∀ σ', SimE C W σ' e' → Dn.nx σ' H1 := by
  obtain ⟨W, e, s, S, SE, q⟩ := h
  refine ⟨W, e, s, S, SE, ?_⟩
  have q : FlQ C W σ (((r e s).bnd (pn .tup)).bnf e fun d s => obnd (bndT t d e s) (.bad 110) fun e => .nx e s) Dn Wx := q
  cases z : r e s with
  | ok ds s1 =>
    rw [z] at q
    have q : FlQ C W σ ((newT ds s1).bnf e fun d s => obnd (bndT t d e s) (.bad 110) fun e => .nx e s) Dn Wx := q
    unfold newT at q
    cases hl : Nat.ble ds.length 16777216 with
    | false => rw [hl] at q; exact q.elim
    | true =>
      rw [hl] at q
      have q : FlQ C W σ (obnd (bndT t (.tup ds) e s1) (.bad 110) fun e => .nx e s1) Dn Wx := q
      cases hb : bndT t (.tup ds) e s1 with
      | none => rw [hb] at q; exact q.elim
      | some e1 =>
        rw [hb] at q
        intro W' H' vs le S' rs
        exact ⟨W', ds, s1, e, e1, S', SE.mono le, rs, hb, fun σ' SE' => q W' H' σ' le S' SE'⟩
  | exc c p s1 => rw [z] at q; exact fun W' H' cls dx le S' rx => q W' H' σ cls dx le S' (SE.mono le) rx
  | bad n => rw [z] at q; exact q
theorem ok_xpar {i j : Nat} {x y : Str} {a b : Expr} {ra rb : EvT} {px py pt : Pos} {kt k2 : Nat} {pt2 pos : Pos} (hc : X.calm = true) (hN : X.N.Nodup) (hi : X.N[i]? = some x) (hj : X.N[j]? = some y) (hij : i ≠ j) (hE : C.er = none)
    (hx : List.lookup x X.env.scope.names = some NameKind.local) (hy : List.lookup y X.env.scope.names = some NameKind.local) (ha : PA X [a, b] (tA C Wx (esC ra (esC rb esN))))
    (hw : swappedStores [.Tuple [.Name x px, .Name y py] kt pt] (.Tuple [a, b] k2 pt2) X.env = pure (some [x, y])) :
    PS X (.Assign [.Tuple [.Name x px, .Name y py] kt pt] (.Tuple [a, b] k2 pt2) pos) (tS C Wx (xAsg (.tp [.nm i, .nm j]) (en .tup (esC ra (esC rb esN))))) := by
  refine ps_imp (ps_par hc hN hi hj hij hx hy ha hw) fun Dn σ H q => ?_
  obtain ⟨W, e, s, S, SE, q⟩ := par_read q
  refine ⟨W, e, s, S, SE, RsQ.imp (rs2 q) fun vs H1 ⟨⟨v, w, ev⟩, W1, ds, s1, e1, e', S1, SE1, r, hb, q1⟩ => ?_⟩
  subst ev
  cases r with | cons r1 rn =>
  cases rn with | cons r2 rn =>
  cases rn
  cases hb
  exact ⟨v, w, rfl, q1 _ ((SE1.set r1 fun x q => by rw [hE] at q; cases q).set r2 fun x q => by rw [hE] at q; cases q)⟩
theorem ok_xpar3 {i j l : Nat} {x y z : Str} {a b c : Expr} {ra rb rc : EvT} {px py pz pt : Pos} {kt k2 : Nat} {pt2 pos : Pos} (hc : X.calm = true) (hN : X.N.Nodup) (hi : X.N[i]? = some x) (hj : X.N[j]? = some y) (hl : X.N[l]? = some z) (hij : i ≠ j) (hil : i ≠ l) (hjl : j ≠ l) (hE : C.er = none)
    (hx : List.lookup x X.env.scope.names = some NameKind.local) (hy : List.lookup y X.env.scope.names = some NameKind.local) (hz : List.lookup z X.env.scope.names = some NameKind.local) (ha : PA X [a, b, c] (tA C Wx (esC ra (esC rb (esC rc esN)))))
    (hw : swappedStores [.Tuple [.Name x px, .Name y py, .Name z pz] kt pt] (.Tuple [a, b, c] k2 pt2) X.env = pure (some [x, y, z])) :
    PS X (.Assign [.Tuple [.Name x px, .Name y py, .Name z pz] kt pt] (.Tuple [a, b, c] k2 pt2) pos) (tS C Wx (xAsg (.tp [.nm i, .nm j, .nm l]) (en .tup (esC ra (esC rb (esC rc esN)))))) := by
  refine ps_imp (ps_par3 hc hN hi hj hl hij hil hjl hx hy hz ha hw) fun Dn σ H q => ?_
  obtain ⟨W, e, s, S, SE, q⟩ := par_read q
  refine ⟨W, e, s, S, SE, RsQ.imp (rs3 q) fun vs H1 ⟨⟨u, v, w, ev⟩, W1, ds, s1, e1, e', S1, SE1, r, hb, q1⟩ => ?_⟩
  subst ev
  cases r with | cons r1 rn =>
  cases rn with | cons r2 rn =>
  cases rn with | cons r3 rn =>
  cases rn
  cases hb
  exact ⟨u, v, w, rfl, q1 _ (((SE1.set r1 fun x q => by rw [hE] at q; cases q).set r2 fun x q => by rw [hE] at q; cases q).set r3 fun x q => by rw [hE] at q; cases q)⟩
/-! ### if, while -/
theorem ok_xif {c : Expr} {a b : List Stmt} {rc : EvT} {ra rb : ExT} {pos : Pos} (hc : PT X c (tT C Wx rc)) (ha : PSs X a (tS C Wx ra)) (hb : PSs X b (tS C Wx rb)) : PS X (.If c a b pos) (tS C Wx (xIf rc ra rb)) := by
  refine ps_imp (ps_if hc ha hb) fun Dn σ H ⟨W, en, s, S, SE, q⟩ => ⟨W, en, s, S, SE, ?_⟩
  unfold xIf at q
  cases z : rc en s with
  | ok d s1 =>
    rw [z] at q
    have q : FlQ C W σ (obnd (tru s1 d) (.bad 112) fun t => cond t (ra en s1) (rb en s1)) Dn Wx := q
    cases ht : tru s1 d with
    | none => rw [ht] at q; exact q.elim
    | some k =>
      rw [ht] at q
      refine ⟨k, ht, fun W' H' le S' => ?_⟩
      cases k with
      | true => exact Eq.mpr (if_pos rfl) ⟨W', en, s1, S', SE.mono le, FlQ.mono (r := ra en s1) q le⟩
      | false => exact Eq.mpr (if_neg Bool.false_ne_true) ⟨W', en, s1, S', SE.mono le, FlQ.mono (r := rb en s1) q le⟩
  | exc c p s1 => rw [z] at q; exact fun W' H' cls dx le S' rx => q W' H' σ cls dx le S' (SE.mono le) rx
  | bad n => rw [z] at q; exact q
theorem ok_xnil : PSs X [] (tS C Wx xPas) := pss_imp pss_nil fun Dn σ H ⟨W, e, s, S, SE, q⟩ => q W H σ (.refl _) S SE
theorem FlQ.seq {W : Wd} {σ : L2.St} {r : Fl} {k : ExT} {Dn : Ends} (h : FlQ C W σ (r.seq k) Dn Wx) : FlQ C W σ r { nx := tS C Wx k Dn, rt := Dn.rt, bk := Dn.bk, ct := Dn.ct } Wx := by
  cases r with
  | nx e s => exact fun W' H' σ' le S' SE' => ⟨W', e, s, S', SE', FlQ.mono (r := k e s) (by
      have h : FlQ C W σ (k e s) Dn Wx := h
      cases z : k e s with
      | nx e s => rw [z] at h; exact h
      | rt d s => rw [z] at h; exact h
      | bk e s => rw [z] at h; exact h
      | exc c p e s => rw [z] at h; exact h
      | bad n => rw [z] at h; exact h) le⟩
  | rt d s => exact h
  | bk e s => exact h
  | exc c p e s => exact h
  | bad n => exact h
theorem ok_xcons {st : Stmt} {rest : List Stmt} {a b : ExT} (h1 : PS X st (tS C Wx a)) (h2 : PSs X rest (tS C Wx b)) : PSs X (st :: rest) (tS C Wx (xSeq a b)) :=
  pss_imp (pss_cons h1 h2) fun Dn σ H ⟨W, e, s, S, SE, q⟩ => ⟨W, e, s, S, SE, FlQ.seq q⟩
theorem FlQ.any {W : Wd} {σ σ2 : L2.St} {r : Fl} {Dn : Ends} (h : FlQ C W σ r Dn Wx) : FlQ C W σ2 r Dn Wx := by
  cases r with
  | nx e s => exact h
  | rt d s => exact h
  | bk e s => exact h
  | exc c p e s => exact h
  | bad n => exact h
theorem ok_xwhl {c : Expr} {b : List Stmt} {rc : EvT} {rb : ExT} {pos : Pos} (hp : PassesOwn (model X.prog X.w) X.A X.env X.xe) (hc : PT X c (tT C Wx rc)) (hb : PSs X b (tS C Wx rb)) : PS X (.While c b [] pos) (tS C Wx (xWhl rc rb)) := by
  refine ps_imp (ps_while hp hc hb) fun Dn σ H ⟨W, en, s, S, SE, q⟩ => ?_
  refine ⟨fun m σ H => ∃ W en s, SimS C W H s ∧ SimE C W σ en ∧ FlQ C W σ (loopW rc rb m en s) Dn Wx, ⟨100000, W, en, s, S, SE, q⟩, ?_⟩
  intro m σ H ⟨W, en, s, S, SE, q⟩
  cases m with
  | zero => exact q.elim
  | succ m =>
    refine ⟨W, en, s, S, SE, ?_⟩
    have q : FlQ C W σ ((rc en s).bnf en fun d s => obnd (tru s d) (.bad 116) fun t => cond t (turnF (rb en s) (loopW rc rb m)) (.nx en s)) Dn Wx := q
    cases z : rc en s with
    | ok d s1 =>
      rw [z] at q
      have q : FlQ C W σ (obnd (tru s1 d) (.bad 116) fun t => cond t (turnF (rb en s1) (loopW rc rb m)) (.nx en s1)) Dn Wx := q
      cases ht : tru s1 d with
      | none => rw [ht] at q; exact q.elim
      | some k =>
        rw [ht] at q
        refine ⟨k, ht, fun W' H' le S' => ?_⟩
        cases k with
        | false => exact Eq.mpr (if_neg Bool.false_ne_true) (q W' H' σ le S' (SE.mono le))
        | true =>
          refine Eq.mpr (if_pos rfl) ⟨fun σ' H' => ∃ W en s, SimS C W H' s ∧ SimE C W σ' en ∧ FlQ C W σ' (loopW rc rb m en s) Dn Wx, fun σ' H' h => ⟨m, Nat.lt_succ_self m, h⟩, W', en, s1, S', SE.mono le, ?_⟩
          have q : FlQ C W σ (turnF (rb en s1) (loopW rc rb m)) Dn Wx := q
          cases zb : rb en s1 with
          | nx e2 s2 =>
            rw [zb] at q
            exact fun W2 H2 σ2 le2 S2 SE2 => ⟨W2, e2, s2, S2, SE2, FlQ.any (FlQ.mono (r := loopW rc rb m e2 s2) q (le.trans le2))⟩
          | rt d2 s2 => rw [zb] at q; exact fun W2 H2 v2 le2 S2 r2 => q W2 H2 v2 (le.trans le2) S2 r2
          | bk e2 s2 => rw [zb] at q; exact fun W2 H2 σ2 le2 S2 SE2 => q W2 H2 σ2 (le.trans le2) S2 SE2
          | exc c p e2 s2 => rw [zb] at q; exact fun W2 H2 σ2 cls dx le2 S2 SE2 rx => q W2 H2 σ2 cls dx (le.trans le2) S2 SE2 rx
          | bad n => rw [zb] at q; exact q
    | exc c p s1 => rw [z] at q; exact fun W' H' cls dx le S' rx => q W' H' σ cls dx le S' (SE.mono le) rx
    | bad n => rw [z] at q; exact q
/-! ### o[i] = a -/
theorem setN_eq : ∀ (l : List D) (n : Nat) (d : D), setN l n d = l.set n d
  | [], _, _ => rfl
  | _ :: _, 0, _ => rfl
  | a :: r, n + 1, d => by show a :: setN r n d = _; rw [setN_eq r n d]; rfl
/-- a[k] = v of a dict -/
def rSetD (C : Cn) : TSet := fun o i v H Q => ∃ (W : Wd) (s : St) (kvs : List (D × D)) (xs : List NRow) (a b : Addr) (k : D) (nk : NK), SimS C W H s ∧ o = .ref a ∧ i = .ref b ∧ H a = some (DctO C.w a xs) ∧ RKs C W kvs xs ∧ nkD 7 k = some nk ∧ RD C W k (.ref b) ∧ xs.length < sizeLine ∧ Q (upd H a (DctO C.w a (putN xs nk b v)))
theorem set_two (hw : C.w = X.w) (hu : X.A.units + 100 < cLine) : PSet X (fun o i v H Q => rSetL o i v H Q ∨ rSetD C o i v H Q) := by
  intro pins t σ H o i v ov iv u Q I ro ri rv h
  rcases h with h | ⟨W, s, kvs, xs, a, b, k, nk, S, eo, ei, hH, r, hk, rk, hl, q⟩
  · exact set_list pins t σ H o i v ov iv u Q I ro ri rv h
  · subst eo; subst ei
    cases ro
    cases ri
    rw [hw] at hH q
    exact dN_setItem hu I hH (rks_keys S.sub I.hok r) (rd_nkey S.sub I.hok hk rk) hl rv fun t' I' => ⟨_, I', q⟩
theorem ok_xstore (hwd : C.w = X.w) (hu : X.A.units + 100 < cLine) {o i e : Expr} {ro ri re : EvT} {p pos : Pos} (hsl : nsl i = true) (he : PE X e (tE C Wx re)) (ho : PE X o (tE C Wx ro)) (hi : PE X i (tE C Wx ri)) (hs : swapsWithSole [.Subscript o i p] e pos.line X.env = pure false) (hw : swappedStores [.Subscript o i p] e X.env = pure none)
    (ha : ∀ v, assign (.Subscript o i p) X.env v = do
        let ov ← holding [v] (eval o X.env)
        let iv ← holding [v, ov] (eval i X.env)
        standAt p
        holding [v, ov, iv] (setItem ov iv v)
        release [v, ov, iv] []) :
    PS X (.Assign [.Subscript o i p] e pos) (tS C Wx (xSet ro ri re)) := by
  refine ps_imp (ps_asg he (pg_sub ho hi (set_two (C := C) hwd hu) ha) hs hw rfl) fun Dn σ H ⟨W, en, s, S, SE, q⟩ => ?_
  refine ⟨W, en, s, S, SE, RvQ.imp (FlQ.bnf SE q) (fun v H1 ⟨W1, d1, s1, le1, S1, r1, q1⟩ => ?_) fun _ _ _ z => z⟩
  refine ⟨W1, en, s1, S1, SE.mono le1, RvQ.imp (FlQ.bnf (SE.mono le1) q1) (fun x H2 ⟨W2, d2, s2, le2, S2, r2, q2⟩ => ?_) fun _ _ _ z => z⟩
  refine ⟨W2, en, s2, S2, (SE.mono le1).mono le2, RvQ.imp (FlQ.bnf ((SE.mono le1).mono le2) q2) (fun y H3 ⟨W3, d3, s3, le3, S3, r3, q3⟩ => ?_) fun _ _ _ z => z⟩
  unfold sSet at q3
  split at q3
  · split at q3
    · split at q3
      · rename_i l hf
        cases hj : ixn _ l.length with
        | none => rw [hj] at q3; exact q3.elim
        | some j =>
          rw [hj] at q3
          cases r3
          cases r2 with | loc hp =>
          have hp := le3.ρ _ _ hp
          obtain ⟨a, vs, g1, g2, g3, g4⟩ := S3.cell _ _ _ hf
          rw [hp] at g1; cases g1
          refine .inl ⟨_, vs, _, j, rfl, rfl, g3, by rw [← g4.length]; exact (ixn_eq _ _ _ hj).1, ?_⟩
          have r := g4.set j ((r1.mono le2).mono le3)
          rw [← setN_eq] at r
          exact q3 W3 _ σ (.refl _) (S3.write hf hp r) (((SE.mono le1).mono le2).mono le3)
      · exact q3.elim
    · split at q3
      · rename_i kvs hf
        cases hb : (kyt d3 && Nat.blt kvs.length 16777216) with
        | false => rw [hb] at q3; exact q3.elim
        | true =>
          rw [hb] at q3
          have hb := (Bool.and_eq_true _ _).mp hb
          have hl := (blt_iff _ _).mp hb.2
          obtain ⟨nk, h1, l, h2⟩ := kyt_tup hb.1
          subst h2
          cases r2 with | loc hp =>
          have hp := le3.ρ _ _ hp
          obtain ⟨a, xs, g1, g2, g3, g4⟩ := S3.dct hf
          rw [hp] at g1; cases g1
          have r3' := r3
          cases r3 with | tup hf1 hr1 =>
          refine .inr ⟨W3, s3, kvs, xs, _, _, _, nk, S3, rfl, rfl, g3, g4, h1, r3', by rw [← Paired.length g4, sizeLine_eq]; exact hl, ?_⟩
          exact q3 W3 _ σ (.refl _) (S3.dset hf hp (dput_ok h1 r3' ((r1.mono le2).mono le3) g4)) (((SE.mono le1).mono le2).mono le3)
      · exact q3.elim
  · exact q3.elim
/-! ### o[i], p[j] = a -/
theorem sub_step {ro ri : EvT} {W : Wd} {en : Env} {s : St} {σ : L2.St} {H : Hp} {d : D} {v : V} {Kn : St → Fl} {Dn : Ends} (S : SimS C W H s) (SE : SimE C W σ en) (r1 : RD C W d v) (q : FlQ C W σ ((ro en s).bnf en fun x s => (ri en s).bnf en fun k s => obnd (sSet x k d s) (.bad 111) Kn) Dn Wx) :
    gSub (tE C Wx ro) (tE C Wx ri) (fun o i v H Q => rSetL o i v H Q ∨ rSetD C o i v H Q) v σ H (fun σ' H' => σ' = σ ∧ ∃ W' s', W.Le W' ∧ SimS C W' H' s' ∧ FlQ C W' σ (Kn s') Dn Wx) := by
  refine ⟨W, en, s, S, SE, RvQ.imp (FlQ.bnf SE q) (fun x H2 ⟨W2, d2, s2, le2, S2, r2, q2⟩ => ?_) fun _ _ _ z => z⟩
  refine ⟨W2, en, s2, S2, SE.mono le2, RvQ.imp (FlQ.bnf (SE.mono le2) q2) (fun y H3 ⟨W3, d3, s3, le3, S3, r3, q3⟩ => ?_) fun _ _ _ z => z⟩
  unfold sSet at q3
  split at q3
  · split at q3
    · split at q3
      · rename_i l hf
        cases hj : ixn _ l.length with
        | none => rw [hj] at q3; exact q3.elim
        | some j =>
          rw [hj] at q3
          cases r3
          cases r2 with | loc hp =>
          have hp := le3.ρ _ _ hp
          obtain ⟨a, vs, g1, g2, g3, g4⟩ := S3.cell _ _ _ hf
          rw [hp] at g1; cases g1
          refine .inl ⟨_, vs, _, j, rfl, rfl, g3, by rw [← g4.length]; exact (ixn_eq _ _ _ hj).1, rfl, ?_⟩
          have r := g4.set j ((r1.mono le2).mono le3)
          rw [← setN_eq] at r
          exact ⟨W3, _, le2.trans le3, S3.write hf hp r, q3⟩
      · exact q3.elim
    · split at q3
      · rename_i kvs hf
        cases hb : (kyt d3 && Nat.blt kvs.length 16777216) with
        | false => rw [hb] at q3; exact q3.elim
        | true =>
          rw [hb] at q3
          have hb := (Bool.and_eq_true _ _).mp hb
          have hl := (blt_iff _ _).mp hb.2
          obtain ⟨nk, h1, l, h2⟩ := kyt_tup hb.1
          subst h2
          cases r2 with | loc hp =>
          have hp := le3.ρ _ _ hp
          obtain ⟨a, xs, g1, g2, g3, g4⟩ := S3.dct hf
          rw [hp] at g1; cases g1
          have r3' := r3
          cases r3 with | tup hf1 hr1 =>
          refine .inr ⟨W3, s3, kvs, xs, _, _, _, nk, S3, rfl, rfl, g3, g4, h1, r3', by rw [← Paired.length g4, sizeLine_eq]; exact hl, rfl, ?_⟩
          exact ⟨W3, _, le2.trans le3, S3.dset hf hp (dput_ok h1 r3' ((r1.mono le2).mono le3) g4), q3⟩
      · exact q3.elim
  · exact q3.elim
theorem set_imp {C : Cn} {o i v : V} {H : Hp} {Q1 Q2 : Hp → Prop} (h : rSetL o i v H Q1 ∨ rSetD C o i v H Q1) (imp : ∀ H', Q1 H' → Q2 H') : rSetL o i v H Q2 ∨ rSetD C o i v H Q2 := by
  rcases h with ⟨p, xs, k, j, h1, h2, h3, h4, h5⟩ | ⟨W, s, kvs, xs, a, b, k, nk, h1, h2, h3, h4, h5, h6, h7, h8, h9⟩
  · exact .inl ⟨p, xs, k, j, h1, h2, h3, h4, imp _ h5⟩
  · exact .inr ⟨W, s, kvs, xs, a, b, k, nk, h1, h2, h3, h4, h5, h6, h7, h8, imp _ h9⟩
theorem gsub_imp {ro ri : EvT} {v : V} {σ : L2.St} {H : Hp} {Q1 Q2 : L2.St → Hp → Prop} (h : gSub (tE C Wx ro) (tE C Wx ri) (fun o i v H Q => rSetL o i v H Q ∨ rSetD C o i v H Q) v σ H Q1) (imp : ∀ σ' H', Q1 σ' H' → Q2 σ' H') :
    gSub (tE C Wx ro) (tE C Wx ri) (fun o i v H Q => rSetL o i v H Q ∨ rSetD C o i v H Q) v σ H Q2 := by
  obtain ⟨W, e, s, S, SE, q⟩ := h
  refine ⟨W, e, s, S, SE, RvQ.imp q (fun x H2 h2 => ?_) fun _ _ _ z => z⟩
  obtain ⟨W2, e2, s2, S2, SE2, q2⟩ := h2
  exact ⟨W2, e2, s2, S2, SE2, RvQ.imp q2 (fun y H3 h3 => set_imp h3 fun H' => imp _ H') fun _ _ _ z => z⟩
theorem ok_xstore2 (hK : C.K = X.K) (hwd : C.w = X.w) (hu : X.A.units + 100 < cLine) (hc : X.calm = true) {o i o2 i2 e : Expr} {ro ri ro2 ri2 re : EvT} {p p2 pt pos : Pos} {kt : Nat} (he : PE X e (tE C Wx re)) (ho : PE X o (tE C Wx ro)) (hi : PE X i (tE C Wx ri)) (ho2 : PE X o2 (tE C Wx ro2)) (hi2 : PE X i2 (tE C Wx ri2))
    (hs : swapsWithSole [.Tuple [.Subscript o i p, .Subscript o2 i2 p2] kt pt] e pos.line X.env = pure false) (hw : swappedStores [.Tuple [.Subscript o i p, .Subscript o2 i2 p2] kt pt] e X.env = pure none)
    (ha : ∀ v, assign (.Subscript o i p) X.env v = do
        let ov ← holding [v] (eval o X.env)
        let iv ← holding [v, ov] (eval i X.env)
        standAt p
        holding [v, ov, iv] (setItem ov iv v)
        release [v, ov, iv] [])
    (ha2 : ∀ v, assign (.Subscript o2 i2 p2) X.env v = do
        let ov ← holding [v] (eval o2 X.env)
        let iv ← holding [v, ov] (eval i2 X.env)
        standAt p2
        holding [v, ov, iv] (setItem ov iv v)
        release [v, ov, iv] []) :
    PS X (.Assign [.Tuple [.Subscript o i p, .Subscript o2 i2 p2] kt pt] e pos) (tS C Wx (xSet2 ro ri ro2 ri2 re)) := by
  have h1 : PG X (.Subscript o i p) _ := pg_sub ho hi (set_two (C := C) hwd hu) ha
  have h2 : PG X (.Subscript o2 i2 p2) _ := pg_sub ho2 hi2 (set_two (C := C) hwd hu) ha2
  refine ps_imp (ps_asg he (pg_tup (n := 2) hc (pgs_cons h1 (pgs_cons h2 pgs_nil rfl) rfl) rfl rfl) hs hw rfl) fun Dn σ H ⟨W, en, s, S, SE, q⟩ => ?_
  refine ⟨W, en, s, S, SE, RvQ.imp (FlQ.bnf SE q) (fun v H1 ⟨W1, d1, s1, le1, S1, r1, q1⟩ => ?_) fun _ _ _ z => z⟩
  split at q1
  · rename_i u w
    cases r1 with | tup hf hr =>
    cases hr with | cons ru hr =>
    cases hr with | cons rw' hr =>
    cases hr
    refine ⟨_, _, rfl, by rw [← hK]; exact hf.sq S1.sub, rfl, _, _, rfl, ?_⟩
    refine gsub_imp (sub_step (Dn := Dn) S1 (SE.mono le1) ru q1) fun σ' H' ⟨eσ, W2, s2, le2, S2, q2⟩ => ?_
    subst eσ
    refine ⟨_, _, rfl, ?_⟩
    refine gsub_imp (sub_step (Dn := Dn) S2 ((SE.mono le1).mono le2) (rw'.mono le2) q2) fun σ' H' ⟨eσ, W3, s3, le3, S3, q3⟩ => ?_
    subst eσ
    exact ⟨rfl, q3 W3 H' _ (.refl _) S3 (((SE.mono le1).mono le2).mono le3)⟩
  · exact q1.elim
theorem star3l {o i o2 i2 tg : Expr} {p p2 : Pos} (hn : nst tg = true) (env : PySem.Env) : (assignEach [o.Subscript i p, o2.Subscript i2 p2, tg] env).length = 3 := by
  have e : assignEach [o.Subscript i p, o2.Subscript i2 p2, tg] env = (false, assign (o.Subscript i p) env) :: (false, assign (o2.Subscript i2 p2) env) :: assignEach [tg] env := rfl
  rw [e, assign_cons hn]; rfl
theorem star3 {o i o2 i2 tg : Expr} {p p2 : Pos} (hn : nst tg = true) (env : PySem.Env) : List.findIdx? (fun x => x.fst) (assignEach [o.Subscript i p, o2.Subscript i2 p2, tg] env) = none := by
  have e : assignEach [o.Subscript i p, o2.Subscript i2 p2, tg] env = (false, assign (o.Subscript i p) env) :: (false, assign (o2.Subscript i2 p2) env) :: assignEach [tg] env := rfl
  rw [e, assign_cons hn]; rfl
theorem ok_xstore3 (hK : C.K = X.K) (hwd : C.w = X.w) (hu : X.A.units + 100 < cLine) (hc : X.calm = true) {o i o2 i2 tg e : Expr} {t : Tg} (hn : nst tg = true) {ro ri ro2 ri2 re : EvT} {p p2 pt pos : Pos} {kt : Nat} (he : PE X e (tE C Wx re)) (ho : PE X o (tE C Wx ro)) (hi : PE X i (tE C Wx ri)) (ho2 : PE X o2 (tE C Wx ro2)) (hi2 : PE X i2 (tE C Wx ri2)) (hg : PG X tg (tG C t))
    (hs : swapsWithSole [.Tuple [.Subscript o i p, .Subscript o2 i2 p2, tg] kt pt] e pos.line X.env = pure false) (hw : swappedStores [.Tuple [.Subscript o i p, .Subscript o2 i2 p2, tg] kt pt] e X.env = pure none)
    (ha : ∀ v, assign (.Subscript o i p) X.env v = do
        let ov ← holding [v] (eval o X.env)
        let iv ← holding [v, ov] (eval i X.env)
        standAt p
        holding [v, ov, iv] (setItem ov iv v)
        release [v, ov, iv] [])
    (ha2 : ∀ v, assign (.Subscript o2 i2 p2) X.env v = do
        let ov ← holding [v] (eval o2 X.env)
        let iv ← holding [v, ov] (eval i2 X.env)
        standAt p2
        holding [v, ov, iv] (setItem ov iv v)
        release [v, ov, iv] []) :
    PS X (.Assign [.Tuple [.Subscript o i p, .Subscript o2 i2 p2, tg] kt pt] e pos) (tS C Wx (xSet3 ro ri ro2 ri2 t re)) := by
  have h1 : PG X (.Subscript o i p) _ := pg_sub ho hi (set_two (C := C) hwd hu) ha
  have h2 : PG X (.Subscript o2 i2 p2) _ := pg_sub ho2 hi2 (set_two (C := C) hwd hu) ha2
  refine ps_imp (ps_asg he (pg_tup (n := 3) hc (pgs_cons h1 (pgs_cons h2 (pgs_cons hg pgs_nil (by rw [assign_cons hn]; rfl)) rfl) rfl) (star3l hn _) (star3 hn _)) hs hw rfl) fun Dn σ H ⟨W, en, s, S, SE, q⟩ => ?_
  refine ⟨W, en, s, S, SE, RvQ.imp (FlQ.bnf SE q) (fun v H1 ⟨W1, d1, s1, le1, S1, r1, q1⟩ => ?_) fun _ _ _ z => z⟩
  split at q1
  · rename_i u w z
    cases r1 with | tup hf hr =>
    cases hr with | cons ru hr =>
    cases hr with | cons rw' hr =>
    cases hr with | cons rz hr =>
    cases hr
    refine ⟨_, _, rfl, by rw [← hK]; exact hf.sq S1.sub, rfl, _, _, rfl, ?_⟩
    refine gsub_imp (sub_step (Dn := Dn) S1 (SE.mono le1) ru q1) fun σ' H' ⟨eσ, W2, s2, le2, S2, q2⟩ => ?_
    subst eσ
    refine ⟨_, _, rfl, ?_⟩
    refine gsub_imp (sub_step (Dn := Dn) S2 ((SE.mono le1).mono le2) (rw'.mono le2) q2) fun σ' H' ⟨eσ, W3, s3, le3, S3, q3⟩ => ?_
    subst eσ
    refine ⟨_, _, rfl, ?_⟩
    cases hb : bndT t z en s3 with
    | none => rw [hb] at q3; exact q3.elim
    | some e3 =>
      rw [hb] at q3
      exact ⟨W3, z, en, s3, e3, S3, ((SE.mono le1).mono le2).mono le3, (rz.mono le2).mono le3, hb, fun σ2 SE2 _ => ⟨rfl, q3 W3 H' σ2 (.refl _) S3 SE2⟩⟩
  · exact q1.elim
end
end Mv
end

section
set_option Elab.async false
set_option linter.all false
set_option maxRecDepth 100000
set_option maxHeartbeats 4000000
/-! HidK: the cells that stand, hidden. -/
namespace Mv
open PySem PySem.Spec PyProof.Rows L2
section
variable {C : Cn}
open Classical in
noncomputable def hdC (W : Wd) (H : Hp) (s : St) : Addr → Option HO := fun a => if (∃ n, (fnd s.cs n).isSome = true ∧ W.ρ n = some a) then H a else W.hd a
noncomputable abbrev Wd.hid (W : Wd) (H : Hp) (s : St) : Wd := W.at_ (fun _ => none) (hdC W H s)
theorem hdC_live {W : Wd} {H : Hp} {s : St} {n : Nat} {a : Addr} (h : (fnd s.cs n).isSome = true) (hr : W.ρ n = some a) : hdC W H s a = H a := if_pos ⟨n, h, hr⟩
theorem SimS.hide {W : Wd} {H : Hp} {s : St} (S : SimS C W H s) : SimS C (W.hid H s) H ⟨s.nx, []⟩ := by
  refine ⟨S.sub, fun n o h => (by cases h), fun n m a h => (by cases h), fun n h => ⟨rfl, (S.new n h).2⟩, fun n c vs h => (by cases h), List.nodup_nil, fun a o h => ?_, fun a o h => ?_, S.tab⟩
  rotate_left
  · have h : hdC W H s a = some o := h
    unfold hdC at h
    split at h
    · rename_i q
      obtain ⟨n, q1, q2⟩ := q
      obtain ⟨o', ho⟩ := Option.isSome_iff_exists.mp q1
      obtain ⟨b, g1, g2, g3⟩ := S.cel n o' ho
      rw [q2] at g1; cases g1
      exact fun ps z => by rw [z] at h; exact g3.tbl h rfl
    · exact S.hdT a o h
  have h : hdC W H s a = some o := h
  unfold hdC at h
  split at h
  · rename_i q
    obtain ⟨n, q1, q2⟩ := q
    obtain ⟨o', ho⟩ := Option.isSome_iff_exists.mp q1
    obtain ⟨b, g1, g2, g3⟩ := S.cel n o' ho
    rw [q2] at g1; cases g1
    exact ⟨h, g2, fun m hm => (by cases hm)⟩
  · obtain ⟨g1, g2, _⟩ := S.hd a o h
    exact ⟨g1, g2, fun m hm => (by cases hm)⟩
theorem SimS.unhide {W W' : Wd} {H H' : Hp} {s s' : St} (S : SimS C W H s) (le : (W.hid H s).Le W') (S' : SimS C W' H' s') (nx : Nat) (h1 : s.nx ≤ nx) (h2 : s'.nx ≤ nx) : SimS C (W'.at_ W.lk W.hd) H' ⟨nx, s.cs⟩ := by
  have leW : W.Le (W'.at_ W.lk W.hd) := Wd.Le.unat le
  have live : ∀ n o, fnd s.cs n = some o → ∃ a, W.ρ n = some a ∧ W'.F a = none ∧ H' a = H a ∧ CellR C W H a o := fun n o ho => by
    obtain ⟨b, g1, g2, g3⟩ := S.cel n o ho
    obtain ⟨u, hu⟩ := g3.ob
    have : W'.hd b = some u := by rw [le.hd]; exact (hdC_live (by rw [ho]; rfl) g1).trans hu
    obtain ⟨q1, q2, _⟩ := S'.hd b u this
    exact ⟨b, g1, q2, q1.trans hu.symm, g3⟩
  refine ⟨S'.sub, fun n o h => ?_, fun n m a hn hm e1 e2 => ?_, fun n hn => ⟨(S.new n (Nat.le_trans h1 hn)).1, (S'.new n (Nat.le_trans h2 hn)).2⟩, fun n c vs h => ?_, S.nd, fun a o h => ?_, S.hdT, S'.tab⟩
  · obtain ⟨a, g1, g2, g3, g4⟩ := live n o h
    exact ⟨a, le.ρ _ _ g1, g2, (g4.same g3).mono leW⟩
  · obtain ⟨o1, ho1⟩ := Option.isSome_iff_exists.mp hn
    obtain ⟨o2, ho2⟩ := Option.isSome_iff_exists.mp hm
    obtain ⟨b, g2, _⟩ := live n o1 ho1
    obtain ⟨b', g2', _⟩ := live m o2 ho2
    have e1' := (le.ρ _ _ g2).symm.trans e1
    have e2' := (le.ρ _ _ g2').symm.trans e2
    cases e1'; cases e2'
    exact S.inj n m a hn hm g2 g2'
  · obtain ⟨k, l, a, g1, g2, g3⟩ := S.lock n c vs h
    obtain ⟨b, q1, _, q3, _⟩ := live n _ g1
    rw [g2] at q1; cases q1
    exact ⟨k, l, a, g1, le.ρ _ _ g2, q3.trans g3⟩
  · obtain ⟨g1, g2, g3⟩ := S.hd a o h
    have e : hdC W H s a = some o := by
      unfold hdC
      rw [if_neg (fun ⟨n, q1, q2⟩ => g3 n q1 q2)]; exact h
    obtain ⟨q1, q2, _⟩ := S'.hd a o (by rw [le.hd]; exact e)
    refine ⟨q1, q2, fun n hn e2 => ?_⟩
    obtain ⟨o1, ho1⟩ := Option.isSome_iff_exists.mp hn
    obtain ⟨b, g2', _⟩ := live n o1 ho1
    have e1' := (le.ρ _ _ g2').symm.trans e2
    cases e1'
    exact g3 n hn g2'
theorem keepE_len (ks : List Nat) : ∀ (e : Env) (i : Nat), (keepE ks i e).length = e.length
  | [], _ => rfl
  | a :: r, i => by show (keepE ks (i + 1) r).length + 1 = r.length + 1; rw [keepE_len ks r]
theorem keepE_get (ks : List Nat) {d : D} : ∀ (e : Env) (k i : Nat), getE (keepE ks k e) i = some d → getE e i = some d
  | [], _, _, h => h
  | a :: r, k, 0, h => by
    have h : cond (elemN k ks) a none = some d := h
    show a = some d
    cases z : elemN k ks with
    | true => rw [z] at h; exact h
    | false => rw [z] at h; cases h
  | a :: r, k, i + 1, h => keepE_get ks r (k + 1) i h
theorem SimE.keep {W : Wd} {σ : L2.St} {e : Env} (he : C.er = none) (SE : SimE C W σ e) (ks : List Nat) : SimE C W σ (keepE ks 0 e) :=
  ⟨by rw [keepE_len]; exact SE.len, fun i d h => SE.at_ i d (keepE_get ks e 0 i h), fun x q => by rw [he] at q; cases q⟩
theorem hidF_ok {Wx : WX} {W : Wd} {H : Hp} {s : St} {σ : L2.St} {r : Fl} {Dn : Ends} (S : SimS C W H s) (h : FlQ C W σ (hidF s r) Dn Wx) : FlQ C (W.hid H s) σ r Dn Wx := by
  have fin : ∀ {W' : Wd} {H' : Hp} {s' : St}, (W.hid H s).Le W' → SimS C W' H' s' → W.Le (W'.at_ W.lk W.hd) ∧ SimS C (W'.at_ W.lk W.hd) H' (hidS s s') := fun {W' H' s'} le S' => by
    refine ⟨Wd.Le.unat le, S.unhide le S' _ ?_ ?_⟩
    · cases e : Nat.ble s.nx s'.nx with
      | true => exact Nat.le_of_ble_eq_true e
      | false => exact Nat.le_refl _
    · cases e : Nat.ble s.nx s'.nx with
      | true => exact Nat.le_refl _
      | false =>
        have hz : ¬ s.nx ≤ s'.nx := fun z => by rw [Nat.ble_eq_true_of_le z] at e; cases e
        exact Nat.le_of_lt (Nat.lt_of_not_le hz)
  cases r with
  | nx e s' => exact fun W' H' σ' le S' SE' => h _ H' σ' (fin le S').1 (fin le S').2 SE'.att
  | rt d s' => exact fun W' H' v le S' r' => h _ H' v (fin le S').1 (fin le S').2 (RD.at_ r')
  | bk e s' => exact fun W' H' σ' le S' SE' => h _ H' σ' (fin le S').1 (fin le S').2 SE'.att
  | exc c p e s' =>
    intro W' H' σ' cls dx le S' SE' rx
    refine h _ H' σ' cls dx (fin le S').1 (fin le S').2 SE'.att ?_
    obtain ⟨a, h1, h2, h3⟩ := rx
    refine ⟨a, h1, h2, ?_⟩
    rcases h3 with h3 | ⟨pv, v, dx, e1, e2, e3, r⟩
    · exact .inl h3
    · exact .inr ⟨pv, v, dx, e1, e2, e3, RD.at_ r⟩
  | bad n => exact h.elim
theorem ok_hid {X : Cx} {Wx : WX} {st : Stmt} {f : ExT} (he : C.er = none) (ks : List Nat) (h : PS X st (tS C Wx f)) : PS X st (tS C Wx (xHid ks f)) :=
  ps_imp h fun Dn σ H ⟨W, e, s, S, SE, q⟩ => ⟨W.hid H s, keepE ks 0 e, ⟨s.nx, []⟩, S.hide, (SE.keep he ks).att, hidF_ok S q⟩
end
end Mv
end

section
set_option Elab.async false
set_option linter.all false
set_option maxRecDepth 100000
set_option maxHeartbeats 4000000
/-! TryA: several except clauses, each with or without a name. -/
namespace Mv
open PySem PySem.Spec PyProof.Rows L2
def hrun (o : Option Nat) (ts : Addr → Value → Option Addr → TS) (a : Addr) (cls : Value) (d : Option Addr) (Dn : Ends) (σ : L2.St) (H : Hp) : Prop := match o with
  | none => ts a cls d Dn σ H
  | some i => ts a cls d { nx := fun σ' H' => Dn.nx (List.set σ' i none) H', rt := Dn.rt, bk := fun σ' H' => Dn.bk (List.set σ' i none) H', ct := fun σ' H' => Dn.ct (List.set σ' i none) H' } (List.set σ i (some (V.ref a))) H
def wManyA (K : PySem.W.Frag) (Wout : WX) (Dn : Ends) : List (Value × Option Nat × (Addr → Value → Option Addr → TS)) → WX
  | [] => Wout
  | (c, o, ts) :: r => fun cls d σ H => ∃ b, PySem.W.exmOne K cls c = some b ∧ (b = true → ∀ a, H a = none → hrun o ts a cls d Dn σ H) ∧ (b = false → wManyA K Wout Dn r cls d σ H)
/-- a clause's name -/
inductive NmOk (X : Cx) : Option Str → Option Nat → Prop
  | none : NmOk X none none
  | some {n : Str} {i : Nat} (hi : X.N[i]? = some n) (hl : X.env.kindOf n = some NameKind.local) : NmOk X (some n) (some i)
inductive HdsA (X : Cx) : List ExceptHandler → List (Value × Option Nat × (Addr → Value → Option Addr → TS)) → Prop
  | nil : HdsA X [] []
  | cons {x : Str} {c : Value} {nm : Option Str} {o : Option Nat} {ts : Addr → Value → Option Addr → TS} {b₀ : Stmt} {suite : List Stmt} {np pos' : Pos} {hds : List ExceptHandler} {l : List (Value × Option Nat × (Addr → Value → Option Addr → TS))} (hc : Names X x c) (hn : NmOk X nm o)
      (hsu : ∀ (a : Addr) (oe : Obj) (cls : Value) (d : Option Addr) (pn : List (Addr × Obj)), Zc cls d oe → (∃ vs, oe.data = Data.fields vs) → PSs (X.suite a ((a, oe) :: pn)) (b₀ :: suite) (ts a cls d))
      (r : HdsA X hds l) : HdsA X (.ExceptHandler (some (.Name x np)) nm (b₀ :: suite) pos' :: hds) ((c, o, ts) :: l)
section
variable {X : Cx}
theorem handlesA {D : Ends} {pins : List (Addr × Obj)} {Wout : WX} {a : Addr} {B : Heap} {sI s' : Shared} {σ' : L2.St} {H' : Hp} {cls : Value} {d : Option Addr} {h3 : Heap}
    (hs : X.stack = X.env :: X.outer) (hf : X.env.frame = some X.env.locals) (hN : X.N.Nodup) (ok : X.Ok) (tk : Takes X Wout)
    (J : L2.Inv X pins σ' H' sI) (nb : ∀ b o, sI.heap.get? b = some o → ¬b ∈ frs X.stack → B.get? b = some o) (up : sI.heap.UpToSlots s'.heap) (os : s'.os = sI.os) (ag : AllBare s'.gens) (na : H' a = none)
    (fl3 : HandSPX.FlyingZ B (X.env :: X.outer) a (Zc cls d) h3) (up3 : s'.heap.UpToSlots h3) :
    ∀ {hds : List ExceptHandler} {l : List (Value × Option Nat × (Addr → Value → Option Addr → TS))}, HdsA X hds l → wManyA X.K Wout D l cls d σ' H' →
      wpAny (model X.prog X.w) X.A (handleBy (.ref a) X.env hds) (SP X pins D) X.xe ⟨h3, s'.gens, s'.drawn, s'.toks, s'.os⟩ := by
  have J3 : L2.Inv X pins σ' H' ⟨h3, s'.gens, s'.drawn, s'.toks, s'.os⟩ := Inv.landed J nb fl3.1 (up.trans up3) os ag
  obtain ⟨oe3, vs3, he3, hz3, hd3⟩ := HandSPX.FlyingZ.there fl3
  have notFr : ∀ {h : Heap} {o : Obj} {vs : Array Value}, h.FunFrames B (X.env :: X.outer) → h.get? a = some o → o.data = .fields vs → a ∉ frs (X.env :: X.outer) := fun {h o vs} ff e dd hm => by
    obtain ⟨_, o', e', hnf⟩ := Heap.FunFrames.mem ff hm
    rw [e] at e'
    cases e'
    exact hnf vs dd
  have nfr := notFr fl3.2.2.1 he3 hd3
  have nL : a ≠ X.env.locals := fun z => nfr (List.mem_filterMap.mpr ⟨X.env, List.mem_cons_self, by rw [hf, z]⟩)
  have nF : a ∉ X.fs := fun hm => by
    obtain ⟨e, he, q⟩ := List.mem_filterMap.mp hm
    exact nfr (List.mem_filterMap.mpr ⟨e, List.mem_cons_of_mem _ he, q⟩)
  have S3 := Inv.suite J3 he3 hd3 na nL nF
  intro hds l hk
  induction hk with
  | nil =>
    intro w
    refine wpAny_handleBy_nil ?_
    obtain ⟨k1, k2, k3, oe, vs, T, oT, ts', he, hz, hd, h1, hr⟩ := id fl3
    refine wpAny_bind (wpAny_field he hd h1 ?_)
    rw [if_neg (by simp)]
    refine wpAny_bind ?_
    rw [hf]
    exact HandSPX.setFlight_upZ fl3 fun h4 hh4 up4 => wpAny_throw (tk (.ref a) _ ⟨a, B, sI, pins, σ', H', cls, d, rfl, J, nb, (up.trans up3).trans up4, .inr (.inr (by rw [hs]; exact hh4)), na, os, ag, w⟩)
  | @cons x c nm o ts b₀ suite np pos' hds2 l2 hc hn hsu r ih =>
    intro w
    obtain ⟨b, hb1, hyes, hno⟩ := w
    refine wpAny_handleBy_cons (codeAny_handlers_test ?_) (fun q => by cases q)
    have LM := PySem.W.exm_one (M := model X.prog X.w) (Inv.kIn J3) (fun A Q E s k q => wpAny_typeOf_ref (k a oe3 he3) (by rw [hz3.1]; exact q)) hb1
    have test : ∀ {Q : Value → Shared → Prop} {E : Value → Shared → Prop}, Q c ⟨h3, s'.gens, s'.drawn, s'.toks, s'.os⟩ → wpAny (model X.prog X.w) (X.A.mark (some (.ref a))) (eval (.Name x np) X.env) Q E ⟨h3, s'.gens, s'.drawn, s'.toks, s'.os⟩ := fun {Q E} q => by
      obtain ⟨hg, hdbg, hm⟩ := hc
      rcases hm with hm | ⟨hm, hv, hnn⟩
      · exact ld_glob S3 hg hm q hdbg
      · exact ld_blt S3 hg hm hv q hnn hdbg
    refine test (PySem.W.Looks.here LM ?_)
    cases b with
    | false => exact ih (hno rfl)
    | true =>
      cases hn with
      | none =>
        refine codeAny_handlers_suite (HandSPX.lands_againZ fl3 fun h4 fl4 up4 => ?_)
        have J4 : L2.Inv X pins σ' H' ⟨h4, s'.gens, s'.drawn, s'.toks, s'.os⟩ := Inv.landed J nb fl4.1 ((up.trans up3).trans up4) os ag
        obtain ⟨oe4, vs4, he4, hz4, hd4⟩ := HandSPX.FlyingZ.there fl4
        have S4 := Inv.suite J4 he4 hd4 na nL nF
        refine wpAny_mono ((hsu a oe4 cls d (X.pn ++ pins) hz4 ⟨vs4, hd4⟩).run [] _ σ' H' D S4 (hyes rfl a na)) (fun f s6 hsp => ?_) fun x s z => z.elim
        cases f with
        | next => obtain ⟨σ6, H6, S6, q6⟩ := hsp; exact ⟨σ6, H6, Inv.unsuite S6 ok, q6⟩
        | brk => obtain ⟨σ6, H6, S6, q6⟩ := hsp; exact ⟨σ6, H6, Inv.unsuite S6 ok, q6⟩
        | cont => obtain ⟨σ6, H6, S6, q6⟩ := hsp; exact ⟨σ6, H6, Inv.unsuite S6 ok, q6⟩
        | ret u => obtain ⟨v6, σ6, H6, S6, r6, q6⟩ := hsp; exact ⟨v6, σ6, H6, Inv.unsuite S6 ok, r6, q6⟩
      | @some n i hi hl =>
        refine codeAny_handlers_suite_as (HandSPX.lands_againZ fl3 fun h4 fl4 up4 => ?_)
        have J4 : L2.Inv X pins σ' H' ⟨h4, s'.gens, s'.drawn, s'.toks, s'.os⟩ := Inv.landed J nb fl4.1 ((up.trans up3).trans up4) os ag
        obtain ⟨oe4, vs4, he4, hz4, hd4⟩ := HandSPX.FlyingZ.there fl4
        have S4 := Inv.suite J4 he4 hd4 na nL nF
        refine store_ok (X := X.suite a ((a, oe4) :: (X.pn ++ pins))) (v := .ref a) S4 hN hi (.inl hl) rfl (fun s5 S5 => ?_) (.inr hl)
        refine wpAny_mono ((hsu a oe4 cls d (X.pn ++ pins) hz4 ⟨vs4, hd4⟩).run [] s5 _ H' _ S5 (hyes rfl a na)) (fun f s6 hsp => ?_) fun x s z => z.elim
        cases f with
        | next => obtain ⟨σ6, H6, S6, q6⟩ := hsp; exact gone_ok (Inv.unsuite S6 ok) hN hi hl fun s7 J7 => ⟨_, H6, J7, q6⟩
        | brk => obtain ⟨σ6, H6, S6, q6⟩ := hsp; exact gone_ok (Inv.unsuite S6 ok) hN hi hl fun s7 J7 => ⟨_, H6, J7, q6⟩
        | cont => obtain ⟨σ6, H6, S6, q6⟩ := hsp; exact gone_ok (Inv.unsuite S6 ok) hN hi hl fun s7 J7 => ⟨_, H6, J7, q6⟩
        | ret u => obtain ⟨v6, σ6, H6, S6, r6, q6⟩ := hsp; exact gone_ok (Inv.unsuite S6 ok) hN hi hl fun s7 J7 => ⟨v6, _, H6, J7, r6, q6⟩
theorem ps_tryA {body : List Stmt} {h₀ : ExceptHandler} {hds : List ExceptHandler} {l : List (Value × Option Nat × (Addr → Value → Option Addr → TS))} {pos : Pos} {tb : WX → TS} {Wout : WX} (hs : X.stack = X.env :: X.outer) (hf : X.env.frame = some X.env.locals) (hN : X.N.Nodup) (tk : Takes X Wout)
    (hb : ∀ (W : WX) (pn : List (Addr × Obj)) (xe : Value → Shared → Prop), Takes (X.tr pn xe) W → PassesOwn (model X.prog X.w) X.A X.env xe → PSs (X.tr pn xe) body (tb W)) (hh : HdsA X (h₀ :: hds) l) :
    PS X (.Try body (h₀ :: hds) [] [] pos) fun D σ H => tb (wManyA X.K Wout D l) D σ H := by
  refine ⟨fun pins s σ H D I h => ?_⟩
  have ok := I.ok
  have hfr : X.A.frames = some (X.env :: X.outer) := by rw [ok.frames, hs]
  refine wpAny_Try_except (wpAny_mono ((hb (wManyA X.K Wout D l) (X.pn ++ pins) (fun e s₁ => wpAny (model X.prog X.w) X.A (noteFrame e X.env) (fun _ s₂ => wpAny (model X.prog X.w) X.A (setFlight e none) (fun _ s₃ => wpAny (model X.prog X.w) X.A (handleBy e X.env (h₀ :: hds)) (SP X pins D) X.xe s₃) X.xe s₂) X.xe s₁) (fun u s' xx => ?_) PassesOwn.looking).run [] s σ H D (Inv.toTry I _) h) (fun f s1 hsp => ?_) fun e s1 he => he)
  · obtain ⟨a, B, sI, pins', σ', H', cls, d, e, J', nb, up, sky, na, os, ag, w⟩ := xx
    subst e
    have J := Inv.ofTry J' ok
    have sky' : Sky B (X.env :: X.outer) a (Zc cls d) X.env.locals s'.heap := by rw [← hs]; exact sky
    exact Sky.land Zc.steady hfr hf sky' fun h3 fl3 up3 => handlesA hs hf hN ok tk J nb up os ag na fl3 up3 hh w
  · cases f with
    | next => obtain ⟨σ', H', J', q⟩ := hsp; exact wpAny_execs_nil ⟨σ', H', Inv.ofTry J' ok, q⟩
    | brk => obtain ⟨σ', H', J', q⟩ := hsp; exact ⟨σ', H', Inv.ofTry J' ok, q⟩
    | cont => obtain ⟨σ', H', J', q⟩ := hsp; exact ⟨σ', H', Inv.ofTry J' ok, q⟩
    | ret u => obtain ⟨v, σ', H', J', r, q⟩ := hsp; exact ⟨v, σ', H', Inv.ofTry J' ok, r, q⟩
end
end Mv
end

section
set_option Elab.async false
set_option linter.all false
set_option maxRecDepth 100000
set_option maxHeartbeats 4000000
/-! Binds: arguments by place and by name. -/
namespace Mv
open PySem PySem.Spec PyProof.Rows L2
def plainA (as : List Arg) : Arguments := { posonlyargs := [], args := as, vararg := none, kwonlyargs := [], kw_defaults := [], kwarg := none, defaults := [] }
theorem look_app (n : Str) : ∀ (l m : List (Str × Value)), List.lookup n (l ++ m) = (List.lookup n l).or (List.lookup n m)
  | [], m => by simp
  | p :: l, m => by
    rw [List.cons_append, List.lookup_cons, List.lookup_cons]
    cases n == p.1 with
    | true => simp
    | false => exact look_app n l m
/-- names told one by one -/
def Told (ps : List Str) : List (Str × Value) → List (Str × Value) → Prop
  | [], _ => True
  | q :: r, sl => ps.contains q.1 = true ∧ List.lookup q.1 sl = none ∧ Told ps r (sl ++ [q])
theorem forIn_app {ps : List Str} {f : Str × Value → List (Str × Value) × List (Str × Value) → Sem (ForInStep (List (Str × Value) × List (Str × Value)))}
    (h : ∀ (q : Str × Value) sl, ps.contains q.1 = true → List.lookup q.1 sl = none → f q (sl, []) = pure (.yield (sl ++ [q], []))) : ∀ (l sl : List (Str × Value)), Told ps l sl → forIn l (sl, []) f = pure (sl ++ l, [])
  | [], sl, _ => by rw [List.forIn_nil, List.append_nil]
  | q :: r, sl, ⟨h1, h2, h3⟩ => by
    rw [List.forIn_cons, h q sl h1 h2]
    simp only [pure_bind]
    rw [forIn_app h r _ h3, List.append_assoc]; rfl
/-- the values in the order of the parameters -/
def gN (ps : List Str) (sl : List (Str × Value)) : List Value := ps.filterMap fun n => List.lookup n sl
theorem gN_zip {sl : List (Str × Value)} : ∀ {ps : List Str}, (∀ n ∈ ps, (List.lookup n sl).isSome = true) → List.filterMap (fun n => Option.map (fun x => (n, x)) (List.lookup n sl)) ps = ps.zip (gN ps sl)
  | [], _ => rfl
  | p :: ps, h => by
    obtain ⟨v, hv⟩ := Option.isSome_iff_exists.mp (h p (by simp))
    unfold gN
    rw [List.filterMap_cons, List.filterMap_cons, hv]
    simp only [Option.map_some, List.zip_cons_cons]
    exact congrArg _ (gN_zip fun n hn => h n (by simp [hn]))
theorem binds_gen (name qual : Str) (as : List Arg) (body : List Stmt) (scope : Scope) (kV doc pm cdv ct : Value) (an : Option Addr) (us : List Value) (kw : List (Str × Value)) (hu : us.length ≤ as.length) (hk : Told (as.map (·.arg)) kw ((as.map (·.arg)).zip us))
    (hall : ∀ n ∈ as.map (·.arg), (List.lookup n ((as.map (·.arg)).zip us ++ kw)).isSome = true) :
    bindArgs (PySem.W.fnOf name qual (plainA as) body scope .none kV doc pm an cdv ct) { pos := us, kw := kw } = pure ((as.map (·.arg)).zip (gN (as.map (·.arg)) ((as.map (·.arg)).zip us ++ kw))) := by
  have hmiss : List.filter (fun n => (List.lookup n ((as.map (·.arg)).zip us ++ kw)).isNone) (as.map (·.arg)) = [] := by
    apply List.filter_eq_nil_iff.mpr
    intro n hn'
    have := hall n hn'
    simpa using Option.isSome_iff_ne_none.mp this
  have hs : seqItems? Value.none = pure none := rfl
  have e1 : ¬ us.length > as.length := by omega
  have hz := gN_zip hall
  generalize hsl : (as.map (·.arg)).zip us ++ kw = sl at *
  unfold bindArgs
  simp only [PySem.W.fnOf, plainA, List.map_nil, List.nil_append, List.append_nil, hs]
  rw [forIn_app (ps := as.map (·.arg)) (fun q sl h1 h2 => by
    simp only [h1, h2, Bool.true_or, if_true, Option.isSome_none]
    rfl) kw _ hk]
  simp only [pure_bind, Option.getD_none, List.drop_nil, List.length_nil, Nat.sub_zero, List.length_map, hsl]
  rw [if_neg (by simp [e1])]
  have ht : List.take as.length (as.map (·.arg)) = as.map (·.arg) := by rw [← List.length_map (f := fun x : Arg => x.arg)]; exact List.take_length
  have hd : List.drop as.length (as.map (·.arg)) = [] := by rw [← List.length_map (f := fun x : Arg => x.arg)]; exact List.drop_length
  rw [ht, hmiss, hd]
  rw [if_neg (by simp)]
  simp only [List.zip_nil_left, List.forIn_nil, pure_bind]
  rw [if_neg (by simp)]
  rw [hz]
end Mv
end

section
set_option Elab.async false
set_option linter.all false
set_option maxRecDepth 100000
set_option maxHeartbeats 4000000
/-! Call: calls of defs by place, by name, of values. -/
namespace Mv
open PySem PySem.Spec PyProof.Rows L2
theorem run_fnG {X : Cx} {CX : CXT} {k : Nat} {f : Addr} {fd : FuncData} {ps : List Str} {sp : Sp} {E : XK} {pins : List (Addr × Obj)} {σ : L2.St} {H : Hp} {s : Shared} {Q : VK} {us as : List Value} {kw : List (Str × Value)} {vs : List V}
    (F : FnOk X.prog X.w X.K X.mg X.base CX k f fd ps sp) (hr : Room k X.A) (hx : PassesAt CX X σ E) (I : L2.Inv X pins σ H s) (b : BindsTo s fd { pos := us, kw := kw } (ps.zip as)) (r : Vals vs as) (h : sp vs H Q E) :
    wpAny (model X.prog X.w) X.A (call (Value.ref f) us kw) (EP X pins σ Q) X.xe s := by
  refine wpAny_call (codeAny_mono (F.run X.A X.stack s H _ as vs Q E hr (Inv.env0 I) b r h) fun r s' hq => ?_)
  cases r with
  | error e => exact hx pins H s e s' I hq
  | ok fl =>
    cases fl with
    | ret u => exact Inv.after I hq
    | next => exact hq.elim
    | brk => exact hq.elim
    | cont => exact hq.elim
/-- arguments without a star -/
theorem evalArgs_g {M : Model} {A : Around} {E : Value → Shared → Prop} {s : Shared} {env : PySem.Env} {pos : Pos} {f : Value} {es : List Expr} {kws : List Keyword} {Q : Args → Shared → Prop} (hn : es.all nst = true) (hall : ((backToKw pos (keywordEach kws env)).all fun x => x.fst.isSome) = true)
    (h : wpAny M A (spliced (backTo pos (starEach es env))) (fun vs s₁ => wpAny M A (evalAll (List.map (fun x => x.snd) (backToKw pos (keywordEach kws env)))) (fun ks s₂ => Q { pos := vs, kw := (List.filterMap (fun x => x.fst) (backToKw pos (keywordEach kws env))).zip ks } s₂) E s₁) E s) :
    wpAny M A (evalArgs f true (backTo pos (starEach es env)) (backToKw pos (keywordEach kws env))) Q E s := by
  cases es with
  | cons e es =>
    have hn := (Bool.and_eq_true _ _).mp (show (nst e && es.all nst) = true from hn)
    exact evalArgs_kw2 hall h (star_cons hn.1 env)
  | nil =>
    unfold evalArgs
    dsimp only [starEach, backTo, List.map]
    refine wpAny_bind (wpAny_mono h (fun vs s1 h1 => ?_) fun _ _ z => z)
    refine wpAny_bind (wpAny_pure ?_)
    refine wpAny_holding ?_
    rw [if_pos hall]
    refine wpAny_bind (wpAny_mono h1 (fun ks s2 h2 => ?_) fun _ _ z => z)
    exact wpAny_bind (wpAny_pure (wpAny_pure h2))
/-- how a def takes its arguments -/
def PBinds (fd : FuncData) (ps : List Str) : Prop := ps.Nodup ∧ ∀ (s : Shared) (us : List Value) (kw : List (Str × Value)), us.length ≤ ps.length → Told ps kw (ps.zip us) → (∀ n ∈ ps, (List.lookup n (ps.zip us ++ kw)).isSome = true) → BindsTo s fd { pos := us, kw := kw } (ps.zip (gN ps (ps.zip us ++ kw)))
theorem look_zip {β : Type} : ∀ {nm : List Str} {vals : List β} {i : Nat} {x : Str}, nm.Nodup → nm[i]? = some x → List.lookup x (nm.zip vals) = vals[i]?
  | [], _, _, _, _, h => by simp at h
  | a :: nm, [], i, x, _, _ => by simp
  | a :: nm, v :: vals, 0, x, hn, h => by
    simp at h; subst h
    rw [List.zip_cons_cons, List.lookup_cons]; simp
  | a :: nm, v :: vals, i + 1, x, hn, h => by
    rw [List.nodup_cons] at hn
    have h : nm[i]? = some x := by simpa using h
    have hne : x ≠ a := fun e => hn.1 (by rw [← e]; exact List.mem_of_getElem? h)
    rw [List.zip_cons_cons, List.lookup_cons, show (x == a) = false by simpa using hne, List.getElem?_cons_succ]
    exact look_zip hn.2 h
theorem gN_pick {nm : List Str} {vals : List Value} (hn : nm.Nodup) : ∀ {ps : List Str} {p : List Nat}, p.map (fun i => nm[i]?) = ps.map some → gN ps (nm.zip vals) = p.filterMap fun i => vals[i]?
  | [], [], _ => rfl
  | [], _ :: _, h => by simp at h
  | _ :: _, [], h => by simp at h
  | x :: ps, i :: p, h => by
    simp only [List.map_cons, List.cons.injEq] at h
    unfold gN
    rw [List.filterMap_cons, List.filterMap_cons, look_zip hn h.1]
    have ih := gN_pick (vals := vals) hn h.2
    unfold gN at ih
    rw [ih]
theorem pick_eq (vs : List D) : ∀ p : List Nat, pick vs p = p.filterMap fun i => vs[i]?
  | [] => rfl
  | i :: p => by
    unfold pick
    rw [nth_eq, List.filterMap_cons, pick_eq vs p]
    cases vs[i]? <;> rfl
theorem RDs.pick {C : Cn} {W : Wd} {ds : List D} {vs : List V} (r : RDs C W ds vs) : ∀ p : List Nat, RDs C W (p.filterMap fun i => ds[i]?) (p.filterMap fun i => vs[i]?)
  | [] => .nil
  | i :: p => by
    rw [List.filterMap_cons, List.filterMap_cons]
    cases h : ds[i]? with
    | none =>
      have : vs[i]? = none := by rw [List.getElem?_eq_none_iff] at h ⊢; rw [← r.length]; exact h
      rw [this]; exact RDs.pick r p
    | some d =>
      obtain ⟨v, h1, h2⟩ := r.get h
      rw [h1]; exact .cons h2 (RDs.pick r p)
theorem vals_get {vs : List V} {us : List Value} (r : Vals vs us) : ∀ i : Nat, (∃ v u, vs[i]? = some v ∧ us[i]? = some u ∧ L2.RelV v u) ∨ (vs[i]? = none ∧ us[i]? = none) := by
  induction r with
  | nil => intro i; exact .inr ⟨by simp, by simp⟩
  | cons h _ ih =>
    intro i
    cases i with
    | zero => exact .inl ⟨_, _, by simp, by simp, h⟩
    | succ i => simpa using ih i
theorem vals_pick {vs : List V} {us : List Value} (r : Vals vs us) : ∀ p : List Nat, Vals (p.filterMap fun i => vs[i]?) (p.filterMap fun i => us[i]?)
  | [] => .nil
  | i :: p => by
    rw [List.filterMap_cons, List.filterMap_cons]
    rcases vals_get r i with ⟨v, u, h1, h2, h3⟩ | ⟨h1, h2⟩
    · rw [h1, h2]; exact .cons h3 (vals_pick r p)
    · rw [h1, h2]; exact vals_pick r p
theorem vals_app {vs ws : List V} {us xs : List Value} (r : Vals vs us) (q : Vals ws xs) : Vals (vs ++ ws) (us ++ xs) := by
  induction r with
  | nil => exact q
  | cons h _ ih => exact .cons h ih
/-- the names told beside those told by place -/
def toldB (ps : List Str) : List Str → List Str → Bool
  | [], _ => true
  | k :: r, sl => ps.contains k && !sl.contains k && toldB ps r (sl ++ [k])
theorem look_none {x : Str} : ∀ {l : List (Str × Value)}, (l.map (·.1)).contains x = false → List.lookup x l = none
  | [], _ => rfl
  | p :: l, h => by
    simp only [List.map_cons, List.contains_cons, Bool.or_eq_false_iff] at h
    rw [List.lookup_cons, h.1]
    exact look_none h.2
theorem told_ok {ps : List Str} : ∀ {ks : List Str} {ws : List Value} {sl : List (Str × Value)}, toldB ps ks (sl.map (·.1)) = true → ks.length = ws.length → Told ps (ks.zip ws) sl
  | [], _, _, _, _ => by simp [Told]
  | _ :: _, [], _, _, h => by simp at h
  | k :: ks, w :: ws, sl, h, hl => by
    unfold toldB at h
    simp only [Bool.and_eq_true, Bool.not_eq_true'] at h
    refine ⟨h.1.1, look_none h.1.2, told_ok (ks := ks) (ws := ws) ?_ (by simpa using hl)⟩
    rw [List.map_append]; exact h.2
theorem zip_take {β : Type} (ps : List Str) (us : List β) : ps.zip us = (ps.take us.length).zip us := by
  induction us generalizing ps with
  | nil => simp
  | cons u us ih =>
    cases ps with
    | nil => simp
    | cons p ps => simp only [List.length_cons, List.take_succ_cons, List.zip_cons_cons, ih ps]
/-- who is called by which names with how many by place: the check -/
def kwB (ps ks : List Str) (n : Nat) (p : List Nat) : Bool := decide (n ≤ ps.length) && toldB ps ks (ps.take n) && decide ((ps.take n ++ ks).Nodup) && decide (p.map (fun i => (ps.take n ++ ks)[i]?) = ps.map some)
theorem kwB_ok {fd : FuncData} {ps ks : List Str} {n : Nat} {p : List Nat} (hB : PBinds fd ps) (h : kwB ps ks n p = true) {s : Shared} {us ws : List Value} (hu : us.length = n) (hw : ks.length = ws.length) :
    BindsTo s fd { pos := us, kw := ks.zip ws } (ps.zip (p.filterMap fun i => (us ++ ws)[i]?)) := by
  unfold kwB at h
  simp only [Bool.and_eq_true, decide_eq_true_eq] at h
  obtain ⟨⟨⟨h1, h2⟩, h3⟩, h4⟩ := h
  have hz : ps.zip us ++ ks.zip ws = (ps.take n ++ ks).zip (us ++ ws) := by
    rw [zip_take, hu]
    exact (List.zip_append (by rw [List.length_take, hu]; omega)).symm
  have hg := gN_pick (vals := us ++ ws) h3 h4
  have hsome : ∀ x ∈ ps, (List.lookup x ((ps.take n ++ ks).zip (us ++ ws))).isSome = true := fun x hx => by
    obtain ⟨j, hj, ej⟩ := List.getElem_of_mem hx
    have hp : p.length = ps.length := by have := congrArg List.length h4; simpa using this
    have e : (ps.take n ++ ks)[p[j]'(by omega)]? = some x := by
      have := congrArg (fun l => l[j]?) h4
      simp only [List.getElem?_map] at this
      rw [List.getElem?_eq_getElem (by omega), List.getElem?_eq_getElem hj] at this
      simp only [Option.map_some, Option.some.injEq] at this
      rw [this, ej]
    rw [look_zip h3 e]
    have hlt := (List.getElem?_eq_some_iff.mp e).1
    rw [List.length_append, List.length_take] at hlt
    rw [List.getElem?_eq_getElem (by rw [List.length_append]; omega)]; rfl
  have := hB.2 s us (ks.zip ws) (by omega) (told_ok (by rw [zip_take, hu]; rw [List.map_fst_zip (by rw [List.length_take]; omega)]; exact h2) hw) (by rw [hz]; exact hsome)
  rw [hz, hg] at this
  exact this
/-- arguments by place, then by name -/
noncomputable def esApp (a b : EsT) : EsT := fun e s => (a e s).bns fun ds s => (b e s).bns fun es s => .ok (ds ++ es) s
section
variable {X : Cx} {C : Cn} {Wx : WX}
theorem tA_app {a b : EsT} {σ : L2.St} {H : Hp} {Q : List V → Hp → Prop} (h : tA C Wx (esApp a b) σ H Q) : tA C Wx a σ H fun vs H1 => tA C Wx b σ H1 fun ws H2 => Q (vs ++ ws) H2 := by
  obtain ⟨W, e, s, S, SE, q⟩ := h
  refine ⟨W, e, s, S, SE, RsQ.imp (RsQ.bns q) fun vs H1 ⟨W1, ds, s1, le, S1, r, q1⟩ => ⟨W1, e, s1, S1, SE.mono le, ?_⟩⟩
  have q1 := RsQ.bns q1
  cases z : b e s1 with
  | ok ds2 s2 =>
    rw [z] at q1
    intro W' H' ws le' S' rs
    obtain ⟨W2, ds3, s3, le2, S3, r3, q3⟩ := q1 W' H' ws le' S' rs
    exact q3 W2 H' (vs ++ ws) (.refl _) S3 ((r.mono le2).append r3)
  | exc c p s2 => rw [z] at q1; exact q1
  | bad n => rw [z] at q1; exact q1
theorem pk_imp {kws : List Keyword} {t t' : TA} (h : PK X kws t) (hi : ∀ σ H Q, t' σ H Q → t σ H Q) : PK X kws t' := ⟨fun pos pins s σ H Q I q => h.run pos pins s σ H Q I (hi _ _ _ q)⟩
theorem ok_knil : PK X [] (tA C Wx esN) := pk_imp pk_nil fun σ H Q ⟨W, e, s, S, SE, q⟩ => q W H [] (.refl W) S .nil
theorem ok_kcons {nm : Option Str} {e : Expr} {kp : Pos} {kws : List Keyword} {a : EvT} {r : EsT} (ha : PE X e (tE C Wx a)) (hr : PK X kws (tA C Wx r)) : PK X (⟨nm, e, kp⟩ :: kws) (tA C Wx (esC a r)) := by
  refine pk_imp (pk_cons ha hr) fun σ H Q ⟨W, en, s, S, SE, q⟩ => ?_
  refine ⟨W, en, s, S, SE, RvQ.imp (RvQ.bns q) (fun v H1 ⟨W1, d, s1, le, S1, rd, q1⟩ => ?_) fun _ _ _ z => z⟩
  have q1 := RsQ.bns q1
  refine ⟨W1, en, s1, S1, SE.mono le, ?_⟩
  cases z : r en s1 with
  | ok ds s2 =>
    rw [z] at q1
    intro W' H' vs le' S' rs
    obtain ⟨W2, ds2, s3, le2, S3, r3, q3⟩ := q1 W' H' vs le' S' rs
    exact q3 W2 H' (v :: vs) (.refl _) S3 (.cons (rd.mono le2) r3)
  | exc c p s2 => rw [z] at q1; exact q1
  | bad n => rw [z] at q1; exact q1
theorem kw_names : ∀ (kws : List Keyword) (pos : Pos) (env : PySem.Env), (backToKw pos (keywordEach kws env)).map (fun x => x.fst) = kws.map (fun k => k.arg)
  | [], _, _ => rfl
  | ⟨nm, e, p⟩ :: kws, pos, env => by
    have := kw_names kws pos env
    simp only [keywordEach, backToKw, List.map_cons] at this ⊢
    rw [this]
theorem vals_len {vs : List V} {us : List Value} (r : Vals vs us) : vs.length = us.length := by
  induction r with
  | nil => rfl
  | cons _ _ ih => simp [ih]
/-- as many values as terms -/
theorem rsL {W : Wd} : ∀ {es : List EvT} {e : Env} {s : St} {Q : List V → Hp → Prop} {E : XK}, RsQ C W ((es.foldr esC esN) e s) Q E → RsQ C W ((es.foldr esC esN) e s) (fun vs H => vs.length = es.length ∧ Q vs H) E := by
  intro es
  have key : ∀ (es : List EvT) (e : Env) (s : St), (∀ ds s', (es.foldr esC esN) e s = .ok ds s' → ds.length = es.length) := by
    intro es
    induction es with
    | nil => intro e s ds s' h; cases h; rfl
    | cons a es ih =>
      intro e s ds s' h
      have h : ((a e s).bns fun d s => ((es.foldr esC esN) e s).bns fun ds s => .ok (d :: ds) s) = .ok ds s' := h
      cases z : a e s with
      | ok d s1 =>
        rw [z] at h
        have h : (((es.foldr esC esN) e s1).bns fun ds s => .ok (d :: ds) s) = .ok ds s' := h
        cases z2 : (es.foldr esC esN) e s1 with
        | ok ds2 s2 =>
          rw [z2] at h
          have hl := ih e s1 ds2 s2 z2
          cases h
          simp [hl]
        | exc c p s2 => rw [z2] at h; cases h
        | bad n => rw [z2] at h; cases h
      | exc c p s1 => rw [z] at h; cases h
      | bad n => rw [z] at h; cases h
  intro e s Q E h
  cases z : (es.foldr esC esN) e s with
  | ok ds s1 => rw [z] at h; exact fun W' H' vs le S r => ⟨by rw [← r.length]; exact key es e s ds s1 z, h W' H' vs le S r⟩
  | exc c p s1 => rw [z] at h; exact h
  | bad n => rw [z] at h; exact h
theorem ok_callK {cl : Cl} {f : Nat} {k : Nat} {fa : Addr} {fd : FuncData} {ps ks : List Str} {p : List Nat} {x : Str} {xp pos : Pos} {xs : List Expr} {kws : List Keyword} {as bs : List EvT} (F : FnOk X.prog X.w X.K X.mg X.base (CX X.prog X.w) k fa fd ps (spF C cl f)) (hr : Room k X.A) (hg : Gl X x) (hm : X.mg x = some (.ref fa))
    (hk : PySem.W.keepIn X.K (.ref fa) = true) (hB : PBinds fd ps) (tk : Takes X Wx) (hn : xs.all nst = true) (hl : as.length = xs.length) (hl2 : bs.length = kws.length) (ha : PA X xs (tA C Wx (as.foldr esC esN))) (hkw : PK X kws (tA C Wx (bs.foldr esC esN)))
    (hks : kws.map (fun k => k.arg) = ks.map some) (hb : kwB ps ks xs.length p = true) (hdb : (x == Str.ofString "__debug__") = false) :
    PE X (.Call (.Name x xp) xs kws pos) (tE C Wx (eCallK cl f p (esApp (as.foldr esC esN) (bs.foldr esC esN)))) := by
  refine ⟨fun pins s σ H Q I h => ?_⟩
  have hnm := kw_names kws pos X.env
  rw [hks] at hnm
  have hall : ((backToKw pos (keywordEach kws X.env)).all fun x => x.fst.isSome) = true := by
    have : (backToKw pos (keywordEach kws X.env)).all (fun x => x.fst.isSome) = ((backToKw pos (keywordEach kws X.env)).map (fun x => x.fst)).all Option.isSome := by rw [List.all_map]; rfl
    rw [this, hnm]; simp
  have hany : ((backToKw pos (keywordEach kws X.env)).any fun x => x.fst.isNone) = false := by
    have : (backToKw pos (keywordEach kws X.env)).any (fun x => x.fst.isNone) = ((backToKw pos (keywordEach kws X.env)).map (fun x => x.fst)).any Option.isNone := by rw [List.any_map]; rfl
    rw [this, hnm]; simp
  have hfil : List.filterMap (fun x => x.fst) (backToKw pos (keywordEach kws X.env)) = ks := by
    have : List.filterMap (fun x => x.fst) (backToKw pos (keywordEach kws X.env)) = ((backToKw pos (keywordEach kws X.env)).map (fun x => x.fst)).filterMap id := by rw [List.filterMap_map]; rfl
    rw [this, hnm]; simp
  have h := tA_app (tA_one (k := fun ds s => cl f (pick ds p) s) h)
  refine wpAny_Call_Name_kw (ld_glob I hg hm ?_ hdb)
  refine PySem.W.callWith_of (by rw [star_any _ _ hn, hany]; rfl) (PySem.W.keeps_K hk) (evalArgs_g hn hall ?_)
  have h1 : tA C Wx (as.foldr esC esN) σ H fun vs H1 => vs.length = as.length ∧ tA C Wx (bs.foldr esC esN) σ H1 fun ws H2 => ws.length = bs.length ∧ ∃ W ds s, SimS C W H2 s ∧ RDs C W ds (vs ++ ws) ∧ RvQ C W (cl f (pick ds p) s) Q (fun cls d H' => Wx cls d σ H') := by
    obtain ⟨W, e, s, S, SE, q⟩ := h
    refine ⟨W, e, s, S, SE, RsQ.imp (rsL q) fun vs H1 ⟨e1, W1, en1, s1, S1, SE1, q1⟩ => ⟨e1, W1, en1, s1, S1, SE1, rsL q1⟩⟩
  refine thn (ha.run pos pins s σ H _ I h1) fun us s1 hh => ?_
  obtain ⟨vs, H1, I1, r1, e1, q1⟩ := hh
  refine thn (hkw.run pos pins s1 σ H1 _ I1 q1) fun ws s2 hh2 => ?_
  obtain ⟨zs, H2, I2, r2, e2, W, ds, s', S, rd, q2⟩ := hh2
  refine ⟨Inv.kIn I2, ?_⟩
  show wpAny _ _ (call (Value.ref fa) ([] ++ us) ((List.filterMap (fun x => x.fst) (backToKw pos (keywordEach kws X.env))).zip ws)) _ _ _
  rw [hfil]
  have hvu := vals_len r1
  have hvz := vals_len r2
  have hkl : ks.length = ws.length := by
    have := congrArg List.length hks
    simp only [List.length_map] at this
    omega
  refine run_fnG F hr (pass_of tk σ) I2 (kwB_ok hB hb (s := s2) (us := us) (ws := ws) (by omega) hkl) (vals_pick (vals_app r1 r2) p) ?_
  refine ⟨W, pick ds p, s', S, ?_, q2⟩
  rw [pick_eq]
  exact rd.pick p
theorem fm_range {α : Type} : ∀ (l pre : List α) (k : Nat), pre.length = k → (List.range' k l.length).filterMap (fun i => (pre ++ l)[i]?) = l
  | [], _, _, _ => rfl
  | a :: l, pre, k, h => by
    rw [List.length_cons, List.range'_succ, List.filterMap_cons]
    have e : (pre ++ a :: l)[k]? = some a := by rw [List.getElem?_append_right (by omega), h, Nat.sub_self]; rfl
    rw [e]
    have := fm_range l (pre ++ [a]) (k + 1) (by simp [h])
    rw [List.append_assoc] at this
    exact congrArg _ this
theorem PBinds.pos {fd : FuncData} {ps : List Str} (hB : PBinds fd ps) {s : Shared} {us : List Value} (hul : us.length = ps.length) : BindsTo s fd { pos := us } (ps.zip us) := by
  have hself : kwB ps [] ps.length (List.range ps.length) = true := by
    unfold kwB
    simp only [Bool.and_eq_true, decide_eq_true_eq]
    refine ⟨⟨⟨Nat.le_refl _, rfl⟩, by simpa using hB.1⟩, ?_⟩
    apply List.ext_getElem?
    intro j
    simp only [List.take_length, List.append_nil, List.getElem?_map]
    by_cases hj : j < ps.length
    · rw [List.getElem?_range hj, Option.map_some, List.getElem?_eq_getElem hj]; rfl
    · rw [List.getElem?_eq_none (by simpa using hj), List.getElem?_eq_none (by simpa using hj)]; rfl
  have b := kwB_ok hB hself (s := s) (us := us) (ws := []) hul rfl
  have hid : (List.range us.length).filterMap (fun i => us[i]?) = us := by rw [List.range_eq_range']; exact fm_range us [] 0 rfl
  rw [List.append_nil, ← hul, hid] at b
  exact b
theorem PBinds.binds {fd : FuncData} {ps : List Str} (hB : PBinds fd ps) (K : PySem.W.Frag) : L2.Binds K fd ps [] := fun s us _ hl => by
  rw [List.append_nil] at hl ⊢
  exact hB.pos hl
/-- a def at hand is called -/
theorem ok_callV {cl : Cl} {fe : Expr} {rf : EvT} {k : Nat} {pos : Pos} {xs : List Expr} {r : EsT} (hev : eval (.Call fe xs [] pos) X.env = (do
        let f ← eval fe X.env
        callWith pos f [] (backTo pos (starEach xs X.env)) (backToKw pos (keywordEach [] X.env)))) (hf : PE X fe (tE C Wx rf)) (hr : Room k X.A)
    (fv : ∀ n fa, C.fa n = some fa → ∃ fd ps, FnOk X.prog X.w X.K X.mg X.base (CX X.prog X.w) k fa fd ps (spF C cl n) ∧ PySem.W.keepIn X.K (.ref fa) = true ∧ PBinds fd ps) (tk : Takes X Wx) (hn : xs.all nst = true) (ha : PA X xs (tA C Wx r)) :
    PE X (.Call fe xs [] pos) (tE C Wx (eCallV cl rf r)) := by
  refine ⟨fun pins s σ H Q I h => ?_⟩
  have h : tE C Wx (fun e s => (rf e s).bnd fun d s => (fun d e s => match d with | .fn f => (r e s).bnd (cl f) | _ => .bad 8 : D → EvT) d e s) σ H Q := h
  have h := tE_then h
  rw [hev]
  refine wpAny_bind (thn (hf.run pins s σ H _ I h) fun u s1 hh => ?_)
  obtain ⟨v, H1, I1, rv, W, e, s', d, S, SE, rd, q⟩ := hh
  split at q
  · rename_i n
    cases rd with | fn hfa =>
    rename_i fa
    obtain rfl : u = Value.ref fa := rv
    obtain ⟨fd, ps, F, hk, hB⟩ := fv n fa hfa
    have q : RvQ C W ((r e s').bnd (cl n)) Q (fun cls d H' => Wx cls d σ H') := q
    have h2 := tA_one (C := C) (Wx := Wx) (k := cl n) (a := r) (σ := σ) (H := H1) (Q := Q) ⟨W, e, s', S, SE, q⟩
    refine PySem.W.callWith_of (by rw [star_any _ _ hn]; rfl) (PySem.W.keeps_K hk) (evalArgs_g hn rfl ?_)
    refine thn (ha.run pos pins s1 σ H1 _ I1 h2) fun us s2 hh2 => ?_
    obtain ⟨vs, H2, I2, r2, W2, ds, s3, S2, rs, q2⟩ := hh2
    show wpAny _ _ (evalAll []) _ _ _
    refine wpAny_pure ?_
    refine ⟨Inv.kIn I2, ?_⟩
    show wpAny _ _ (call (Value.ref fa) ([] ++ us) []) _ _ _
    have hsp : spF C cl n vs H2 Q (fun cls d H' => Wx cls d σ H') := ⟨W2, ds, s3, S2, rs, q2⟩
    have hl := F.len _ _ _ _ hsp
    have hul : us.length = ps.length := by rw [← vals_len r2]; exact hl
    have b := hB.pos (s := s2) hul
    exact run_fnG F hr (pass_of tk σ) I2 b r2 hsp
  · exact q.elim
end
end Mv
end

section
set_option Elab.async false
set_option linter.all false
set_option maxRecDepth 100000
set_option maxHeartbeats 4000000
/-! Ck: a term is the statement's own expression. -/
namespace Mv
open PySem PySem.Spec PyProof.Rows L2
/-- what is known of the module's names -/
structure Md where
  fns : List (Str × Nat × List Str)
  con : List (Str × D)
  cls : List (Str × Nat)
  nog : List Str
  fld : Nat → Str
  cb : Nat → Nat
  slp : List Str := []
/-- where a term stands -/
structure Sc where
  N : List Str
  sc : Scope
  sf : Str → Bool
  calm : Bool
  er : Option Nat
  /-- the def's table of code objects: lambdas may be made -/
  tab : Option (Addr × Addr × Str) := none
def vis (S : Sc) (x : Str) : Bool := match List.lookup x S.sc.names with | some .local => true | some .cell => true | some .free => true | _ => false
def gbl (S : Sc) (x : Str) : Bool := match List.lookup x S.sc.names with | some .globalImplicit => true | _ => false
def okn (x : Str) : Bool := !(x == Str.ofString "__debug__") && !(x == Str.ofString "__classdict__") && !decide (x = Str.ofString "__name__")
/-- a built-in's name -/
def bnm (M : Md) (S : Sc) (x : Str) (y : String) : Bool := decide (x = Str.ofString y) && gbl S x && M.nog.contains x && okn x
def tyB : List (String × Nat) := [("int", 0), ("bool", 1), ("str", 2), ("tuple", 3), ("list", 4)]
/-- the same constant -/
def deqC : D → D → Bool
  | .non, .non => true
  | .bl a, .bl b => decide (a = b)
  | .int a, .int b => decide (a = b)
  | .str a, .str b => decide (a = b)
  | .fn a, .fn b => decide (a = b)
  | .ty a, .ty b => decide (a = b)
  | _, _ => false
theorem deqC_eq {a b : D} (h : deqC a b = true) : a = b := by
  cases a <;> cases b <;> simp_all [deqC]
def ckC (M : Md) (S : Sc) (d : D) : Expr → Bool
  | .Constant (.int i) _ _ => deqC d (.int i)
  | .Constant (.str s) _ _ => deqC d (.str s.cps.toList)
  | .Constant (.bool b) _ _ => deqC d (.bl b)
  | .Constant .none _ _ => deqC d .non
  | .Name x _ => gbl S x && okn x && (match d with
    | .fn n => (match List.lookup x M.fns with | some p => decide (p.1 = n) | none => false)
    | .ty k => (decide (List.lookup x M.cls = some k) || (tyB.any fun p => decide (p.2 = k) && bnm M S x p.1))
    | d => (match List.lookup x M.con with | some d' => deqC d d' | none => false))
  | _ => false
/-- an attribute's base that is no super() -/
def noSup : Expr → Bool
  | .Name _ _ => true
  | .Call (.Name _ _) (_ :: _) _ _ => true
  | .Subscript _ _ _ => true
  | _ => false
def tupT : Expr → Bool
  | .Tuple _ _ _ => true
  | _ => false
def noSet : Expr → Bool
  | .Set _ _ _ => false
  | _ => true
mutual
def ckTg (S : Sc) : Tg → Expr → Bool
  | .nm i, e => (match e with
    | .Name x _ => decide (S.N[i]? = some x) && (match List.lookup x S.sc.names with | some .local => true | some .cell => S.sf x | _ => false) && !decide (S.er = some i)
    | _ => false)
  | .tp ts, e => (match e with | .Tuple es _ _ => S.calm && es.all nst && ckTgs S ts es | _ => false)
def ckTgs (S : Sc) : List Tg → List Expr → Bool
  | [], es => (match es with | [] => true | _ => false)
  | t :: ts, es => (match es with | e :: es => ckTg S t e && ckTgs S ts es | [] => false)
end
def inner (S : Sc) (scope : Scope) : Sc := { N := S.N, sc := relS scope S.sc, sf := fun x => List.lookup x scope.names == some .cell, calm := S.calm, er := none }
def ownOf (S : Sc) : List Nat → List (Str × Nat)
  | [] => []
  | i :: r => match S.N[i]? with | some x => (x, i) :: ownOf S r | none => []
/-- no .. if .. else .. as a test -/
def nif : Expr → Bool
  | .IfExp _ _ _ _ => false
  | _ => true
/-- truth is told of the value -/
def pln : Expr → Bool
  | .UnaryOp .Not _ _ => false
  | .BoolOp _ _ _ => false
  | .IfExp _ _ _ _ => false
  | .Compare _ _ _ _ => false
  | _ => true
/-- the checks of one term -/
structure CkR where
  e : Sc → Expr → Bool
  ch : Sc → BoolOp → List Expr → Bool
  isl : Nat → Sc → Expr → Bool
  po : Sc → Bool → Option Expr → Bool
  tt : Bool
def chOf (e : Sc → Expr → Bool) (S : Sc) : List Expr → Bool
  | [x] => nif x && e S x
  | _ => false
def CkR.of (e : Sc → Expr → Bool) : CkR := { e := e, ch := fun S _ es => chOf e S es, isl := fun _ _ _ => false, po := fun _ _ _ => false, tt := false }
def cks (S : Sc) : List CkR → List Expr → Bool
  | [], xs => (match xs with | [] => true | _ => false)
  | a :: as, xs => (match xs with | x :: xs => nst x && a.e S x && cks S as xs | [] => false)
def cIf (S : Sc) (r : CkR) : List Expr → Bool
  | [e] => nif e && r.e S e
  | [] => r.tt
  | _ => false
section
variable (M : Md)
def cVar (i : Nat) : CkR := .of fun S e => match e with | .Name x _ => decide (S.N[i]? = some x) && vis S x && okn x | _ => false
def isN : D → Bool
  | .non => true
  | _ => false
def isT : D → Bool
  | .bl true => true
  | _ => false
def cCon (d : D) : CkR := { CkR.of (fun S e => ckC M S d e) with po := fun _ p o => isN d && !p && o.isNone, tt := isT d }
def poE (r : CkR) (S : Sc) : Option Expr → Bool
  | some e => r.e S e
  | none => false
/-- the method's owner: a list 1, a tuple 2 -/
def isOf : Nat → Op1
  | 1 => .isl
  | 2 => .ist
  | _ => .ich
def isIsl (k : Nat) (o : Op1) : Bool := match o with
  | .isl => Nat.beq k 1
  | .ist => Nat.beq k 2
  | _ => false
theorem isIsl_ok {k : Nat} {o : Op1} (h : isIsl k o = true) : o = isOf k := by
  unfold isIsl at h
  split at h <;> first | (have := (beq_true_iff _ _).mp h; subst this; rfl) | cases h
def isIch : Op1 → Bool
  | .ich => true
  | _ => false
def isAsT : Op1 → Bool
  | .asT => true
  | .frz => true
  | _ => false
def isSset : Op1 → Bool
  | .sset _ => true
  | _ => false
def isLset : Op1 → Bool
  | .lset => true
  | _ => false
/-- len(set(x)) -/
def ckLset (r : CkR) (S : Sc) : Expr → Bool
  | .Call (.Name f _) [.Call (.Name g _) [x] [] _] [] _ => S.calm && bnm M S f "len" && bnm M S g "set" && nst x && r.e S x
  | _ => false
/-- sorted(set(x)) -/
def ckSset (r : CkR) (S : Sc) : Expr → Bool
  | .Call (.Name f _) [.Call (.Name g _) [x] [] _] [] _ => S.calm && bnm M S f "sorted" && bnm M S g "set" && nst x && r.e S x
  | _ => false
def isSrk : Op1 → Bool
  | .srk _ => true
  | _ => false
/-- lambda x: (x[0], -x[1]) -/
def lamB (a : Arguments) (b : Expr) (sc : Scope) : Bool := match a with
  | { posonlyargs := [], args := [{ arg := x, annotation := none, pos := _ }], vararg := none, kwonlyargs := [], kw_defaults := [], kwarg := none, defaults := [] } => (match b with
    | .Tuple [.Subscript (.Name y _) (.Constant (.int i) _ _) _, .UnaryOp .USub (.Subscript (.Name z _) (.Constant (.int j) _ _) _) _] _ _ =>
      decide (y = x) && decide (z = x) && decide (i = 0) && decide (j = 1) && decide (sc.names.lookup x = some .local) && !(x == ("__debug__" : Str)) && decide (sc.kind = .function) && !sc.isCoroutine && !sc.isGenerator && (sc.names.all fun y => !decide (y.2 = .cell) && !decide (y.2 = .free))
    | _ => false)
  | _ => false
/-- sorted(x, key=lambda ..) -/
def ckSrk (r : CkR) (S : Sc) : Expr → Bool
  | .Call (.Name f _) [x] [⟨some k, .Lambda a b sc _, _⟩] _ => S.calm && S.tab.isSome && bnm M S f "sorted" && decide (k = Str.ofString "key") && nst x && r.e S x && lamB a b sc
  | _ => false
def cO1 (o : Op1) (r : CkR) : CkR := { CkR.of (fun S e => cond (isAsT o) (pln e && r.e S e) <| cond (isSset o) (ckSset M r S e) <| cond (isLset o) (ckLset M r S e) <| cond (isSrk o) (ckSrk M r S e) <| match e with
    | .UnaryOp op x _ => (match o, op with | .neg, .USub => r.e S x | .not, .Not => r.e S x && nif x | _, _ => false)
    | .Call (.Name f _) [x] [] _ => nst x && r.e S x && (match o with
      | .len => bnm M S f "len" | .abs => bnm M S f "abs" | .all => S.calm && bnm M S f "all" | .any => S.calm && bnm M S f "any" | .sum => S.calm && bnm M S f "sum"
      | .int_ => bnm M S f "int" | .lst _ => S.calm && bnm M S f "list" | .dict => S.calm && bnm M S f "dict" | .tup => bnm M S f "tuple" | .tpn => bnm M S f "tuple" | .srt _ => S.calm && bnm M S f "sorted" | .min1 => S.calm && bnm M S f "min" | .max1 => S.calm && bnm M S f "max" | _ => false)
    | .Call (.Attribute q nm apos) [] [] cpos => (match o with | .pop => decide (nm = Str.ofString "pop") && noSup q && (apos.endLine == cpos.line) && r.isl 1 S q | _ => false)
    | .Subscript x (.Slice none none (some (.UnaryOp .USub (.Constant (.int i) _ _) _)) _) _ => (match o with | .rev _ => decide (i = 1) && r.e S x | _ => false)
    | _ => false) with
  isl := fun k S e => isIsl k o && r.e S e
  po := fun S p o' => isIch o && p && poE r S o' }
def cO2 (o : Op2) (a b : CkR) : CkR := .of fun S e => match e with
    | .BinOp x op y _ => (match o with | .bin p _ => decide (op = binOp p) && a.e S x && b.e S y | _ => false)
    | .Compare x [op] [y] _ => (match o with | .cmp p => decide (op = cmpOp p) && a.e S x && b.e S y && !behindInMarks op y | _ => false)
    | .Subscript x (.Slice none none (some y) _) _ => (match o with | .stp _ => a.e S x && b.e S y | _ => false)
    | .Subscript x y _ => (match o with | .idx => nsl y && a.e S x && b.e S y | _ => false)
    | .Call (.Name f _) [.Call (.Name g _) [x, y] [] _] [] _ => (match o with | .lrg _ => S.calm && bnm M S f "list" && bnm M S g "range" && nst x && nst y && a.e S x && b.e S y | _ => false)
    | .Call (.Name f _) [x, y] [] _ => nst x && nst y && a.e S x && b.e S y && (match o with
      | .isi => bnm M S f "isinstance" | .min => S.calm && bnm M S f "min" | .max => S.calm && bnm M S f "max" | _ => false)
    | .Call (.Attribute q nm apos) [y] [] cpos => (match o with
      | .app => decide (nm = Str.ofString "append") && noSup q && nst y && (apos.endLine == cpos.line) && a.isl 1 S q && b.e S y
      | .index => decide (nm = Str.ofString "index") && noSup q && nst y && (apos.endLine == cpos.line) && a.isl 1 S q && b.e S y
      | .ext => decide (nm = Str.ofString "extend") && noSup q && nst y && (apos.endLine == cpos.line) && a.isl 1 S q && b.e S y
      | .tix => decide (nm = Str.ofString "index") && noSup q && nst y && (apos.endLine == cpos.line) && a.isl 2 S q && b.e S y
      | _ => false)
    | _ => false
def isRgv : Opn → Bool
  | .rgv => true
  | _ => false
def ckRgv (rs : List CkR) (S : Sc) : Expr → Bool
  | .Call (.Name f _) (x :: xs) [] _ => bnm M S f "range" && cks S rs (x :: xs)
  | _ => false
def cOn (o : Opn) (rs : List CkR) : CkR := .of fun S e => cond (isRgv o) (ckRgv M rs S e) <| match e with
    | .Call (.Name f _) [.Call (.Name g _) (x :: xs) [] _] [] _ => (match o with | .rgs t _ => S.calm && bnm M S f (cond t "tuple" "list") && bnm M S g "range" && cks S rs (x :: xs) | _ => false)
    | .Call (.Attribute (.Dict keys values _) nm apos) [x, y] [] cpos => (match o with | .dge ks vs => (match rs with | [a, b] => decide (nm = Str.ofString "get") && ckKs ks keys && ckVs vs values && Nat.beq ks.length vs.length && Nat.blt 0 ks.length && Nat.ble ks.length 15 && (apos.endLine == cpos.line) && nst x && nst y && a.e S x && b.e S y | _ => false) | _ => false)
    | .Dict [] [] _ => (match o with | .dct => (match rs with | [] => true | _ => false) | _ => false)
    | .Dict [some k] [v] _ => (match o with | .dsp => (match rs with | [a, b] => a.e S k && b.e S v | _ => false) | _ => false)
    | .Tuple xs _ _ => (match o with | .tup => cks S rs xs | _ => false)
    | .List xs _ => (match o with | .lst _ => cks S rs xs | _ => false)
    | .Subscript x (.Slice lo hi none _) _ => (match o with | .slc _ p q => (match rs with | [a, l, h] => a.e S x && l.po S p lo && h.po S q hi | _ => false) | _ => false)
    | .Subscript x (.Slice lo hi (some st) _) _ => (match o with | .sls _ p q => (match rs with | [a, l, h, k] => a.e S x && l.po S p lo && h.po S q hi && k.e S st | _ => false) | _ => false)
    | _ => false
def cIfe (c a b : CkR) : CkR := .of fun S e => match e with | .IfExp t x y _ => nif t && c.e S t && a.e S x && b.e S y | _ => false
def chBo (e : Sc → Expr → Bool) (o : BoolOp) (a b : CkR) (S : Sc) (o' : BoolOp) : List Expr → Bool
  | [x] => nif x && e S x
  | x :: y :: xs => decide (o' = o) && nif x && a.e S x && b.ch S o (y :: xs)
  | [] => false
def cBo (o : BoolOp) (a b : CkR) : CkR :=
  let e : Sc → Expr → Bool := fun S e => match e with | .BoolOp o' (x :: y :: xs) _ => decide (o' = o) && nif x && a.e S x && b.ch S o (y :: xs) | _ => false
  { CkR.of e with ch := fun S o' es => chBo e o a b S o' es }
def cCh2 (o p : COp) (a b c : CkR) : CkR := .of fun S e => match e with | .Compare x [o', p'] [y, z] _ => decide (o' = cmpOp o) && decide (p' = cmpOp p) && a.e S x && b.e S y && c.e S z && !lastMarks [o', p'] [y, z] | _ => false
def cCh3 (o p q : COp) (a b c d : CkR) : CkR := .of fun S e => match e with | .Compare x [o', p', q'] [y, z, w] _ => decide (o' = cmpOp o) && decide (p' = cmpOp p) && decide (q' = cmpOp q) && a.e S x && b.e S y && c.e S z && d.e S w && !lastMarks [o', p', q'] [y, z, w] | _ => false
def isEnr : Wk → Bool
  | .enr => true
  | _ => false
def cWr (S : Sc) (rs : List CkR) (tg e : Expr) : Bool := match e with
  | .Call (.Name f _) [.Call (.Name g _) (x :: xs) [] _] [] _ => bnm M S f "enumerate" && bnm M S g "range" && tupT tg && cks S rs (x :: xs)
  | _ => false
/-- what is walked -/
def cWo (S : Sc) (k : Wk) (rs : List CkR) (tg e : Expr) : Bool := match rs with
  | [a] => (match k with
    | .val => a.e S e
    | .rng => (match e with | .Call (.Name f _) [x] [] _ => bnm M S f "range" && nst x && a.e S x | _ => false)
    | .enum => (match e with | .Call (.Name f _) [x] [] _ => bnm M S f "enumerate" && tupT tg && nst x && a.e S x | _ => false)
    | .zip => false
    | .enr => false)
  | [a, b] => (match e with
    | .Call (.Name f _) [x, y] [] _ => nst x && nst y && a.e S x && b.e S y && (match k with
      | .rng => bnm M S f "range"
      | .zip => bnm M S f "zip" && tupT tg
      | _ => false)
    | _ => false)
  | [a, b, c] => (match e with
    | .Call (.Name f _) [x, y, z] [] _ => nst x && nst y && nst z && a.e S x && b.e S y && c.e S z && (match k with
      | .rng => bnm M S f "range"
      | _ => false)
    | _ => false)
  | _ => false
def cW (S : Sc) (k : Wk) (rs : List CkR) (tg e : Expr) : Bool := cond (isEnr k) (cWr M S rs tg e) (cWo M S k rs tg e)
def cLc (vs : List Nat) (t : Tg) (k : Wk) (es : List CkR) (c a : CkR) : CkR := .of fun S e => match e with
    | .ListComp elt [⟨tg, iter, ifs, is⟩] scope _ => S.calm && S.er.isNone && decide (is = 0) && noSet iter && cW M S k es tg iter && blkC S.N S.sc scope (ownOf S vs) && decide ((ownOf S vs).map (fun x => x.2) = vs) && (tgs t).all (fun j => vs.contains j) &&
        ckTg (inner S scope) t tg && cIf (inner S scope) c ifs && a.e (inner S scope) elt
    | _ => false
def cLc2 (vs0 : List Nat) (t0 : Tg) (k0 : Wk) (es0 : List CkR) (vs : List Nat) (t : Tg) (k : Wk) (es : List CkR) (c a : CkR) : CkR := .of fun S e => match e with
    | .ListComp elt [⟨tg0, iter0, [], is0⟩, ⟨tg, iter, ifs, is⟩] scope _ => S.calm && S.er.isNone && decide (is = 0) && decide (is0 = 0) && noSet iter && noSet iter0 && cW M S k0 es0 tg0 iter0 && blkC S.N S.sc scope (ownOf S vs0) && decide ((ownOf S vs0).map (fun x => x.2) = vs0) &&
        (tgs t0).all (fun j => vs0.contains j) && (tgs t).all (fun j => vs.contains j) && vs.all (fun j => vs0.contains j) && ckTg (inner S scope) t0 tg0 && cW M (inner S scope) k es tg iter && ckTg (inner S scope) t tg && cIf (inner S scope) c ifs && a.e (inner S scope) elt
    | _ => false
def cCall (f : Nat) (rs : List CkR) : CkR := .of fun S e => match e with
    | .Call (.Name g _) xs [] _ => (match List.lookup g M.fns with | some p => decide (p.1 = f) && (!xs.isEmpty || p.2.isEmpty) | none => false) && gbl S g && okn g && S.calm && S.er.isNone && cks S rs xs
    | _ => false
def ckKw (S : Sc) : List CkR → List Keyword → Bool
  | [], ks => (match ks with | [] => true | _ => false)
  | a :: as, ks => (match ks with | k :: ks => a.e S k.value && ckKw S as ks | [] => false)
def cCallK (f : Nat) (p : List Nat) (rs : List CkR) : CkR := .of fun S e => match e with
    | .Call (.Name g _) xs kws _ => gbl S g && okn g && S.calm && S.er.isNone && (kws.all fun k => k.arg.isSome) && cks S (rs.take xs.length) xs && ckKw S (rs.drop xs.length) kws &&
        (match List.lookup g M.fns with | some q => decide (q.1 = f) && kwB q.2 (kws.filterMap fun k => k.arg) xs.length p | none => false)
    | _ => false
def calB : Expr → Bool
  | .Name _ _ => true
  | .Subscript _ _ _ => true
  | _ => false
def cCallV (a : CkR) (rs : List CkR) : CkR := .of fun S e => match e with
    | .Call fe xs [] _ => calB fe && S.calm && S.er.isNone && a.e S fe && cks S rs xs
    | _ => false
def cFld (k i : Nat) : CkR := .of fun S e => match e with | .Attribute (.Name x _) f _ => decide (S.N[i]? = some x) && vis S x && okn x && decide (S.er = some i) && decide (f = M.fld k) | _ => false
def cIsx (i k : Nat) : CkR := .of fun S e => match e with
    | .Call (.Name f _) [.Name x _, .Name y _] [] _ => bnm M S f "isinstance" && decide (S.N[i]? = some x) && vis S x && okn x && decide (S.er = some i) && gbl S y && okn y && (decide (List.lookup y M.cls = some k) || (decide (k = 5) && bnm M S y "LookupError") || (decide (k = 6) && bnm M S y "ValueError"))
    | _ => false
def cSlp (i : Nat) : CkR := .of fun S e => match e with
    | .Call (.Name g _) [.Name x _] [] _ => decide (S.N[i]? = some x) && vis S x && okn x && decide (S.er = some i) && gbl S g && okn g && M.slp.contains g
    | _ => false
noncomputable def ck : Ex → CkR := Ex.rec (motive_1 := fun _ => CkR) (motive_2 := fun _ => List CkR) cVar (cCon M) (fun o _ r => cO1 M o r) (fun o _ _ r q => cO2 M o r q) (fun o _ r => cOn M o r)
  (fun _ _ _ r q u => cIfe r q u) (fun _ _ r q => cBo .And r q) (fun _ _ r q => cBo .Or r q) (fun o p _ _ _ r q u => cCh2 o p r q u) (fun o p q _ _ _ _ r u v w => cCh3 o p q r u v w)
  (fun _ vs t k _ _ _ r q u => cLc M vs t k r q u) (fun _ vs0 t0 k0 _ vs t k _ _ _ r q u v => cLc2 M vs0 t0 k0 r vs t k q u v)
  (fun f _ r => cCall M f r) (fun f p _ r => cCallK M f p r) (fun _ _ r q => cCallV r q) (fun k i => cFld M k i) (fun i k => cIsx M i k) (fun i => cSlp M i)
  [] (fun _ _ r q => r :: q)
end
end Mv
end

section
set_option Elab.async false
set_option linter.all false
set_option maxRecDepth 100000
set_option maxHeartbeats 4000000
/-! CkOk: what passes the check is right. -/
namespace Mv
open PySem PySem.Spec PyProof.Rows L2
structure XOk (M : Md) (C : Cn) (cl : Cl) (lv : Nat) (S : Sc) (X : Cx) : Prop where
  hK : C.K = X.K
  hw : C.w = X.w
  hu : X.A.units + 100 < cLine
  N : X.N = S.N
  nd : X.N.Nodup
  sc : X.env.scope = S.sc
  sf : ∀ x, S.sf x = true → X.fn x = true
  calm : X.calm = S.calm
  er : C.er.map (·.i) = S.er
  room : S.calm = true → Room lv X.A
  fn : S.er = none → ∀ x p, List.lookup x M.fns = some p → ∃ f fd, FnOk X.prog X.w X.K X.mg X.base (CX X.prog X.w) lv f fd p.2 (spF C cl p.1) ∧ X.mg x = some (.ref f) ∧ PySem.W.keepIn X.K (.ref f) = true ∧ PBinds fd p.2
  fv : S.er = none → ∀ n fa, C.fa n = some fa → ∃ fd ps, FnOk X.prog X.w X.K X.mg X.base (CX X.prog X.w) lv fa fd ps (spF C cl n) ∧ PySem.W.keepIn X.K (.ref fa) = true ∧ PBinds fd ps
  fa : ∀ x p, List.lookup x M.fns = some p → ∃ f, X.mg x = some (.ref f) ∧ C.fa p.1 = some f
  con : ∀ x d, List.lookup x M.con = some d → ∃ v u, X.mg x = some u ∧ L2.RelV v u ∧ ∀ W, RD C W d v
  cls : ∀ x k, List.lookup x M.cls = some k → ∃ a, X.mg x = some (.ref a) ∧ C.ca k = some a ∧ tyName k = none
  nog : ∀ x, M.nog.contains x = true → X.mg x = none
  lam : ∀ t, S.tab = some t → TabOk X C t
  fld : ∀ (Wx : WX) i k x xp pos, S.er = some i → S.N[i]? = some x → vis S x = true → okn x = true → PE X (.Attribute (.Name x xp) (M.fld k) pos) (tE C Wx (eFld k i))
  isx : ∀ (Wx : WX) i k x f y fp xp yp pos, S.er = some i → S.N[i]? = some x → vis S x = true → okn x = true → bnm M S f "isinstance" = true → gbl S y = true → okn y = true → (List.lookup y M.cls = some k ∨ (k = 5 ∧ bnm M S y "LookupError" = true) ∨ (k = 6 ∧ bnm M S y "ValueError" = true)) →
    PE X (.Call (.Name f fp) [.Name x xp, .Name y yp] [] pos) (tE C Wx (eIsx M.cb i k))
  slp : ∀ (Wx : WX) i x g gp xp pos, S.er = some i → S.N[i]? = some x → vis S x = true → okn x = true → gbl S g = true → okn g = true → M.slp.contains g = true → PE X (.Call (.Name g gp) [.Name x xp] [] pos) (tE C Wx (eSlp M.cb i))
section
variable {M : Md} {C : Cn} {cl : Cl} {lv : Nat}
section
variable {S : Sc} {X : Cx} {Wx : WX} (K : XOk M C cl lv S X)
include K
theorem gbl_ok {x : Str} (h : gbl S x = true) : Gl X x := by
  unfold gbl at h
  unfold Gl Env.kindOf
  rw [K.sc]
  split at h
  · assumption
  · cases h
theorem vis_ok {x : Str} (h : vis S x = true) : Vis X.env.scope x := by
  unfold vis at h
  unfold Vis
  rw [K.sc]
  split at h
  · exact .inl (by assumption)
  · exact .inr (.inl (by assumption))
  · exact .inr (.inr (by assumption))
  · cases h
omit K in
theorem okn_ok {x : Str} (h : okn x = true) : (x == Str.ofString "__debug__") = false ∧ (x == Str.ofString "__classdict__") = false ∧ x ≠ Str.ofString "__name__" := by
  unfold okn at h
  simp only [Bool.and_eq_true, Bool.not_eq_true'] at h
  exact ⟨h.1.1, h.1.2, by simpa using h.2⟩
theorem bnm_ok {x : Str} {y : String} (h : bnm M S x y = true) : x = Str.ofString y ∧ Gl X x ∧ X.mg x = none ∧ x ≠ Str.ofString "__name__" ∧ (x == Str.ofString "__debug__") = false := by
  unfold bnm at h
  simp only [Bool.and_eq_true, decide_eq_true_eq] at h
  obtain ⟨⟨⟨h1, h2⟩, h3⟩, h4⟩ := h
  obtain ⟨g1, g2, g3⟩ := okn_ok h4
  exact ⟨h1, gbl_ok K h2, K.nog x h3, g3, g1⟩
end
/-- a check and what it checks -/
structure Good (M : Md) (C : Cn) (cl : Cl) (lv : Nat) (r : CkR) (x : EvT) : Prop where
  e : ∀ {S : Sc} {X : Cx} {Wx : WX} {e : Expr}, XOk M C cl lv S X → Takes X Wx → r.e S e = true → PE X e (tE C Wx x) ∧ (nif e = true → PT X e (tT C Wx x))
  ch : ∀ {S : Sc} {X : Cx} {Wx : WX} {o : BoolOp} {es : List Expr} {pos : Pos}, XOk M C cl lv S X → Takes X Wx → r.ch S o es = true → PE X (.BoolOp o es pos) (tE C Wx x) ∧ PW X (.BoolOp o es pos) (tT C Wx x)
  isl : ∀ {k : Nat} {S : Sc} {X : Cx} {Wx : WX} {e : Expr}, XOk M C cl lv S X → Takes X Wx → r.isl k S e = true → ∃ y, x = e1 (isOf k) y ∧ PE X e (tE C Wx y)
  po : ∀ {S : Sc} {X : Cx} {Wx : WX} {p : Bool} {o : Option Expr}, XOk M C cl lv S X → Takes X Wx → r.po S p o = true → POk X C Wx p o x
  tt : r.tt = true → x = eCon (.bl true)
inductive Goods (M : Md) (C : Cn) (cl : Cl) (lv : Nat) : List CkR → EsT → Prop
  | nil : Goods M C cl lv [] esN
  | cons {r : CkR} {rs : List CkR} {x : EvT} {xs : EsT} (h : Good M C cl lv r x) (t : Goods M C cl lv rs xs) : Goods M C cl lv (r :: rs) (esC x xs)
theorem pln_ok {e : Expr} (h : pln e = true) (env : PySem.Env) (whole : Sem Value) : PySem.isTrue e env whole = (do
        let v ← whole
        standAt e.pos
        holding [v] (truthy v)) := by
  cases e
  case UnaryOp op a p => cases op <;> first | rfl | cases h
  all_goals first | rfl | cases h
theorem both {X : Cx} {Wx : WX} (hK : C.K = X.K) {e : Expr} {x : EvT} (h : PE X e (tE C Wx x)) (hp : pln e = true) : PE X e (tE C Wx x) ∧ (nif e = true → PT X e (tT C Wx x)) := ⟨h, fun _ => ok_tru hK h (pln_ok hp X.env)⟩
theorem one_ch {X : Cx} {Wx : WX} {e : Expr} {x : EvT} {o : BoolOp} {pos : Pos} (h : PE X e (tE C Wx x)) (ht : PT X e (tT C Wx x)) : PE X (.BoolOp o [e] pos) (tE C Wx x) ∧ PW X (.BoolOp o [e] pos) (tT C Wx x) := by
  refine ⟨pe_one h, ?_⟩
  cases o
  · exact pw_and1 ht
  · exact pw_or1 ht
/-- a term with nothing but the check itself -/
theorem good_of {f : Sc → Expr → Bool} {x : EvT} (h : ∀ {S : Sc} {X : Cx} {Wx : WX} {e : Expr}, XOk M C cl lv S X → Takes X Wx → f S e = true → PE X e (tE C Wx x) ∧ (nif e = true → PT X e (tT C Wx x))) : Good M C cl lv (CkR.of f) x := by
  refine ⟨h, fun {S X Wx o es pos} K tk hc => ?_, fun {k S X Wx e} K tk h => ?_, fun {S X Wx p o} K tk h => ?_, fun h => ?_⟩
  rotate_left
  · exact absurd h Bool.false_ne_true
  · exact absurd h Bool.false_ne_true
  · exact absurd h Bool.false_ne_true
  have hc : chOf f S es = true := hc
  unfold chOf at hc
  split at hc
  · have hc := (Bool.and_eq_true _ _).mp hc
    obtain ⟨h1, h2⟩ := h K tk hc.2
    exact one_ch h1 (h2 hc.1)
  · cases hc
theorem cks_ok {rs : List CkR} {es : EsT} (G : Goods M C cl lv rs es) : ∀ {S : Sc} {X : Cx} {Wx : WX} {xs : List Expr}, XOk M C cl lv S X → Takes X Wx → cks S rs xs = true → PA X xs (tA C Wx es) ∧ xs.all nst = true := by
  induction G with
  | nil =>
    intro S X Wx xs K tk h
    unfold cks at h
    cases xs with
    | nil => exact ⟨ok_nil, rfl⟩
    | cons => cases h
  | cons hg _ ih =>
    intro S X Wx xs K tk h
    unfold cks at h
    cases xs with
    | nil => cases h
    | cons x xs =>
      simp only [Bool.and_eq_true] at h
      obtain ⟨⟨h1, h2⟩, h3⟩ := h
      obtain ⟨g1, g2⟩ := ih K tk h3
      exact ⟨ok_cons h1 (hg.e K tk h2).1 g1, by simp [h1]; simpa using g2⟩
theorem lamB_ok {a : Arguments} {b : Expr} {sc : Scope} (h : lamB a b sc = true) : LamOk a b sc := by
  unfold lamB at h
  split at h
  · rename_i x ap
    split at h
    · simp only [Bool.and_eq_true, Bool.not_eq_true', decide_eq_true_eq, List.all_eq_true, decide_eq_false_iff_not] at h
      obtain ⟨⟨⟨⟨⟨⟨⟨⟨⟨h1, h2⟩, h3⟩, h4⟩, h5⟩, h6⟩, h7⟩, h8⟩, h9⟩, h10⟩ := h
      subst h1; subst h2; subst h3; subst h4
      exact ⟨⟨_, _, _, _, _, _, _, _, _, _, _, _, _, rfl, rfl, h5, h6⟩, h7, h8, h9, h10⟩
    · cases h
  · cases h
/-! ### the forms -/
theorem g_var (i : Nat) : Good M C cl lv (cVar i) (eVar i) := good_of fun {S X Wx e} K tk h => by
  split at h
  · simp only [Bool.and_eq_true, decide_eq_true_eq] at h
    obtain ⟨⟨h1, h2⟩, h3⟩ := h
    obtain ⟨g1, g2, g3⟩ := okn_ok h3
    exact both K.hK (ok_var (by rw [K.N]; exact h1) (vis_ok K h2) g1 g2) rfl
  · cases h
theorem boot_tyB {k : Nat} {nm : String} (h : (nm, k) ∈ tyB) : bootBuiltins (Str.ofString nm) = some (Value.type nm) ∧ tyName k = some nm := by
  simp only [tyB, List.mem_cons, List.not_mem_nil, or_false, Prod.mk.injEq] at h
  rcases h with ⟨rfl, rfl⟩ | ⟨rfl, rfl⟩ | ⟨rfl, rfl⟩ | ⟨rfl, rfl⟩ | ⟨rfl, rfl⟩
  · exact ⟨boot_int, rfl⟩
  · exact ⟨boot_bool, rfl⟩
  · exact ⟨boot_str, rfl⟩
  · exact ⟨boot_tuple, rfl⟩
  · exact ⟨boot_list, rfl⟩
theorem ckC_ok {S : Sc} {X : Cx} {Wx : WX} {e : Expr} {d : D} (K : XOk M C cl lv S X) (h : ckC M S d e = true) : PE X e (tE C Wx (eCon d)) ∧ pln e = true := by
  unfold ckC at h
  split at h
  · have := deqC_eq h; subst this; exact ⟨ok_con pe_int fun W => .int _, rfl⟩
  · have := deqC_eq h; subst this; exact ⟨ok_con pe_str fun W => by rename_i s _ _; exact RD.str s.cps.toList, rfl⟩
  · have := deqC_eq h; subst this; exact ⟨ok_con pe_bl fun W => .bl _, rfl⟩
  · have := deqC_eq h; subst this; exact ⟨ok_con pe_non fun W => .non, rfl⟩
  · simp only [Bool.and_eq_true] at h
    obtain ⟨⟨h1, h2⟩, h3⟩ := h
    obtain ⟨g1, g2, g3⟩ := okn_ok h2
    refine ⟨?_, rfl⟩
    split at h3
    · rename_i n
      split at h3
      · rename_i p hp
        have h3 : p.1 = n := by simpa using h3
        obtain ⟨f, q1, q2⟩ := K.fa _ p hp
        rw [h3] at q2
        exact ok_con (pe_glob (v := .ref f) (gbl_ok K h1) q1 rfl g1) fun W => .fn q2
      · cases h3
    · rename_i k
      rcases (Bool.or_eq_true _ _).mp h3 with h3 | h3
      · obtain ⟨a, q1, q2, q3⟩ := K.cls _ k (by simpa using h3)
        exact ok_con (pe_glob (v := .ref a) (gbl_ok K h1) q1 rfl g1) fun W => .tyo q3 q2
      · obtain ⟨p, hp, hb⟩ := List.any_eq_true.mp h3
        simp only [Bool.and_eq_true, decide_eq_true_eq] at hb
        obtain ⟨hb1, hb2⟩ := hb
        obtain ⟨b1, b2, b3, b4, b5⟩ := bnm_ok K hb2
        obtain ⟨q1, q2⟩ := boot_tyB (k := k) (nm := p.1) (by rw [← hb1]; exact hp)
        subst b1
        exact ok_con (pe_bltn (v := .ty p.1) b2 b3 q1 rfl b4 b5) fun W => .tyb q2
    · split at h3
      · rename_i d' hd
        have := deqC_eq h3
        subst this
        obtain ⟨v, u, q1, q2, q3⟩ := K.con _ _ hd
        exact ok_con (pe_glob (v := v) (gbl_ok K h1) q1 q2 g1) q3
      · cases h3
  · cases h
theorem g_con (d : D) : Good M C cl lv (cCon M d) (eCon d) := by
  have G : Good M C cl lv (CkR.of (fun S e => ckC M S d e)) (eCon d) := good_of fun {S X Wx e} K tk h => by
    obtain ⟨h1, h2⟩ := ckC_ok (Wx := Wx) K h
    exact both K.hK h1 h2
  refine ⟨G.e, G.ch, G.isl, fun {S X Wx p o} K tk h => ?_, fun h => ?_⟩
  · have h : (isN d && !p && o.isNone) = true := h
    simp only [Bool.and_eq_true, Bool.not_eq_true', Option.isNone_iff_eq_none] at h
    obtain ⟨⟨h1, h2⟩, h3⟩ := h
    subst h2; subst h3
    unfold isN at h1
    split at h1
    · exact .none
    · cases h1
  · have h : isT d = true := h
    unfold isT at h
    split at h
    · rfl
    · cases h
end
end Mv
end

section
set_option Elab.async false
set_option linter.all false
set_option maxRecDepth 100000
set_option maxHeartbeats 4000000
/-! CkOk2: the forms, all together. -/
namespace Mv
open PySem PySem.Spec PyProof.Rows L2
variable {M : Md} {C : Cn} {cl : Cl} {lv : Nat}
theorem noSup_ok {q : Expr} (h : noSup q = true) (f : Str) (env : PySem.Env) (w : Sem Value) : attributeBase q f env w = w := by
  unfold noSup at h
  split at h
  · rfl
  · unfold attributeBase; rfl
  · rfl
  · cases h
theorem g_o1 (o : Op1) {r : CkR} {x : EvT} (G : Good M C cl lv r x) : Good M C cl lv (cO1 M o r) (e1 o x) := by
  have base : Good M C cl lv (CkR.of (cO1 M o r).e) (e1 o x) := good_of fun {S X Wx e} K tk h => by
    unfold cO1 at h
    dsimp only [CkR.of] at h
    cases ha : isAsT o with
    | true =>
      rw [ha] at h
      have h2 := (Bool.and_eq_true _ _).mp (show (pln e && r.e S e) = true from h)
      unfold isAsT at ha
      split at ha
      · exact both K.hK (ok_asT (G.e K tk h2.2).1) h2.1
      · exact both K.hK (ok_frz (G.e K tk h2.2).1) h2.1
      · cases ha
    | false =>
    rw [ha] at h
    dsimp only [cond_false] at h
    cases hb : isSset o with
    | true =>
      rw [hb] at h
      have h2 : ckSset M r S e = true := h
      unfold ckSset at h2
      split at h2
      · simp only [Bool.and_eq_true] at h2
        obtain ⟨⟨⟨⟨q0, q1⟩, q2⟩, q3⟩, q4⟩ := h2
        obtain ⟨e1', b1, b2, b3, b4⟩ := bnm_ok K q1
        obtain ⟨e2', c1, c2, c3, c4⟩ := bnm_ok K q2
        subst e1'; subst e2'
        unfold isSset at hb
        split at hb
        · exact both K.hK (ok_sset K.hK (by rw [K.calm]; exact q0) K.hu q3 b1 b2 c1 c2 (G.e K tk q4).1) rfl
        · cases hb
      · cases h2
    | false =>
    rw [hb] at h
    dsimp only [cond_false] at h
    cases hl : isLset o with
    | true =>
      rw [hl] at h
      have h2 : ckLset M r S e = true := h
      unfold ckLset at h2
      split at h2
      · simp only [Bool.and_eq_true] at h2
        obtain ⟨⟨⟨⟨q0, q1⟩, q2⟩, q3⟩, q4⟩ := h2
        obtain ⟨e1', b1, b2, b3, b4⟩ := bnm_ok K q1
        obtain ⟨e2', c1, c2, c3, c4⟩ := bnm_ok K q2
        subst e1'; subst e2'
        unfold isLset at hl
        split at hl
        · exact both K.hK (ok_lset K.hK (by rw [K.calm]; exact q0) K.hu q3 b1 b2 c1 c2 (G.e K tk q4).1) rfl
        · cases hl
      · cases h2
    | false =>
    rw [hl] at h
    dsimp only [cond_false] at h
    cases hs : isSrk o with
    | true =>
      rw [hs] at h
      have h2 : ckSrk M r S e = true := h
      unfold ckSrk at h2
      split at h2
      · simp only [Bool.and_eq_true, decide_eq_true_eq] at h2
        obtain ⟨⟨⟨⟨⟨⟨q0, q1⟩, q2⟩, q3⟩, q4⟩, q5⟩, q6⟩ := h2
        obtain ⟨e1', b1, b2, b3, b4⟩ := bnm_ok K q2
        subst e1'; subst q3
        obtain ⟨t, ht⟩ := Option.isSome_iff_exists.mp q1
        unfold isSrk at hs
        split at hs
        · exact both K.hK (pe_srk (K.lam t ht) (lamB_ok q6) q4 K.hK ((K.room q0).mono (Nat.zero_le _)) K.hu (G.e K tk q5).1 b1 b2) rfl
        · cases hs
      · cases h2
    | false =>
    rw [hs] at h
    dsimp only [cond_false] at h
    split at h
    · split at h
      · obtain ⟨h1, _⟩ := G.e K tk h
        exact both K.hK (ok_un ok_neg h1) rfl
      · simp only [Bool.and_eq_true] at h
        obtain ⟨h1, h2⟩ := G.e K tk h.1
        exact ⟨ok_not K.hK h1, fun _ => ok_tnot K.hK (h2 h.2)⟩
      · cases h
    · simp only [Bool.and_eq_true] at h
      obtain ⟨⟨h1, h2⟩, h3⟩ := h
      obtain ⟨g, _⟩ := G.e K tk h2
      refine both K.hK ?_ rfl
      split at h3
      · obtain ⟨e1, b1, b2, b3, b4⟩ := bnm_ok K h3; subst e1; exact ok_b1 h1 (ok_len K.hK) b1 b2 boot_len g b3 b4
      · obtain ⟨e1, b1, b2, b3, b4⟩ := bnm_ok K h3; subst e1; exact ok_b1 h1 ok_abs b1 b2 boot_abs g b3 b4
      · simp only [Bool.and_eq_true] at h3; obtain ⟨e1, b1, b2, b3, b4⟩ := bnm_ok K h3.2; subst e1; exact ok_b1 h1 (ok_all K.hK (by rw [K.calm]; exact h3.1)) b1 b2 boot_all g b3 b4
      · simp only [Bool.and_eq_true] at h3; obtain ⟨e1, b1, b2, b3, b4⟩ := bnm_ok K h3.2; subst e1; exact ok_b1 h1 (ok_any K.hK (by rw [K.calm]; exact h3.1)) b1 b2 boot_any g b3 b4
      · simp only [Bool.and_eq_true] at h3; obtain ⟨e1, b1, b2, b3, b4⟩ := bnm_ok K h3.2; subst e1; exact ok_b1 h1 (ok_sum K.hK (by rw [K.calm]; exact h3.1)) b1 b2 boot_sum g b3 b4
      · obtain ⟨e1, b1, b2, b3, b4⟩ := bnm_ok K h3; subst e1; exact ok_t1 h1 ok_int b1 b2 boot_int g b3 b4
      · simp only [Bool.and_eq_true] at h3; obtain ⟨e1, b1, b2, b3, b4⟩ := bnm_ok K h3.2; subst e1; exact ok_t1 h1 (ok_lst K.hK K.hw (by rw [K.calm]; exact h3.1) _) b1 b2 boot_list g b3 b4
      · simp only [Bool.and_eq_true] at h3; obtain ⟨e1, b1, b2, b3, b4⟩ := bnm_ok K h3.2; subst e1; exact ok_t1 h1 (ok_dic K.hK K.hw (by rw [K.calm]; exact h3.1) K.hu) b1 b2 boot_dict g b3 b4
      · obtain ⟨e1, b1, b2, b3, b4⟩ := bnm_ok K h3; subst e1; exact ok_t1 h1 (ok_tup K.hK) b1 b2 boot_tuple g b3 b4
      · obtain ⟨e1, b1, b2, b3, b4⟩ := bnm_ok K h3; subst e1; exact ok_t1 h1 (ok_tpn K.hK) b1 b2 boot_tuple g b3 b4
      · simp only [Bool.and_eq_true] at h3; obtain ⟨e1, b1, b2, b3, b4⟩ := bnm_ok K h3.2; subst e1; exact ok_b1 h1 (ok_srt K.hK K.hw (by rw [K.calm]; exact h3.1) K.hu _) b1 b2 boot_sorted g b3 b4
      · simp only [Bool.and_eq_true] at h3; obtain ⟨e1, b1, b2, b3, b4⟩ := bnm_ok K h3.2; subst e1; exact ok_b1 h1 (ok_min1 K.hK (by rw [K.calm]; exact h3.1) K.hu) b1 b2 boot_min g b3 b4
      · simp only [Bool.and_eq_true] at h3; obtain ⟨e1, b1, b2, b3, b4⟩ := bnm_ok K h3.2; subst e1; exact ok_b1 h1 (ok_max1 K.hK (by rw [K.calm]; exact h3.1) K.hu) b1 b2 boot_max g b3 b4
      · cases h3
    · split at h
      · simp only [Bool.and_eq_true, decide_eq_true_eq] at h
        obtain ⟨⟨⟨h0, h1⟩, h2⟩, h3⟩ := h
        subst h0
        obtain ⟨x, e, g⟩ := G.isl K tk h3
        subst e
        exact both K.hK (ok_popm g (noSup_ok h1 _ _ _) h2) rfl
      · cases h
    · split at h
      · simp only [Bool.and_eq_true, decide_eq_true_eq] at h
        obtain ⟨h0, h1⟩ := h
        subst h0
        exact both K.hK (ok_rev K.hK (G.e K tk h1).1) rfl
      · cases h
    · cases h
  refine ⟨base.e, base.ch, fun {k S X Wx e} K tk h => ?_, fun {S X Wx p o'} K tk h => ?_, fun h => absurd h Bool.false_ne_true⟩
  · have h : (isIsl k o && r.e S e) = true := h
    simp only [Bool.and_eq_true] at h
    obtain ⟨h0, h1⟩ := h
    exact ⟨x, by rw [isIsl_ok h0], (G.e K tk h1).1⟩
  · have h : (isIch o && p && poE r S o') = true := h
    simp only [Bool.and_eq_true] at h
    obtain ⟨⟨h0, h1⟩, h2⟩ := h
    unfold isIch at h0
    split at h0
    · unfold poE at h2
      split at h2
      · subst h1
        exact .some (G.e K tk h2).1
      · cases h2
    · cases h0
theorem g_o2 (o : Op2) {r q : CkR} {x y : EvT} (G : Good M C cl lv r x) (G2 : Good M C cl lv q y) : Good M C cl lv (cO2 M o r q) (e2 M.cb o x y) := good_of fun {S X Wx e} K tk h => by
  split at h
  · split at h
    · simp only [Bool.and_eq_true, decide_eq_true_eq] at h
      obtain ⟨⟨h0, h1⟩, h2⟩ := h
      subst h0
      exact both K.hK (pe_imp (pe_op (ok_bin (C := C) K.hK _ _) (G.e K tk h1).1 (G2.e K tk h2).1) fun σ H Q q => tE_two q) rfl
    · cases h
  · split at h
    · simp only [Bool.and_eq_true, decide_eq_true_eq, Bool.not_eq_true'] at h
      obtain ⟨⟨⟨h0, h1⟩, h2⟩, h3⟩ := h
      subst h0
      obtain ⟨g1, g2⟩ := ok_c1 (Wx := Wx) K.hK K.hw K.hu M.cb (G.e K tk h1).1 (G2.e K tk h2).1 h3
      exact ⟨g1, fun _ => g2⟩
    · cases h
  · split at h
    · simp only [Bool.and_eq_true] at h
      exact both K.hK (ok_stp K.hK _ (G.e K tk h.1).1 (G2.e K tk h.2).1) rfl
    · cases h
  · split at h
    · simp only [Bool.and_eq_true] at h
      obtain ⟨⟨h0, h1⟩, h2⟩ := h
      exact both K.hK (ok_ix K.hK K.hw K.hu M.cb h0 (G.e K tk h1).1 (G2.e K tk h2).1) rfl
    · cases h
  · split at h
    · simp only [Bool.and_eq_true] at h
      obtain ⟨⟨⟨⟨⟨⟨h0, h1⟩, h2⟩, h3⟩, h4⟩, h5⟩, h6⟩ := h
      obtain ⟨e1', b1, b2, b3, b4⟩ := bnm_ok K h1
      obtain ⟨e2', c1, c2, c3, c4⟩ := bnm_ok K h2
      subst e1'; subst e2'
      exact both K.hK (ok_lrg (by rw [K.calm]; exact h0) _ h3 h4 b1 b2 c1 c2 (G.e K tk h5).1 (G2.e K tk h6).1) rfl
    · cases h
  · simp only [Bool.and_eq_true] at h
    obtain ⟨⟨⟨⟨h0, h1⟩, h2⟩, h3⟩, h4⟩ := h
    refine both K.hK ?_ rfl
    have g1 := (G.e K tk h2).1
    have g2 := (G2.e K tk h3).1
    split at h4
    · obtain ⟨e1, b1, b2, b3, b4⟩ := bnm_ok K h4; subst e1; exact ok_b2 h0 h1 (ok_isi K.hK M.cb) b1 b2 boot_isinstance g1 g2 b3 b4
    · simp only [Bool.and_eq_true] at h4; obtain ⟨e1, b1, b2, b3, b4⟩ := bnm_ok K h4.2; subst e1; exact ok_b2 h0 h1 (ok_min2 (by rw [K.calm]; exact h4.1)) b1 b2 boot_min g1 g2 b3 b4
    · simp only [Bool.and_eq_true] at h4; obtain ⟨e1, b1, b2, b3, b4⟩ := bnm_ok K h4.2; subst e1; exact ok_b2 h0 h1 (ok_max2 (by rw [K.calm]; exact h4.1)) b1 b2 boot_max g1 g2 b3 b4
    · cases h4
  · split at h
    · simp only [Bool.and_eq_true, decide_eq_true_eq] at h
      obtain ⟨⟨⟨⟨⟨h0, h1⟩, h2⟩, h3⟩, h4⟩, h5⟩ := h
      subst h0
      obtain ⟨z, ez, hz⟩ := G.isl K tk h4
      subst ez
      exact both K.hK (ok_append K.hK h2 hz (G2.e K tk h5).1 (noSup_ok h1 _ _ _) h3) rfl
    · simp only [Bool.and_eq_true, decide_eq_true_eq] at h
      obtain ⟨⟨⟨⟨⟨h0, h1⟩, h2⟩, h3⟩, h4⟩, h5⟩ := h
      subst h0
      obtain ⟨z, ez, hz⟩ := G.isl K tk h4
      subst ez
      exact both K.hK (ok_indexm K.hK K.hu h2 hz (G2.e K tk h5).1 (noSup_ok h1 _ _ _) h3) rfl
    · simp only [Bool.and_eq_true, decide_eq_true_eq] at h
      obtain ⟨⟨⟨⟨⟨h0, h1⟩, h2⟩, h3⟩, h4⟩, h5⟩ := h
      subst h0
      obtain ⟨z, ez, hz⟩ := G.isl K tk h4
      subst ez
      exact both K.hK (ok_extendm K.hK h2 hz (G2.e K tk h5).1 (noSup_ok h1 _ _ _) h3) rfl
    · simp only [Bool.and_eq_true, decide_eq_true_eq] at h
      obtain ⟨⟨⟨⟨⟨h0, h1⟩, h2⟩, h3⟩, h4⟩, h5⟩ := h
      subst h0
      obtain ⟨z, ez, hz⟩ := G.isl K tk h4
      subst ez
      exact both K.hK (ok_tixm K.hK K.hu h2 hz (G2.e K tk h5).1 (noSup_ok h1 _ _ _) h3) rfl
    · cases h
  · cases h
theorem g_on (o : Opn) {rs : List CkR} {es : EsT} (G : Goods M C cl lv rs es) : Good M C cl lv (cOn M o rs) (en o es) := good_of fun {S X Wx e} K tk h => by
  cases z : isRgv o with
  | true =>
    rw [z] at h
    have h : ckRgv M rs S e = true := h
    unfold ckRgv at h
    split at h
    · have h := (Bool.and_eq_true _ _).mp h
      obtain ⟨e1, b1, b2, b3, b4⟩ := bnm_ok K h.1
      subst e1
      obtain ⟨g1, g2⟩ := cks_ok (Wx := Wx) G K tk h.2
      unfold isRgv at z
      split at z
      · exact both K.hK (ok_rgv g2 b1 b2 g1) rfl
      · cases z
    · cases h
  | false =>
  rw [z] at h
  dsimp only [cond_false] at h
  split at h
  · split at h
    · rename_i t m
      simp only [Bool.and_eq_true] at h
      obtain ⟨⟨⟨h0, h1⟩, h2⟩, h3⟩ := h
      obtain ⟨e1, b1, b2, b3, b4⟩ := bnm_ok K h1
      obtain ⟨e2, c1, c2, c3, c4⟩ := bnm_ok K h2
      subst e1; subst e2
      obtain ⟨g1, g2⟩ := cks_ok (Wx := Wx) G K tk h3
      exact both K.hK (ok_rgs (by rw [K.calm]; exact h0) t m g2 b1 b2 c1 c2 g1) rfl
    · cases h
  · split at h
    · split at h
      · simp only [Bool.and_eq_true, decide_eq_true_eq] at h
        obtain ⟨⟨⟨⟨⟨⟨⟨⟨⟨⟨k1, k2⟩, k3⟩, k4⟩, k5⟩, k6⟩, k7⟩, k8⟩, k9⟩, k10⟩, k11⟩ := h
        subst k1
        have k4 := (beq_true_iff _ _).mp k4
        have k5 := (blt_iff _ _).mp k5
        have k6 := Nat.le_of_ble_eq_true k6
        cases G with | cons ga G =>
        cases G with | cons gb G =>
        cases G
        exact both K.hK (ok_dge K.hu k2 k3 k4 (fun z => by rw [z] at k5; simp at k5) k6 k8 k9 k7 (ga.e K tk k10).1 (gb.e K tk k11).1) rfl
      · cases h
    · cases h
  · split at h
    · split at h
      · cases G
        exact both K.hK (ok_dct0 K.hw) rfl
      · cases h
    · cases h
  · split at h
    · split at h
      · have h := (Bool.and_eq_true _ _).mp h
        cases G with | cons ga G =>
        cases G with | cons gb G =>
        cases G
        exact both K.hK (ok_dsp K.hw K.hu (ga.e K tk h.1).1 (gb.e K tk h.2).1) rfl
      · cases h
    · cases h
  · split at h
    · exact both K.hK (ok_tupd (cks_ok G K tk h).1) rfl
    · cases h
  · split at h
    · exact both K.hK (ok_lstd (cks_ok G K tk h).1) rfl
    · cases h
  · split at h
    · split at h
      · simp only [Bool.and_eq_true] at h
        obtain ⟨⟨h0, h1⟩, h2⟩ := h
        cases G with | cons ga G =>
        cases G with | cons gl G =>
        cases G with | cons gh G =>
        cases G
        exact both K.hK (ok_slice K.hK (ga.e K tk h0).1 (gl.po K tk h1) (gh.po K tk h2)) rfl
      · cases h
    · cases h
  · split at h
    · split at h
      · simp only [Bool.and_eq_true] at h
        obtain ⟨⟨⟨h0, h1⟩, h2⟩, h3⟩ := h
        cases G with | cons ga G =>
        cases G with | cons gl G =>
        cases G with | cons gh G =>
        cases G with | cons gs G =>
        cases G
        exact both K.hK (ok_sls K.hK (ga.e K tk h0).1 (gl.po K tk h1) (gh.po K tk h2) (gs.e K tk h3).1) rfl
      · cases h
    · cases h
  · cases h
theorem g_ife {c a b : CkR} {x y z : EvT} (Gc : Good M C cl lv c x) (Ga : Good M C cl lv a y) (Gb : Good M C cl lv b z) : Good M C cl lv (cIfe c a b) (eIf x y z) := good_of fun {S X Wx e} K tk h => by
  split at h
  · simp only [Bool.and_eq_true] at h
    obtain ⟨⟨⟨h0, h1⟩, h2⟩, h3⟩ := h
    exact ⟨ok_if ((Gc.e K tk h1).2 h0) (Ga.e K tk h2).1 (Gb.e K tk h3).1, fun q => by cases q⟩
  · cases h
noncomputable def eBo (o : BoolOp) (x y : EvT) : EvT := match o with | .And => eAnd x y | .Or => eOr x y
theorem chBo_ok {o : BoolOp} {a b : CkR} {x y : EvT} (Ga : Good M C cl lv a x) (Gb : Good M C cl lv b y) {S : Sc} {X : Cx} {Wx : WX} {p : Expr} {p2 : Expr} {ps : List Expr} {pos : Pos} (K : XOk M C cl lv S X) (tk : Takes X Wx) (h0 : nif p = true) (h1 : a.e S p = true) (h2 : b.ch S o (p2 :: ps) = true) :
    PE X (.BoolOp o (p :: p2 :: ps) pos) (tE C Wx (eBo o x y)) ∧ PW X (.BoolOp o (p :: p2 :: ps) pos) (tT C Wx (eBo o x y)) := by
  obtain ⟨g1, g2⟩ := Ga.e (Wx := Wx) K tk h1
  obtain ⟨g3, g4⟩ := Gb.ch (Wx := Wx) (pos := pos) K tk h2
  cases o
  · exact ⟨ok_and K.hK g1 g3, ok_tand K.hK (g2 h0) g4⟩
  · exact ⟨ok_or K.hK g1 g3, ok_tor K.hK (g2 h0) g4⟩
theorem g_bo (o : BoolOp) {a b : CkR} {x y : EvT} (Ga : Good M C cl lv a x) (Gb : Good M C cl lv b y) : Good M C cl lv (cBo o a b) (eBo o x y) := by
  have base : Good M C cl lv (CkR.of (cBo o a b).e) (eBo o x y) := good_of fun {S X Wx e} K tk h => by
    unfold cBo at h
    dsimp only [CkR.of] at h
    split at h
    · simp only [Bool.and_eq_true, decide_eq_true_eq] at h
      obtain ⟨⟨⟨h0, h1⟩, h2⟩, h3⟩ := h
      subst h0
      obtain ⟨g1, g2⟩ := chBo_ok (Wx := Wx) Ga Gb K tk h1 h2 h3
      exact ⟨g1, fun _ => g2.pt⟩
    · cases h
  refine ⟨base.e, fun {S X Wx o' es pos} K tk h => ?_, fun {k S X Wx e} K tk h => absurd h Bool.false_ne_true, fun {S X Wx p o'} K tk h => absurd h Bool.false_ne_true, fun h => absurd h Bool.false_ne_true⟩
  have h : chBo (cBo o a b).e o a b S o' es = true := h
  unfold chBo at h
  split at h
  · simp only [Bool.and_eq_true] at h
    obtain ⟨g1, g2⟩ := base.e K tk h.2
    exact one_ch g1 (g2 h.1)
  · simp only [Bool.and_eq_true, decide_eq_true_eq] at h
    obtain ⟨⟨⟨h0, h1⟩, h2⟩, h3⟩ := h
    subst h0
    exact chBo_ok Ga Gb K tk h1 h2 h3
  · cases h
theorem g_ch2 (o p : COp) {a b c : CkR} {x y z : EvT} (Ga : Good M C cl lv a x) (Gb : Good M C cl lv b y) (Gc : Good M C cl lv c z) : Good M C cl lv (cCh2 o p a b c) (eCh2 o p x y z) := good_of fun {S X Wx e} K tk h => by
  split at h
  · simp only [Bool.and_eq_true, decide_eq_true_eq, Bool.not_eq_true'] at h
    obtain ⟨⟨⟨⟨⟨h0, h1⟩, h2⟩, h3⟩, h4⟩, h5⟩ := h
    subst h0; subst h1
    obtain ⟨g1, g2⟩ := ok_chain (Ga.e K tk h2).1 (pch_cons K.hK K.hw K.hu (Gb.e K tk h3).1 (pch_last K.hK K.hw K.hu (Gc.e K tk h4).1)) h5
    exact ⟨g1, fun _ => g2⟩
  · cases h
theorem g_ch3 (o p q : COp) {a b c d : CkR} {x y z w : EvT} (Ga : Good M C cl lv a x) (Gb : Good M C cl lv b y) (Gc : Good M C cl lv c z) (Gd : Good M C cl lv d w) : Good M C cl lv (cCh3 o p q a b c d) (eCh3 o p q x y z w) := good_of fun {S X Wx e} K tk h => by
  split at h
  · simp only [Bool.and_eq_true, decide_eq_true_eq, Bool.not_eq_true'] at h
    obtain ⟨⟨⟨⟨⟨⟨⟨h0, h1⟩, h2⟩, h3⟩, h4⟩, h5⟩, h6⟩, h7⟩ := h
    subst h0; subst h1; subst h2
    obtain ⟨g1, g2⟩ := ok_chain (Ga.e K tk h3).1 (pch_cons K.hK K.hw K.hu (Gb.e K tk h4).1 (pch_cons K.hK K.hw K.hu (Gc.e K tk h5).1 (pch_last K.hK K.hw K.hu (Gd.e K tk h6).1))) h7
    exact ⟨g1, fun _ => g2⟩
  · cases h
theorem g_call (f : Nat) {rs : List CkR} {es : EsT} (G : Goods M C cl lv rs es) : Good M C cl lv (cCall M f rs) (eCall cl f es) := good_of fun {S X Wx e} K tk h => by
  split at h
  · simp only [Bool.and_eq_true, Option.isNone_iff_eq_none] at h
    obtain ⟨⟨⟨⟨⟨h0, h1⟩, h2⟩, h3⟩, h4⟩, h6⟩ := h
    split at h0
    · rename_i p hp
      simp only [Bool.and_eq_true, decide_eq_true_eq] at h0
      obtain ⟨h0, h5⟩ := h0
      subst h0
      obtain ⟨fa, fd, F, q1, q2, q3⟩ := K.fn h4 _ p hp
      obtain ⟨o1, o2, o3⟩ := okn_ok h2
      rename_i g' _ xs _ _
      cases xs with
      | nil =>
        have : rs = [] := by
          unfold cks at h6
          cases rs with
          | nil => rfl
          | cons => cases h6
        subst this
        cases G
        have hps : p.2 = [] := by simpa using h5
        refine both K.hK ?_ rfl
        exact pe_imp (ok_callK (Wx := Wx) (ks := []) (p := []) (as := []) (bs := []) (xs := []) (kws := []) F (K.room h3) (gbl_ok K h1) q1 q2 q3 tk rfl rfl rfl ok_nil ok_knil rfl (by rw [hps]; rfl) o1) fun σ H Q q => q
      | cons x xs =>
        obtain ⟨g1, g2⟩ := cks_ok (Wx := Wx) G K tk h6
        exact both K.hK (ok_call F (K.room h3) (gbl_ok K h1) q1 q2 (q3.binds _) tk g2 g1 o1) rfl
    · cases h0
  · cases h
/-- the terms one by one -/
inductive GoodL (M : Md) (C : Cn) (cl : Cl) (lv : Nat) : List CkR → List EvT → Prop
  | nil : GoodL M C cl lv [] []
  | cons {r : CkR} {rs : List CkR} {x : EvT} {xs : List EvT} (h : Good M C cl lv r x) (t : GoodL M C cl lv rs xs) : GoodL M C cl lv (r :: rs) (x :: xs)
theorem goodsL {rs : List CkR} {es : EsT} (G : Goods M C cl lv rs es) : ∃ xs : List EvT, es = xs.foldr esC esN ∧ GoodL M C cl lv rs xs := by
  induction G with
  | nil => exact ⟨[], rfl, .nil⟩
  | cons h _ ih => obtain ⟨xs, e, g⟩ := ih; exact ⟨_ :: xs, by rw [e]; rfl, .cons h g⟩
theorem GoodL.goods {rs : List CkR} {xs : List EvT} (G : GoodL M C cl lv rs xs) : Goods M C cl lv rs (xs.foldr esC esN) := by
  induction G with
  | nil => exact .nil
  | cons h _ ih => exact .cons h ih
theorem GoodL.split {rs : List CkR} {xs : List EvT} (G : GoodL M C cl lv rs xs) : ∀ n, GoodL M C cl lv (rs.take n) (xs.take n) ∧ GoodL M C cl lv (rs.drop n) (xs.drop n) := by
  induction G with
  | nil => intro n; simp; exact .nil
  | cons h _ ih =>
    intro n
    cases n with
    | zero => exact ⟨.nil, .cons h (by simpa using (ih 0).2)⟩
    | succ n => exact ⟨.cons h (ih n).1, (ih n).2⟩
theorem GoodL.length {rs : List CkR} {xs : List EvT} (G : GoodL M C cl lv rs xs) : rs.length = xs.length := by
  induction G with
  | nil => rfl
  | cons _ _ ih => simp [ih]
theorem foldr_app : ∀ as bs : List EvT, (as ++ bs).foldr esC esN = esApp (as.foldr esC esN) (bs.foldr esC esN)
  | [], bs => by
    funext e s
    show _ = ((Rs.ok [] s).bns fun ds s => ((bs.foldr esC esN) e s).bns fun es s => .ok (ds ++ es) s)
    show (bs.foldr esC esN) e s = ((bs.foldr esC esN) e s).bns fun es s => .ok ([] ++ es) s
    cases (bs.foldr esC esN) e s <;> rfl
  | a :: as, bs => by
    have ih := foldr_app as bs
    funext e s
    show esC a ((as ++ bs).foldr esC esN) e s = ((esC a (as.foldr esC esN) e s).bns fun ds s => ((bs.foldr esC esN) e s).bns fun es s => .ok (ds ++ es) s)
    rw [ih]
    unfold esC esApp
    cases a e s with
    | ok d s1 =>
      show ((((as.foldr esC esN) e s1).bns _).bns _) = ((((as.foldr esC esN) e s1).bns _).bns _)
      cases (as.foldr esC esN) e s1 with
      | ok ds s2 =>
        show ((((bs.foldr esC esN) e s2).bns _).bns _) = (((bs.foldr esC esN) e s2).bns _)
        cases (bs.foldr esC esN) e s2 <;> rfl
      | exc c p s2 => rfl
      | bad n => rfl
    | exc c p s1 => rfl
    | bad n => rfl
theorem cks_len {S : Sc} : ∀ {rs : List CkR} {xs : List Expr}, cks S rs xs = true → rs.length = xs.length
  | [], xs, h => by unfold cks at h; cases xs with | nil => rfl | cons => cases h
  | r :: rs, xs, h => by
    unfold cks at h
    cases xs with
    | nil => cases h
    | cons x xs =>
      simp only [Bool.and_eq_true] at h
      simp [cks_len h.2]
theorem ckKw_ok {rs : List CkR} {bs : List EvT} (G : GoodL M C cl lv rs bs) : ∀ {S : Sc} {X : Cx} {Wx : WX} {kws : List Keyword}, XOk M C cl lv S X → Takes X Wx → ckKw S rs kws = true → PK X kws (tA C Wx (bs.foldr esC esN)) ∧ rs.length = kws.length := by
  induction G with
  | nil =>
    intro S X Wx kws K tk h
    unfold ckKw at h
    cases kws with
    | nil => exact ⟨ok_knil, rfl⟩
    | cons => cases h
  | cons hg _ ih =>
    intro S X Wx kws K tk h
    unfold ckKw at h
    cases kws with
    | nil => cases h
    | cons k kws =>
      simp only [Bool.and_eq_true] at h
      obtain ⟨g1, g2⟩ := ih K tk h.2
      obtain ⟨nm, v, kp⟩ := k
      exact ⟨ok_kcons (hg.e K tk h.1).1 g1, by simp [g2]⟩
theorem g_callk (f : Nat) (p : List Nat) {rs : List CkR} {es : EsT} (G : Goods M C cl lv rs es) : Good M C cl lv (cCallK M f p rs) (eCallK cl f p es) := good_of fun {S X Wx e} K tk h => by
  split at h
  · rename_i g xp xs kws pos
    simp only [Bool.and_eq_true, Option.isNone_iff_eq_none] at h
    obtain ⟨⟨⟨⟨⟨⟨⟨h0, h1⟩, h2⟩, h3⟩, h4⟩, h5⟩, h6⟩, h7⟩ := h
    split at h7
    · rename_i q hq
      simp only [Bool.and_eq_true, decide_eq_true_eq] at h7
      obtain ⟨h7, h8⟩ := h7
      subst h7
      obtain ⟨fa, fd, F, q1, q2, q3⟩ := K.fn h3 _ q hq
      obtain ⟨o1, o2, o3⟩ := okn_ok h1
      obtain ⟨ts, e, GL⟩ := goodsL G
      subst e
      obtain ⟨G1, G2⟩ := GL.split xs.length
      obtain ⟨g1, g2⟩ := cks_ok (Wx := Wx) G1.goods K tk h5
      obtain ⟨g3, g4⟩ := ckKw_ok (Wx := Wx) G2 K tk h6
      have hks : kws.map (fun k => k.arg) = (kws.filterMap fun k => k.arg).map some := by
        clear h8 g3 g4 h6 q3
        induction kws with
        | nil => rfl
        | cons k kws ih =>
          simp only [List.all_cons, Bool.and_eq_true] at h4
          obtain ⟨x, hx⟩ := Option.isSome_iff_exists.mp h4.1
          rw [List.map_cons, List.filterMap_cons, hx, List.map_cons, ih h4.2]
      have hsp : ts.foldr esC esN = esApp ((ts.take xs.length).foldr esC esN) ((ts.drop xs.length).foldr esC esN) := by rw [← foldr_app, List.take_append_drop]
      rw [hsp]
      exact both K.hK (ok_callK F (K.room h2) (gbl_ok K h0) q1 q2 q3 tk g2 (by rw [← G1.length]; exact cks_len h5) (by rw [← G2.length]; exact g4) g1 g3 hks h8 o1) rfl
    · cases h7
  · cases h
theorem g_callv {a : CkR} {x : EvT} {rs : List CkR} {es : EsT} (Ga : Good M C cl lv a x) (G : Goods M C cl lv rs es) : Good M C cl lv (cCallV a rs) (eCallV cl x es) := good_of fun {S X Wx e} K tk h => by
  split at h
  · rename_i fe xs pos
    simp only [Bool.and_eq_true, Option.isNone_iff_eq_none] at h
    obtain ⟨⟨⟨⟨h0, h1⟩, h2⟩, h3⟩, h4⟩ := h
    obtain ⟨g1, g2⟩ := cks_ok (Wx := Wx) G K tk h4
    have hev : eval (.Call fe xs [] pos) X.env = (do
        let f ← eval fe X.env
        callWith pos f [] (backTo pos (starEach xs X.env)) (backToKw pos (keywordEach [] X.env))) := by
      unfold calB at h0
      split at h0
      · rfl
      · rfl
      · cases h0
    exact both K.hK (ok_callV hev (Ga.e K tk h3).1 (K.room h1) (K.fv h2) tk g2 g1) rfl
  · cases h
theorem g_fld (k i : Nat) : Good M C cl lv (cFld M k i) (eFld k i) := good_of fun {S X Wx e} K tk h => by
  split at h
  · simp only [Bool.and_eq_true, decide_eq_true_eq] at h
    obtain ⟨⟨⟨⟨h0, h1⟩, h2⟩, h3⟩, h4⟩ := h
    subst h4
    exact both K.hK (K.fld Wx i k _ _ _ h3 h0 h1 h2) rfl
  · cases h
theorem g_isx (i k : Nat) : Good M C cl lv (cIsx M i k) (eIsx M.cb i k) := good_of fun {S X Wx e} K tk h => by
  split at h
  · simp only [Bool.and_eq_true, decide_eq_true_eq, Bool.or_eq_true] at h
    obtain ⟨⟨⟨⟨⟨⟨⟨h0, h1⟩, h2⟩, h3⟩, h4⟩, h5⟩, h6⟩, h7⟩ := h
    exact both K.hK (K.isx Wx i k _ _ _ _ _ _ _ h4 h1 h2 h3 h0 h5 h6 (by rcases h7 with (h7 | h7) | h7 <;> simp [h7])) rfl
  · cases h
theorem g_slp (i : Nat) : Good M C cl lv (cSlp M i) (eSlp M.cb i) := good_of fun {S X Wx e} K tk h => by
  split at h
  · simp only [Bool.and_eq_true, decide_eq_true_eq] at h
    obtain ⟨⟨⟨⟨⟨⟨h0, h1⟩, h2⟩, h3⟩, h4⟩, h5⟩, h6⟩ := h
    exact both K.hK (K.slp Wx i _ _ _ _ _ h3 h0 h1 h2 h4 h5 h6) rfl
  · cases h
/-! ### targets, walks, comprehensions -/
section
variable {S : Sc} {X : Cx} (K : XOk M C cl lv S X)
include K
mutual
theorem ckTg_ok : ∀ (t : Tg) (e : Expr), ckTg S t e = true → PG X e (tG C t)
  | .nm i, e, h => by
    unfold ckTg at h
    split at h
    · simp only [Bool.and_eq_true, decide_eq_true_eq, Bool.not_eq_true', decide_eq_false_iff_not] at h
      obtain ⟨⟨h0, h1⟩, h2⟩ := h
      have hE : ∀ x, C.er = some x → i ≠ x.i := fun x q z => h2 (by rw [← K.er, q, z]; rfl)
      split at h1
      · rename_i hl
        have hl' := hl
        rw [← K.sc] at hl'
        exact ok_gname K.nd (by rw [K.N]; exact h0) (.inl hl') (.inr hl') hE
      · rename_i hl
        rw [← K.sc] at hl
        exact ok_gname K.nd (by rw [K.N]; exact h0) (.inr hl) (.inl (K.sf _ h1)) hE
      · cases h1
    · cases h
  | .tp ts, e, h => by
    unfold ckTg at h
    split at h
    · simp only [Bool.and_eq_true] at h
      obtain ⟨⟨h0, h1⟩, h2⟩ := h
      obtain ⟨g1, g2⟩ := ckTgs_ok ts _ h2 h1
      exact ok_gtup K.hK (by rw [K.calm]; exact h0) h1 g2 g1
    · cases h
theorem ckTgs_ok : ∀ (ts : List Tg) (es : List Expr), ckTgs S ts es = true → es.all nst = true → PGs X es (tGs C ts) ∧ es.length = ts.length
  | [], es, h, hn => by
    unfold ckTgs at h
    cases es with
    | nil => exact ⟨ok_gnil, rfl⟩
    | cons => cases h
  | t :: ts, es, h, hn => by
    unfold ckTgs at h
    cases es with
    | nil => cases h
    | cons e es =>
      simp only [Bool.and_eq_true] at h
      have hn := (Bool.and_eq_true _ _).mp (show (nst e && es.all nst) = true from hn)
      obtain ⟨g1, g2⟩ := ckTgs_ok ts es h.2 hn.2
      exact ⟨ok_gcons hn.1 (ckTg_ok t e h.1) g1, by rw [List.length_cons, List.length_cons, g2]⟩
end
end
theorem cWo_ok {S : Sc} {X : Cx} {Wx : WX} (K : XOk M C cl lv S X) (tk : Takes X Wx) {k : Wk} {rs : List CkR} {es : EsT} {tg e : Expr} (G : Goods M C cl lv rs es) (h : cWo M S k rs tg e = true) : PI X tg e (tI C Wx k es) := by
  unfold cWo at h
  split at h
  · cases G with | cons ga G =>
    cases G
    split at h
    · exact ok_wval K.hK (ga.e K tk h).1
    · split at h
      · simp only [Bool.and_eq_true] at h
        obtain ⟨⟨h0, h1⟩, h2⟩ := h
        obtain ⟨e1, b1, b2, b3, b4⟩ := bnm_ok K h0; subst e1
        exact ok_wrng1 b1 b2 h1 (ga.e K tk h2).1
      · cases h
    · split at h
      · simp only [Bool.and_eq_true] at h
        obtain ⟨⟨⟨h0, h1⟩, h2⟩, h3⟩ := h
        obtain ⟨e1, b1, b2, b3, b4⟩ := bnm_ok K h0; subst e1
        unfold tupT at h1
        split at h1
        · exact ok_wenum K.hK b1 b2 h2 (ga.e K tk h3).1
        · cases h1
      · cases h
    · cases h
    · cases h
  · cases G with | cons ga G =>
    cases G with | cons gb G =>
    cases G
    split at h
    · simp only [Bool.and_eq_true] at h
      obtain ⟨⟨⟨⟨h0, h1⟩, h2⟩, h3⟩, h4⟩ := h
      split at h4
      · obtain ⟨e1, b1, b2, b3, b4⟩ := bnm_ok K h4; subst e1
        exact ok_wrng2 b1 b2 h0 h1 (ga.e K tk h2).1 (gb.e K tk h3).1
      · simp only [Bool.and_eq_true] at h4
        obtain ⟨e1, b1, b2, b3, b4⟩ := bnm_ok K h4.1; subst e1
        have h5 := h4.2
        unfold tupT at h5
        split at h5
        · exact ok_wzip K.hK b1 b2 h0 h1 (ga.e K tk h2).1 (gb.e K tk h3).1
        · cases h5
      · cases h4
    · cases h
  · cases G with | cons ga G =>
    cases G with | cons gb G =>
    cases G with | cons gc G =>
    cases G
    split at h
    · simp only [Bool.and_eq_true] at h
      obtain ⟨⟨⟨⟨⟨⟨h0, h1⟩, h2⟩, h3⟩, h4⟩, h5⟩, h6⟩ := h
      split at h6
      · obtain ⟨e1, b1, b2, b3, b4⟩ := bnm_ok K h6; subst e1
        exact ok_wrng3 b1 b2 h0 h1 h2 (ga.e K tk h3).1 (gb.e K tk h4).1 (gc.e K tk h5).1
      · cases h6
    · cases h
  · cases h
theorem cW_ok {S : Sc} {X : Cx} {Wx : WX} (K : XOk M C cl lv S X) (tk : Takes X Wx) {k : Wk} {rs : List CkR} {es : EsT} {tg e : Expr} (G : Goods M C cl lv rs es) (h : cW M S k rs tg e = true) : PI X tg e (tI C Wx k es) := by
  unfold cW at h
  cases z : isEnr k with
  | false => rw [z] at h; exact cWo_ok K tk G h
  | true =>
    rw [z] at h
    have h : cWr M S rs tg e = true := h
    unfold cWr at h
    split at h
    · simp only [Bool.and_eq_true] at h
      obtain ⟨⟨⟨h0, h1⟩, h2⟩, h3⟩ := h
      obtain ⟨e1, b1, b2, b3, b4⟩ := bnm_ok K h0; subst e1
      obtain ⟨e2, c1, c2, c3, c4⟩ := bnm_ok K h1; subst e2
      obtain ⟨g1, g2⟩ := cks_ok (Wx := Wx) G K tk h3
      unfold isEnr at z
      split at z
      · unfold tupT at h2
        split at h2
        · exact ok_wenr b1 b2 c1 c2 g2 g1
        · cases h2
      · cases z
    · cases h
theorem noSet_ok {e : Expr} (h : noSet e = true) (env : PySem.Env) (x : Value) : foldedSetIterable e env x = pure x := by
  cases e <;> first | rfl | cases h
theorem cIf_ok {S : Sc} {X : Cx} {Wx : WX} (K : XOk M C cl lv S X) (tk : Takes X Wx) {r : CkR} {x : EvT} {ifs : List Expr} (G : Good M C cl lv r x) (h : cIf S r ifs = true) : PTs X ifs (tT C Wx x) := by
  unfold cIf at h
  split at h
  · simp only [Bool.and_eq_true] at h
    exact pts_one ((G.e K tk h.2).2 h.1)
  · have := G.tt h
    subst this
    refine ⟨fun pins s σ H Q I q => pts_nil.run pins s σ H Q I ?_⟩
    obtain ⟨W, e, s', S', SE, b, hb, q⟩ := q
    cases hb
    exact q W H (.refl _) S'
  · cases h
/-- inside a comprehension -/
theorem XOk.blk {S : Sc} {X : Cx} (K : XOk M C cl lv S X) (hc : S.calm = true) (he : S.er = none) (scope : Scope) (s : Shared) (H : Hp) (A : Addr) (c : List (Str × Addr)) (fp : List Addr) : XOk M C cl lv (inner S scope) (X.blk s H scope (compEnvC scope c A X.env) fp) where
  hK := K.hK
  hw := K.hw
  hu := K.hu
  N := K.N
  nd := K.nd
  sc := by show relabel scope X.env = relS scope S.sc; rw [← K.sc]; rfl
  sf := fun x h => h
  calm := K.calm
  er := by rw [K.er]; exact he
  room := K.room
  fn := fun _ => K.fn he
  fv := fun _ => K.fv he
  fa := K.fa
  con := K.con
  cls := K.cls
  nog := K.nog
  fld := fun Wx i k x xp pos h => by cases h
  lam := fun t ht => by cases ht
  isx := fun Wx i k x f y fp xp yp pos h => by cases h
  slp := fun Wx i x g gp xp pos h => by cases h
theorem all_mem {l vs : List Nat} (h : l.all (fun j => vs.contains j) = true) : ∀ j ∈ l, j ∈ vs := fun j hj => by
  have := List.all_eq_true.mp h j hj
  simpa using this
theorem lc_ok {vs : List Nat} {t : Tg} {k : Wk} {rs : List CkR} {es : EsT} {c a : CkR} {x y : EvT} (Ges : Goods M C cl lv rs es) (Gc : Good M C cl lv c x) (Ga : Good M C cl lv a y) {S : Sc} {X : Cx} {Wx : WX} {e : Expr} (K : XOk M C cl lv S X) (tk : Takes X Wx) (h : (cLc M vs t k rs c a).e S e = true) :
    ∃ elt tg iter ifs scope pos, e = .ListComp elt [⟨tg, iter, ifs, 0⟩] scope pos ∧ LcOk X C Wx elt tg iter ifs scope (ownOf S vs) vs t k es x y := by
  unfold cLc at h
  dsimp only [CkR.of] at h
  split at h
  · simp only [Bool.and_eq_true, decide_eq_true_eq, Option.isNone_iff_eq_none] at h
    obtain ⟨⟨⟨⟨⟨⟨⟨⟨⟨⟨h0, h1⟩, h2⟩, h3⟩, h4⟩, h5⟩, h6⟩, h7⟩, h8⟩, h9⟩, h10⟩ := h
    subst h2
    have hE : C.er = none := by
      have := K.er; rw [h1] at this
      exact Option.map_eq_none_iff.mp this
    have KB := fun scope s H A cl' fp => K.blk h0 h1 scope s H A cl' fp
    exact ⟨_, _, _, _, _, _, rfl, ⟨hE, by rw [K.calm]; exact h0, K.nd, cW_ok K tk Ges h4, by rw [K.N, K.sc]; exact blkOk_by h5, fun s H A cl' fp => ckTg_ok (KB _ s H A cl' fp) t _ h8, fun s H A cl' fp => cIf_ok (KB _ s H A cl' fp) takes0 Gc h9, fun s H A cl' fp => (Ga.e (KB _ s H A cl' fp) takes0 h10).1, fun x => noSet_ok h3 _ x, h6, all_mem h7⟩⟩
  · cases h
theorem g_lc {m : Bool} {vs : List Nat} {t : Tg} {k : Wk} {rs : List CkR} {es : EsT} {c a : CkR} {x y : EvT} (Ges : Goods M C cl lv rs es) (Gc : Good M C cl lv c x) (Ga : Good M C cl lv a y) : Good M C cl lv (cLc M vs t k rs c a) (eLc m vs t k es x y) := good_of fun {S X Wx e} K tk h => by
  obtain ⟨elt, tg, iter, ifs, scope, pos, e, L⟩ := lc_ok (Wx := Wx) Ges Gc Ga K tk h
  subst e
  exact both K.hK (ok_lc L) rfl
theorem lc2_ok {vs0 vs : List Nat} {t0 t : Tg} {k0 k : Wk} {rs0 rs : List CkR} {es0 es : EsT} {c a : CkR} {x y : EvT} (Ges0 : Goods M C cl lv rs0 es0) (Ges : Goods M C cl lv rs es) (Gc : Good M C cl lv c x) (Ga : Good M C cl lv a y) {S : Sc} {X : Cx} {Wx : WX} {e : Expr} (K : XOk M C cl lv S X) (tk : Takes X Wx) (h : (cLc2 M vs0 t0 k0 rs0 vs t k rs c a).e S e = true) :
    ∃ elt tg iter tg1 iter1 ifs scope pos, e = .ListComp elt [⟨tg, iter, [], 0⟩, ⟨tg1, iter1, ifs, 0⟩] scope pos ∧ LcOk2 X C Wx elt tg iter tg1 iter1 ifs scope (ownOf S vs0) vs0 t0 k0 es0 vs t k es x y := by
  unfold cLc2 at h
  dsimp only [CkR.of] at h
  split at h
  · simp only [Bool.and_eq_true, decide_eq_true_eq, Option.isNone_iff_eq_none] at h
    obtain ⟨⟨⟨⟨⟨⟨⟨⟨⟨⟨⟨⟨⟨⟨⟨⟨h0, h1⟩, h2⟩, h2'⟩, h3⟩, h3'⟩, h4⟩, h5⟩, h6⟩, h7⟩, h7'⟩, h7''⟩, h8⟩, h8'⟩, h8''⟩, h9⟩, h10⟩ := h
    subst h2; subst h2'
    have hE : C.er = none := by
      have := K.er; rw [h1] at this
      exact Option.map_eq_none_iff.mp this
    have KB := fun scope s H A cl' fp => K.blk h0 h1 scope s H A cl' fp
    exact ⟨_, _, _, _, _, _, _, _, rfl, ⟨hE, by rw [K.calm]; exact h0, K.nd, cW_ok K tk Ges0 h4, by rw [K.N, K.sc]; exact blkOk_by h5, all_mem h7'', fun s H A cl' fp => ckTg_ok (KB _ s H A cl' fp) t0 _ h8, fun s H A cl' fp => cW_ok (KB _ s H A cl' fp) takes0 Ges h8', fun s H A cl' fp => ckTg_ok (KB _ s H A cl' fp) t _ h8'', fun s H A cl' fp => cIf_ok (KB _ s H A cl' fp) takes0 Gc h9,
      fun s H A cl' fp => (Ga.e (KB _ s H A cl' fp) takes0 h10).1, fun x => noSet_ok h3' _ x, fun env x => noSet_ok h3 env x, h6, all_mem h7, all_mem h7'⟩⟩
  · cases h
theorem g_lc2 {m : Bool} {vs0 vs : List Nat} {t0 t : Tg} {k0 k : Wk} {rs0 rs : List CkR} {es0 es : EsT} {c a : CkR} {x y : EvT} (Ges0 : Goods M C cl lv rs0 es0) (Ges : Goods M C cl lv rs es) (Gc : Good M C cl lv c x) (Ga : Good M C cl lv a y) : Good M C cl lv (cLc2 M vs0 t0 k0 rs0 vs t k rs c a) (eLc2 m vs0 t0 k0 es0 vs t k es x y) := good_of fun {S X Wx e} K tk h => by
  obtain ⟨elt, tg, iter, tg1, iter1, ifs, scope, pos, e, L⟩ := lc2_ok (Wx := Wx) Ges0 Ges Gc Ga K tk h
  subst e
  exact both K.hK (ok_lc2 L) rfl
/-! ### all terms -/
def Gd (M : Md) (C : Cn) (cl : Cl) (lv : Nat) (x : Ex) : Prop := Good M C cl lv (ck M x) (den M.cb cl x)
noncomputable def ckr (M : Md) : List Ex → List CkR := Ex.rec_1 (motive_1 := fun _ => CkR) (motive_2 := fun _ => List CkR) cVar (cCon M) (fun o _ r => cO1 M o r) (fun o _ _ r q => cO2 M o r q) (fun o _ r => cOn M o r)
  (fun _ _ _ r q u => cIfe r q u) (fun _ _ r q => cBo .And r q) (fun _ _ r q => cBo .Or r q) (fun o p _ _ _ r q u => cCh2 o p r q u) (fun o p q _ _ _ _ r u v w => cCh3 o p q r u v w)
  (fun _ vs t k _ _ _ r q u => cLc M vs t k r q u) (fun _ vs0 t0 k0 _ vs t k _ _ _ r q u v => cLc2 M vs0 t0 k0 r vs t k q u v)
  (fun f _ r => cCall M f r) (fun f p _ r => cCallK M f p r) (fun _ _ r q => cCallV r q) (fun k i => cFld M k i) (fun i k => cIsx M i k) (fun i => cSlp M i)
  [] (fun _ _ r q => r :: q)
theorem ckr_map (M : Md) : ∀ es : List Ex, ckr M es = es.map (ck M)
  | [] => rfl
  | a :: r => by show ck M a :: ckr M r = ck M a :: r.map (ck M); rw [ckr_map M r]
theorem good (x : Ex) : Good M C cl lv (ck M x) (den M.cb cl x) :=
  Ex.rec (motive_1 := fun x => Good M C cl lv (ck M x) (den M.cb cl x)) (motive_2 := fun es => Goods M C cl lv (ckr M es) (denr M.cb cl es))
    (fun i => g_var i) (fun d => g_con d) (fun o _ r => g_o1 o r) (fun o _ _ r q => g_o2 o r q) (fun o _ r => g_on o r)
    (fun _ _ _ r q u => g_ife r q u) (fun _ _ r q => g_bo .And r q) (fun _ _ r q => g_bo .Or r q) (fun o p _ _ _ r q u => g_ch2 o p r q u) (fun o p q' _ _ _ _ r u v w => g_ch3 o p q' r u v w)
    (fun _ vs t k _ _ _ r q u => g_lc r q u) (fun _ vs0 t0 k0 _ vs t k _ _ _ r q u v => g_lc2 r q u v)
    (fun f _ r => g_call f r) (fun f p _ r => g_callk f p r) (fun _ _ r q => g_callv r q) (fun k i => g_fld k i) (fun i k => g_isx i k) (fun i => g_slp i)
    .nil (fun _ _ r q => .cons r q) x
theorem goods : ∀ es : List Ex, Goods M C cl lv (es.map (ck M)) (dens M.cb cl es)
  | [] => .nil
  | a :: r => .cons (good a) (goods r)
end Mv
end

section
set_option Elab.async false
set_option linter.all false
set_option maxRecDepth 100000
set_option maxHeartbeats 4000000
/-! CkS: a term is the statement's own statements. -/
namespace Mv
open PySem PySem.Spec PyProof.Rows L2
/-- no comprehension -/
def nlc : Expr → Bool
  | .ListComp _ _ _ _ => false
  | .SetComp _ _ _ _ => false
  | .DictComp _ _ _ _ _ => false
  | _ => true
/-- does a comprehension's value swap with the name's -/
def swE (sc : Scope) (v : Expr) (scope : Scope) (t : Str) (p : Pos) : Bool :=
  (if sc.kind.isAnnotationScope = true then ScopeKind.function else sc.kind) == ScopeKind.function && List.lookup t sc.names == some NameKind.local && p.line == v.pos.line &&
          !scope.names.any fun x =>
              match x with
              | (n, k) => n == t && (k == NameKind.local || k == NameKind.cell)
def bkd (sc : Scope) : ScopeKind := if sc.kind.isAnnotationScope = true then ScopeKind.function else sc.kind
def stars (vs : List Expr) : Bool := vs.any fun x => match x with | .Starred _ _ => true | _ => false
def plNames (sc : Scope) (ts : List Expr) : List Str := List.filterMap (fun x => match x with
              | Expr.Name id pos => if (List.lookup id sc.names == some NameKind.local && pos.line == (Option.map (fun x => x.pos.line) ts.head?).getD 0) = true then some id else none
              | _ => none) ts
/-- the names that are stored all at once -/
def swT (sc : Scope) (ts vs : List Expr) : Option (Option (List Str)) :=
    if (!(ts.length == 2 || ts.length == 3) || vs.length != ts.length || bkd sc != ScopeKind.function) = true then some none
    else
      if stars vs = true then some none
      else
        if ((plNames sc ts).length != ts.length || (plNames sc ts).eraseDups.length != (plNames sc ts).length) = true then some none
        else if vs.all (foldedForSure 8) = true then some none
        else if vs.all (constantsAlone 8) = true then none else some (some (plNames sc ts))
theorem swT_ok {env : PySem.Env} {ts vs : List Expr} {k k2 : Nat} {p p2 : Pos} {r : Option (List Str)} (h : swT env.scope ts vs = some r) : swappedStores [.Tuple ts k p] (.Tuple vs k2 p2) env = pure r := by
  unfold swT at h
  unfold swappedStores
  dsimp only
  by_cases c : (!(ts.length == 2 || ts.length == 3) || vs.length != ts.length || bkd env.scope != ScopeKind.function) = true
  · rw [if_pos c] at h; cases h; exact if_pos c
  rw [if_neg c] at h
  refine (if_neg c).trans ?_
  by_cases c2 : stars vs = true
  · rw [if_pos c2] at h; cases h; exact if_pos c2
  rw [if_neg c2] at h
  refine (if_neg c2).trans ?_
  by_cases c3 : ((plNames env.scope ts).length != ts.length || (plNames env.scope ts).eraseDups.length != (plNames env.scope ts).length) = true
  · rw [if_pos c3] at h; cases h; exact if_pos c3
  rw [if_neg c3] at h
  refine (if_neg c3).trans ?_
  by_cases c4 : vs.all (foldedForSure 8) = true
  · rw [if_pos c4] at h; cases h; exact if_pos c4
  rw [if_neg c4] at h
  refine (if_neg c4).trans ?_
  by_cases c5 : vs.all (constantsAlone 8) = true
  · rw [if_pos c5] at h; cases h
  rw [if_neg c5] at h
  cases h
  exact if_neg c5
/-- no tuple display -/
def ntu : Expr → Bool
  | .Tuple _ _ _ => false
  | _ => true
theorem sw_ntu {tg v : Expr} (h : ntu v = true) (env : PySem.Env) : swappedStores [tg] v env = pure none := by
  cases v <;> first | (cases h; done) | (cases tg <;> rfl)
theorem sw_nt {tg v : Expr} (h : ntu tg = true) (h2 : ∀ es p, tg ≠ .List es p) (env : PySem.Env) : swappedStores [tg] v env = pure none := by
  cases tg
  case Tuple => cases h
  case List es p => exact absurd rfl (h2 _ _)
  all_goals (cases v <;> rfl)
theorem swaps_nlc {v : Expr} (h : nlc v = true) (o : Option Expr) (line : Nat) (env : PySem.Env) : swapsWith v o line env = pure false := by
  cases v <;> first | rfl | cases h
section
variable (M : Md)
def isNm : Tg → Bool
  | .nm _ => true
  | _ => false
def isLc : Ex → Bool
  | .lc _ _ _ _ _ _ _ => true
  | .lc2 _ _ _ _ _ _ _ _ _ _ _ => true
  | _ => false
def loc1 (S : Sc) (i : Nat) (e : Expr) : Option Str := match e with
  | .Name x _ => if (decide (S.N[i]? = some x) && (List.lookup x S.sc.names == some .local)) = true then some x else none
  | _ => none
/-- several at once -/
def cPar (S : Sc) (t : Tg) (ts : List Expr) (nms : List Str) (x : Ex) (n : Nat) : Bool := S.calm && S.er.isNone && (match t, ts, x with
  | .tp [.nm i, .nm j], [a, b], .on .tup [_, _] => decide (n = 2) && !Nat.beq i j && (match loc1 S i a, loc1 S j b with | some p, some q => decide (nms = [p, q]) | _, _ => false)
  | .tp [.nm i, .nm j, .nm l], [a, b, c], .on .tup [_, _, _] => decide (n = 3) && !Nat.beq i j && !Nat.beq i l && !Nat.beq j l && (match loc1 S i a, loc1 S j b, loc1 S l c with | some p, some q, some r => decide (nms = [p, q, r]) | _, _, _ => false)
  | _, _, _ => false)
noncomputable def cAsg (t : Tg) (x : Ex) (S : Sc) (st : Stmt) : Bool := match st with
  | .Assign [tg] v pos => (ck M x).e S v && (match tg with
    | .Name nm p => isNm t && ckTg S t tg && (match v with
      | .ListComp _ _ scope _ => !swE S.sc v scope nm p || isLc x
      | v => nlc v)
    | .Tuple ts _ _ => (match v with
      | .Tuple vs _ _ => (match swT S.sc ts vs with | some none => ckTg S t tg | some (some nms) => cPar S t ts nms x vs.length | none => false)
      | v => ckTg S t tg && ntu v)
    | _ => false)
  | _ => false
noncomputable def cExp (x : Ex) (S : Sc) (st : Stmt) : Bool := match st with | .Expr e _ => nlc e && (ck M x).e S e | _ => false
noncomputable def cSet (o i x : Ex) (S : Sc) (st : Stmt) : Bool := match st with
  | .Assign [.Subscript a b _] v _ => nsl b && nlc v && (ck M x).e S v && (ck M o).e S a && (ck M i).e S b && S.er.isNone
  | _ => false
noncomputable def cSet2 (o i o2 i2 x : Ex) (S : Sc) (st : Stmt) : Bool := match st with
  | .Assign [.Tuple [.Subscript a b p, .Subscript a2 b2 p2] _ _] v _ => S.calm && nsl b && nsl b2 && nlc v && (match v with
      | .Tuple vs _ _ => (match swT S.sc [.Subscript a b p, .Subscript a2 b2 p2] vs with | some none => true | _ => false)
      | v => ntu v) && (ck M x).e S v && (ck M o).e S a && (ck M i).e S b && (ck M o2).e S a2 && (ck M i2).e S b2 && S.er.isNone
  | _ => false
noncomputable def cSet3 (o i o2 i2 : Ex) (t : Tg) (x : Ex) (S : Sc) (st : Stmt) : Bool := match st with
  | .Assign [.Tuple [.Subscript a b p, .Subscript a2 b2 p2, tg] _ _] v _ => S.calm && nsl b && nsl b2 && nst tg && nlc v && (match v with
      | .Tuple vs _ _ => (match swT S.sc [.Subscript a b p, .Subscript a2 b2 p2, tg] vs with | some none => true | _ => false)
      | v => ntu v) && (ck M x).e S v && (ck M o).e S a && (ck M i).e S b && (ck M o2).e S a2 && (ck M i2).e S b2 && ckTg S t tg && S.er.isNone
  | _ => false
noncomputable def cRet (x : Ex) (S : Sc) (st : Stmt) : Bool := match st with
  | .Return (some e) _ => (match x with | .o1 .frz y => (ck M y).e S e | x => (ck M x).e S e)
  | .Return none _ => (match x with | .con .non => true | _ => false)
  | _ => false
def cIfS (c : CkR) (a b : Sc → List Stmt → Bool) (S : Sc) (st : Stmt) : Bool := match st with | .If t p q _ => nif t && c.e S t && a S p && b S q | _ => false
def cFor (t : Tg) (k : Wk) (es : List CkR) (b : Sc → List Stmt → Bool) (S : Sc) (st : Stmt) : Bool := match st with
  | .For tg iter body [] _ => S.calm && noSet iter && cW M S k es tg iter && ckTg S t tg && b S body
  | _ => false
def cWhl (c : CkR) (b : Sc → List Stmt → Bool) (S : Sc) (st : Stmt) : Bool := match st with | .While t p [] _ => nif t && c.e S t && b S p | _ => false
def cPas (_ : Sc) (st : Stmt) : Bool := match st with | .Pass _ => true | _ => false
def cBrk (_ : Sc) (st : Stmt) : Bool := match st with | .Break _ => true | _ => false
def cRse (ar : Nat → Nat) (c : Nat) (es : List CkR) (S : Sc) (st : Stmt) : Bool := match st with
  | .Raise (some (.Call (.Name x _) xs [] _)) none _ => S.calm && S.er.isNone && gbl S x && okn x && decide (List.lookup x M.cls = some c) && decide (xs.length = ar c) && cks S es xs
  | _ => false
/-- an except clause's own -/
def suiteS (S : Sc) (i : Option Nat) : Sc := { S with calm := false, er := i, tab := none }
def cHN (_ : Sc) (hs : List ExceptHandler) : Bool := match hs with | [] => true | _ => false
def cHC (k : Nat) (i : Option Nat) (b : Sc → List Stmt → Bool) (r : Sc → List ExceptHandler → Bool) (S : Sc) (hs : List ExceptHandler) : Bool := match hs with
  | .ExceptHandler (some (.Name x _)) nm (b0 :: suite) _ :: hs => gbl S x && okn x && decide (List.lookup x M.cls = some k) && (match nm, i with
      | none, none => true
      | some n, some i => decide (S.N[i]? = some n) && (List.lookup n S.sc.names == some .local)
      | _, _ => false) && b (suiteS S i) (b0 :: suite) && r S hs
  | _ => false
def cTry (b : Sc → List Stmt → Bool) (h : Sc → List ExceptHandler → Bool) (S : Sc) (st : Stmt) : Bool := match st with
  | .Try body (h0 :: hs) [] [] _ => S.calm && S.er.isNone && b S body && h S (h0 :: hs)
  | _ => false
def cHid (r : Sc → Stmt → Bool) (S : Sc) (st : Stmt) : Bool := S.er.isNone && r S st
def cNil (_ : Sc) (l : List Stmt) : Bool := match l with | [] => true | _ => false
def cCns (a : Sc → Stmt → Bool) (r : Sc → List Stmt → Bool) (S : Sc) (l : List Stmt) : Bool := match l with | st :: l => a S st && r S l | [] => false
end
noncomputable def ckS (M : Md) (ar : Nat → Nat) : Sm → Sc → Stmt → Bool := Sm.rec (motive_1 := fun _ => Sc → Stmt → Bool) (motive_2 := fun _ => Sc → List ExceptHandler → Bool) (motive_3 := fun _ => Sc → List Stmt → Bool)
  (fun e => cExp M e) (fun t e => cAsg M t e) (fun o i e => cSet M o i e) (fun o i p j e => cSet2 M o i p j e) (fun o i p j t e => cSet3 M o i p j t e) (fun e => cRet M e) (fun c _ _ r q => cIfS (ck M c) r q)
  (fun t k es _ r => cFor M t k (es.map (ck M)) r) (fun c _ r => cWhl (ck M c) r) cPas cBrk (fun c es => cRse M ar c (es.map (ck M))) (fun _ _ r q => cTry r q) (fun _ _ r => cHid r)
  cHN (fun k i _ _ r q => cHC M k i r q) cNil (fun _ _ r q => cCns r q)
noncomputable def ckB (M : Md) (ar : Nat → Nat) : List Sm → Sc → List Stmt → Bool := List.rec (motive := fun _ => Sc → List Stmt → Bool) cNil (fun a _ q => cCns (ckS M ar a) q)
end Mv
end

section
set_option Elab.async false
set_option linter.all false
set_option maxRecDepth 100000
set_option maxHeartbeats 4000000
/-! CkSOk: statements that pass the check are right. -/
namespace Mv
open PySem PySem.Spec PyProof.Rows L2
/-! ### the error at hand does not matter to values -/
abbrev Cn.wr (C : Cn) (e : Option ErrAt) : Cn := { C with er := e }
section
variable {C : Cn} {W : Wd}
mutual
theorem RD.wr (e : Option ErrAt) : ∀ {d : D} {v : V}, RD C W d v → RD (C.wr e) W d v
  | _, _, .non => .non
  | _, _, .bl b => .bl b
  | _, _, .int i => .int i
  | _, _, .str l => .str l
  | _, _, .tup h r => .tup h (RDs.wr e r)
  | _, _, .lst h r => .lst h (RDs.wr e r)
  | _, _, .tpn hd h r => .tpn hd h (RDs.wr e r)
  | _, _, .loc h => .loc h
  | _, _, .fn h => .fn h
  | _, _, .tyb h => .tyb h
  | _, _, .tyo h h2 => .tyo h h2
  | _, _, .scr h => .scr h
  | _, _, .rng h => .rng h
  | _, _, .exc v => .exc v
theorem RDs.wr (e : Option ErrAt) : ∀ {d : List D} {v : List V}, RDs C W d v → RDs (C.wr e) W d v
  | _, _, .nil => .nil
  | _, _, .cons h r => .cons (RD.wr e h) (RDs.wr e r)
end
theorem CellR.wr {H : Hp} {a : Addr} {o : Ob} (h : CellR C W H a o) (e : Option ErrAt) : CellR (C.wr e) W H a o := by
  cases o with
  | lst k l => obtain ⟨vs, h1, h2⟩ := h; exact ⟨vs, h1, h2.wr e⟩
  | dct kvs => obtain ⟨xs, h1, h2⟩ := h; exact ⟨xs, h1, L2.Paired.mapP h2 fun _ _ z => ⟨z.1, z.2.1.wr e, z.2.2.wr e⟩⟩
theorem SimS.wr {H : Hp} {s : St} (S : SimS C W H s) (e : Option ErrAt) : SimS (C.wr e) W H s :=
  ⟨S.sub, fun n o q => let ⟨a, h1, h2, h3⟩ := S.cel n o q; ⟨a, h1, h2, h3.wr e⟩, S.inj, S.new, S.lock, S.nd, S.hd, S.hdT, S.tab⟩
theorem RX.wr {c : Nat} {p : List D} {cls : Value} {d : Option Addr} (h : RX C W c p cls d) (e : Option ErrAt) : RX (C.wr e) W c p cls d := by
  obtain ⟨a, h1, h2, h3⟩ := h
  refine ⟨a, h1, h2, ?_⟩
  rcases h3 with h3 | ⟨pv, v, dx, e1, e2, e3, r⟩
  · exact .inl h3
  · exact .inr ⟨pv, v, dx, e1, e2, e3, r.wr e⟩
theorem wr_wr (C : Cn) (e : Option ErrAt) (h : C.er = none) : (C.wr e).wr none = C := by
  cases C; simp only at h; subst h; rfl
end
/-- an error is made -/
def tMk (C : Cn) (Wx : WX) (k : Nat) (r : EsT) : L2.St → Hp → XK → Prop := fun σ H Q => ∃ W e s, SimS C W H s ∧ SimE C W σ e ∧
  RsQ C W (r e s) (fun vs H1 => ∃ W1 ds s1, SimS C W1 H1 s1 ∧ RDs C W1 ds vs ∧ ∀ W' H' cls dx, W1.Le W' → SimS C W' H' s1 → RX C W' k ds cls dx → Q cls dx H') (fun cls d H' => Wx cls d σ H')
/-- what is known of the module's error classes -/
structure Base (M : Md) (ar : Nat → Nat) (C : Cn) (prog : Program) (K : PySem.W.Frag) (mg : Str → Option Value) : Prop where
  exm : ∀ c k a b, C.ca c = some a → C.ca k = some b → PySem.W.exmOne K (.ref a) (.ref b) = some (Nat.beq c k || Nat.beq (M.cb c) k)
  rse : ∀ {X : Cx} {Wx : WX} {lv : Nat}, X.prog = prog → X.K = K → X.mg = mg → X.calm = true → Room lv X.A → Takes X Wx → ∀ (k : Nat) (x : Str) (xp pos : Pos) (xs : List Expr) (r : EsT), Gl X x → okn x = true → List.lookup x M.cls = some k → xs.length = ar k → PA X xs (tA C Wx r) → xs.all nst = true → (xs = [] → r = esN) → (∀ en s ds s1, r en s = .ok ds s1 → ds.length = xs.length) → PMk X (.Call (.Name x xp) xs [] pos) (tMk C Wx k r)
  fld : ∀ {X : Cx} {Wx : WX} (q : ErrAt) (oe : Obj) (pn : List (Addr × Obj)) (k : Nat) (x : Str) (xp pos : Pos), X.K = K → Zc q.cls q.d oe → (∃ vs, oe.data = .fields vs) → X.N[q.i]? = some x → Vis X.env.scope x → okn x = true →
    PE (X.suite q.a ((q.a, oe) :: pn)) (.Attribute (.Name x xp) (M.fld k) pos) (tE (C.wr (some q)) Wx (eFld k q.i))
  isx : ∀ {X : Cx} {Wx : WX} (q : ErrAt) (oe : Obj) (pn : List (Addr × Obj)) (k : Nat) (x y : Str) (fp xp yp pos : Pos), X.K = K → X.mg = mg → Zc q.cls q.d oe → (∃ vs, oe.data = .fields vs) → X.N[q.i]? = some x → Vis X.env.scope x → okn x = true →
    Gl X (Str.ofString "isinstance") → mg (Str.ofString "isinstance") = none → Gl X y → okn y = true → (List.lookup y M.cls = some k ∨ (k = 5 ∧ y = Str.ofString "LookupError" ∧ mg y = none) ∨ (k = 6 ∧ y = Str.ofString "ValueError" ∧ mg y = none)) →
    PE (X.suite q.a ((q.a, oe) :: pn)) (.Call (.Name (Str.ofString "isinstance") fp) [.Name x xp, .Name y yp] [] pos) (tE (C.wr (some q)) Wx (eIsx M.cb q.i k))
  slp : ∀ {X : Cx} {Wx : WX} {lv : Nat} (q : ErrAt) (oe : Obj) (pn : List (Addr × Obj)) (x g : Str) (gp xp pos : Pos), X.prog = prog → X.K = K → X.mg = mg → Room lv X.A → X.stack = X.env :: X.outer → X.env.frame = some X.env.locals → Zc q.cls q.d oe → (∃ vs, oe.data = .fields vs) → X.N[q.i]? = some x → Vis X.env.scope x → okn x = true →
    Gl X g → okn g = true → M.slp.contains g = true → PE (X.suite q.a ((q.a, oe) :: pn)) (.Call (.Name g gp) [.Name x xp] [] pos) (tE (C.wr (some q)) Wx (eSlp M.cb q.i))
structure SOk (M : Md) (ar : Nat → Nat) (C : Cn) (cl : Cl) (lv : Nat) (S : Sc) (X : Cx) (Wx : WX) : Prop extends XOk M C cl lv S X where
  hs : X.stack = X.env :: X.outer
  hf : X.env.frame = some X.env.locals
  hp : PassesOwn (model X.prog X.w) X.A X.env X.xe
  tk : Takes X Wx
  base : C.er = none → Base M ar C X.prog X.K X.mg
section
variable {M : Md} {ar : Nat → Nat} {cl : Cl} {lv : Nat}
def GoodS (M : Md) (ar : Nat → Nat) (cl : Cl) (lv : Nat) (f : Sc → Stmt → Bool) (x : ExT) : Prop := ∀ {C : Cn} {S : Sc} {X : Cx} {Wx : WX} {st : Stmt}, SOk M ar C cl lv S X Wx → f S st = true → PS X st (tS C Wx x)
def GoodB (M : Md) (ar : Nat → Nat) (cl : Cl) (lv : Nat) (f : Sc → List Stmt → Bool) (x : ExT) : Prop := ∀ {C : Cn} {S : Sc} {X : Cx} {Wx : WX} {st : List Stmt}, SOk M ar C cl lv S X Wx → f S st = true → PSs X st (tS C Wx x)
def GoodH (M : Md) (ar : Nat → Nat) (cl : Cl) (lv : Nat) (f : Sc → List ExceptHandler → Bool) (h : Hd) : Prop := ∀ {C : Cn} {S : Sc} {X : Cx} {Wx : WX} {hs : List ExceptHandler}, SOk M ar C cl lv S X Wx → S.calm = true → S.er = none → f S hs = true →
  ∃ l, HdsA X hs l ∧ ∀ (D : Ends) (c : Nat) (p : List Mv.D) (e : Env) (s : St) (W : Wd) (σ0 : L2.St), FlQ C W σ0 (h c p e s) D Wx → ∀ W' H' σ' cls dx, W.Le W' → SimS C W' H' s → SimE C W' σ' e → RX C W' c p cls dx → wManyA X.K Wx D l cls dx σ' H'
theorem SOk.erN {C : Cn} {S : Sc} {X : Cx} {Wx : WX} (K : SOk M ar C cl lv S X Wx) (h : S.er = none) : C.er = none := by
  have := K.er; rw [h] at this
  exact Option.map_eq_none_iff.mp this
theorem s_exp (x : Ex) : GoodS M ar cl lv (cExp M x) (xExp (den M.cb cl x)) := fun {C S X Wx st} K h => by
  unfold cExp at h
  split at h
  · simp only [Bool.and_eq_true] at h
    exact ok_xexp ((good x).e K.toXOk K.tk h.2).1 (swaps_nlc h.1 _ _ _)
  · cases h
/-- a value stays the same when its cell goes -/
theorem s_ret (x : Ex) : GoodS M ar cl lv (cRet M x) (xRet (den M.cb cl x)) := fun {C S X Wx st} K h => by
  unfold cRet at h
  split at h
  · split at h
    · rename_i y
      exact ok_xret (ok_frz ((good y).e K.toXOk K.tk h).1)
    · exact ok_xret ((good x).e K.toXOk K.tk h).1
  · split at h
    · exact ok_xret0
    · cases h
  · cases h
theorem s_pas : GoodS M ar cl lv cPas xPas := fun {C S X Wx st} K h => by
  unfold cPas at h
  split at h
  · exact ok_xpas
  · cases h
theorem s_brk : GoodS M ar cl lv cBrk xBrk := fun {C S X Wx st} K h => by
  unfold cBrk at h
  split at h
  · exact ok_xbrk
  · cases h
theorem s_if (x : Ex) {f g : Sc → List Stmt → Bool} {a b : ExT} (G1 : GoodB M ar cl lv f a) (G2 : GoodB M ar cl lv g b) : GoodS M ar cl lv (cIfS (ck M x) f g) (xIf (den M.cb cl x) a b) := fun {C S X Wx st} K h => by
  unfold cIfS at h
  split at h
  · simp only [Bool.and_eq_true] at h
    obtain ⟨⟨⟨h0, h1⟩, h2⟩, h3⟩ := h
    exact ok_xif (((good x).e K.toXOk K.tk h1).2 h0) (G1 K h2) (G2 K h3)
  · cases h
theorem s_for (t : Tg) (k : Wk) (es : List Ex) {f : Sc → List Stmt → Bool} {b : ExT} (G : GoodB M ar cl lv f b) : GoodS M ar cl lv (cFor M t k (es.map (ck M)) f) (xFor t k (dens M.cb cl es) b) := fun {C S X Wx st} K h => by
  unfold cFor at h
  split at h
  · simp only [Bool.and_eq_true] at h
    obtain ⟨⟨⟨⟨h0, h1⟩, h2⟩, h3⟩, h4⟩ := h
    exact ok_for K.hp (by rw [K.calm]; exact h0) (cW_ok K.toXOk K.tk (goods es) h2) (ckTg_ok K.toXOk t _ h3) (G K h4) fun x => noSet_ok h1 _ x
  · cases h
theorem s_hid (ks : List Nat) {f : Sc → Stmt → Bool} {a : ExT} (G : GoodS M ar cl lv f a) : GoodS M ar cl lv (cHid f) (xHid ks a) := fun {C S X Wx st} K h => by
  unfold cHid at h
  have h := (Bool.and_eq_true _ _).mp h
  exact ok_hid (K.erN (Option.isNone_iff_eq_none.mp h.1)) ks (G K h.2)
theorem s_whl (x : Ex) {f : Sc → List Stmt → Bool} {b : ExT} (G : GoodB M ar cl lv f b) : GoodS M ar cl lv (cWhl (ck M x) f) (xWhl (den M.cb cl x) b) := fun {C S X Wx st} K h => by
  unfold cWhl at h
  split at h
  · simp only [Bool.and_eq_true] at h
    obtain ⟨⟨h0, h1⟩, h2⟩ := h
    exact ok_xwhl K.hp (((good x).e K.toXOk K.tk h1).2 h0) (G K h2)
  · cases h
theorem asg_sub {o b : Expr} {p : Pos} (h : nsl b = true) (env : PySem.Env) (v : Value) : assign (.Subscript o b p) env v = (do
        let ov ← holding [v] (eval o env)
        let iv ← holding [v, ov] (eval b env)
        standAt p
        holding [v, ov, iv] (setItem ov iv v)
        release [v, ov, iv] []) := by
  cases b <;> first | rfl | cases h
theorem swapsS_nlc {v : Expr} (h : nlc v = true) (t : Expr) (line : Nat) (env : PySem.Env) : swapsWithSole [t] v line env = pure false := swaps_nlc h (some t) line env
theorem s_set (o i x : Ex) : GoodS M ar cl lv (cSet M o i x) (xSet (den M.cb cl o) (den M.cb cl i) (den M.cb cl x)) := fun {C S X Wx st} K h => by
  unfold cSet at h
  split at h
  · simp only [Bool.and_eq_true] at h
    obtain ⟨⟨⟨⟨⟨h0, h1⟩, h2⟩, h3⟩, h4⟩, h5⟩ := h
    exact ok_xstore K.hw K.hu h0 ((good x).e K.toXOk K.tk h2).1 ((good o).e K.toXOk K.tk h3).1 ((good i).e K.toXOk K.tk h4).1 (swapsS_nlc h1 _ _ _) (sw_nt (tg := .Subscript _ _ _) rfl (fun es p h => by cases h) _) (asg_sub h0 _)
  · cases h
theorem s_set2 (o i p j x : Ex) : GoodS M ar cl lv (cSet2 M o i p j x) (xSet2 (den M.cb cl o) (den M.cb cl i) (den M.cb cl p) (den M.cb cl j) (den M.cb cl x)) := fun {C S X Wx st} K h => by
  unfold cSet2 at h
  split at h
  · rename_i a b pa a2 b2 pb kt pt v pos
    simp only [Bool.and_eq_true] at h
    obtain ⟨⟨⟨⟨⟨⟨⟨⟨⟨⟨h0, h1⟩, h2⟩, h3⟩, h4⟩, h5⟩, h6⟩, h7⟩, h8⟩, h9⟩, h10⟩ := h
    have hw : swappedStores [.Tuple [.Subscript a b pa, .Subscript a2 b2 pb] kt pt] v X.env = pure none := by
      split at h4
      · split at h4
        · rename_i hsw
          exact swT_ok (by rw [K.sc]; exact hsw)
        · cases h4
      · exact sw_ntu h4 _
    exact ok_xstore2 K.hK K.hw K.hu (by rw [K.calm]; exact h0) ((good x).e K.toXOk K.tk h5).1 ((good o).e K.toXOk K.tk h6).1 ((good i).e K.toXOk K.tk h7).1 ((good p).e K.toXOk K.tk h8).1 ((good j).e K.toXOk K.tk h9).1 (swapsS_nlc h3 _ _ _) hw (asg_sub h1 _) (asg_sub h2 _)
  · cases h
theorem s_set3 (o i p j : Ex) (t : Tg) (x : Ex) : GoodS M ar cl lv (cSet3 M o i p j t x) (xSet3 (den M.cb cl o) (den M.cb cl i) (den M.cb cl p) (den M.cb cl j) t (den M.cb cl x)) := fun {C S X Wx st} K h => by
  unfold cSet3 at h
  split at h
  · rename_i a b pa a2 b2 pb tg kt pt v pos
    simp only [Bool.and_eq_true, Option.isNone_iff_eq_none] at h
    obtain ⟨⟨⟨⟨⟨⟨⟨⟨⟨⟨⟨⟨h0, h1⟩, h2⟩, h11⟩, h3⟩, h4⟩, h5⟩, h6⟩, h7⟩, h8⟩, h9⟩, h12⟩, h10⟩ := h
    have hw : swappedStores [.Tuple [.Subscript a b pa, .Subscript a2 b2 pb, tg] kt pt] v X.env = pure none := by
      split at h4
      · split at h4
        · rename_i hsw
          exact swT_ok (by rw [K.sc]; exact hsw)
        · cases h4
      · exact sw_ntu h4 _
    exact ok_xstore3 K.hK K.hw K.hu (by rw [K.calm]; exact h0) h11 ((good x).e K.toXOk K.tk h5).1 ((good o).e K.toXOk K.tk h6).1 ((good i).e K.toXOk K.tk h7).1 ((good p).e K.toXOk K.tk h8).1 ((good j).e K.toXOk K.tk h9).1 (ckTg_ok K.toXOk t tg h12) (swapsS_nlc h3 _ _ _) hw (asg_sub h1 _) (asg_sub h2 _)
  · cases h
theorem s_nil : GoodB M ar cl lv cNil xPas := fun {C S X Wx st} K h => by
  unfold cNil at h
  split at h
  · exact ok_xnil
  · cases h
theorem s_cns {f : Sc → Stmt → Bool} {g : Sc → List Stmt → Bool} {a b : ExT} (G1 : GoodS M ar cl lv f a) (G2 : GoodB M ar cl lv g b) : GoodB M ar cl lv (cCns f g) (xSeq a b) := fun {C S X Wx st} K h => by
  unfold cCns at h
  split at h
  · simp only [Bool.and_eq_true] at h
    exact ok_xcons (G1 K h.1) (G2 K h.2)
  · cases h
theorem cks_nil {C : Cn} {S : Sc} {rs : List CkR} {es : EsT} (G : Goods M C cl lv rs es) (h : cks S rs [] = true) : es = esN := by
  cases G with
  | nil => rfl
  | cons _ _ => unfold cks at h; cases h
theorem esC_len {a : EvT} {r : EsT} {en : Env} {s : St} {ds : List D} {s1 : St} (h : esC a r en s = .ok ds s1) : ∃ d t s2, ds = d :: t ∧ r en s2 = .ok t s1 := by
  unfold esC at h
  cases z : a en s with
  | ok d s2 =>
    rw [z] at h
    have h : (r en s2).bns (fun ds s => .ok (d :: ds) s) = .ok ds s1 := h
    cases z2 : r en s2 with
    | ok t s3 => rw [z2] at h; cases h; exact ⟨d, t, s2, rfl, z2⟩
    | exc c p s3 => rw [z2] at h; cases h
    | bad n => rw [z2] at h; cases h
  | exc c p s2 => rw [z] at h; cases h
  | bad n => rw [z] at h; cases h
theorem cks_lenv {C : Cn} {S : Sc} {rs : List CkR} {es : EsT} (G : Goods M C cl lv rs es) : ∀ {xs : List Expr}, cks S rs xs = true → ∀ en s ds s1, es en s = .ok ds s1 → ds.length = xs.length := by
  induction G with
  | nil =>
    intro xs h en s ds s1 q
    unfold cks at h
    cases xs with
    | nil => cases q; rfl
    | cons => cases h
  | cons hg _ ih =>
    intro xs h en s ds s1 q
    unfold cks at h
    cases xs with
    | nil => cases h
    | cons x xs =>
      simp only [Bool.and_eq_true] at h
      obtain ⟨d, t, s2, e1, e2⟩ := esC_len q
      rw [e1, List.length_cons, List.length_cons, ih h.2 _ _ _ _ e2]
theorem s_rse (k : Nat) (es : List Ex) : GoodS M ar cl lv (cRse M ar k (es.map (ck M))) (xRse k (dens M.cb cl es)) := fun {C S X Wx st} K h => by
  unfold cRse at h
  split at h
  · simp only [Bool.and_eq_true, decide_eq_true_eq, Option.isNone_iff_eq_none] at h
    obtain ⟨⟨⟨⟨⟨⟨h0, h1⟩, h2⟩, h3⟩, h4⟩, h5⟩, h6⟩ := h
    obtain ⟨g1, g2⟩ := cks_ok (Wx := Wx) (goods (M := M) (C := C) (cl := cl) (lv := lv) es) K.toXOk K.tk h6
    have hc : X.calm = true := by rw [K.calm]; exact h0
    refine ps_imp (ps_raise hc K.tk ((K.base (K.erN h1)).rse rfl rfl rfl hc (K.room h0) K.tk k _ _ _ _ _ (gbl_ok K.toXOk h2) h3 h4 h5 g1 g2 (fun z => cks_nil (goods (M := M) (C := C) (cl := cl) (lv := lv) es) (by rw [z] at h6; exact h6)) (cks_lenv (goods (M := M) (C := C) (cl := cl) (lv := lv) es) h6))) fun Dn σ H ⟨W, e, s, S', SE, q⟩ => ⟨W, e, s, S', SE, ?_⟩
    unfold xRse at q
    cases z : dens M.cb cl es e s with
    | ok ds s1 =>
      rw [z] at q
      have q : FlQ C W σ (.exc k ds e s1) Dn Wx := q
      exact fun W' H' vs le S1 r => ⟨W', ds, s1, S1, r, fun W2 H2 cls dx le2 S2 rx => q W2 H2 σ cls dx (le.trans le2) S2 (SE.mono (le.trans le2)) rx⟩
    | exc c p s1 => rw [z] at q; exact fun W' H' cls dx le S' rx => q W' H' σ cls dx le S' (SE.mono le) rx
    | bad n => rw [z] at q; exact q
  · cases h
end
end Mv
end

section
set_option Elab.async false
set_option linter.all false
set_option maxRecDepth 100000
set_option maxHeartbeats 4000000
/-! CkSOk2: storing, try, all statements. -/
namespace Mv
open PySem PySem.Spec PyProof.Rows L2
variable {M : Md} {ar : Nat → Nat} {cl : Cl} {lv : Nat}
theorem sw_lc (elt : Expr) (gens : List Comprehension) (scope : Scope) (pos : Pos) (t : Str) (p : Pos) (line : Nat) (env : PySem.Env) :
    swapsWith (.ListComp elt gens scope pos) (some (.Name t p)) line env = pure (swE env.scope (.ListComp elt gens scope pos) scope t p) := rfl
theorem loc1_ok {S : Sc} {i : Nat} {e : Expr} {x : Str} (h : loc1 S i e = some x) : ∃ p, e = .Name x p ∧ S.N[i]? = some x ∧ List.lookup x S.sc.names = some .local := by
  unfold loc1 at h
  split at h
  · split at h
    · rename_i hc
      cases h
      simp only [Bool.and_eq_true, decide_eq_true_eq, beq_iff_eq] at hc
      exact ⟨_, rfl, hc.1, hc.2⟩
    · cases h
  · cases h
theorem cks1 {S : Sc} {a : CkR} {l : List Expr} {as : List CkR} (h : cks S (a :: as) l = true) : ∃ x xs, l = x :: xs ∧ nst x = true ∧ a.e S x = true ∧ cks S as xs = true := by
  unfold cks at h
  cases l with
  | nil => cases h
  | cons x xs =>
    simp only [Bool.and_eq_true] at h
    exact ⟨x, xs, rfl, h.1.1, h.1.2, h.2⟩
theorem cks0 {S : Sc} {l : List Expr} (h : cks S [] l = true) : l = [] := by
  unfold cks at h
  cases l with
  | nil => rfl
  | cons => cases h
theorem s_par {C : Cn} {S : Sc} {X : Cx} {Wx : WX} (K : SOk M ar C cl lv S X Wx) {t : Tg} {ts vs : List Expr} {nms : List Str} {x : Ex} {kt k2 : Nat} {pt pv pos : Pos} (hv : (ck M x).e S (.Tuple vs k2 pv) = true) (hw : swT S.sc ts vs = some (some nms)) (h : cPar S t ts nms x vs.length = true) :
    PS X (.Assign [.Tuple ts kt pt] (.Tuple vs k2 pv) pos) (tS C Wx (xAsg t (den M.cb cl x))) := by
  unfold cPar at h
  simp only [Bool.and_eq_true, Option.isNone_iff_eq_none] at h
  obtain ⟨⟨h0, h1⟩, h2⟩ := h
  have hE := K.erN h1
  have hc : X.calm = true := by rw [K.calm]; exact h0
  have hsw : swappedStores [.Tuple ts kt pt] (.Tuple vs k2 pv) X.env = pure (some nms) := swT_ok (by rw [K.sc]; exact hw)
  split at h2
  · rename_i i j a b x1 x2
    simp only [Bool.and_eq_true, decide_eq_true_eq, Bool.not_eq_true'] at h2
    obtain ⟨⟨g0, g1⟩, g2⟩ := h2
    split at g2
    · rename_i p q e1 e2
      have g2 : nms = [p, q] := by simpa using g2
      subst g2
      obtain ⟨pa, ea, na, la⟩ := loc1_ok e1
      obtain ⟨pb, eb, nb, lb⟩ := loc1_ok e2
      subst ea; subst eb
      have hw1 : cks S [ck M x1, ck M x2] vs = true := hv
      obtain ⟨v1, r1, ev1, n1, c1, hw2⟩ := cks1 hw1
      obtain ⟨v2, r2, ev2, n2, c2, hw3⟩ := cks1 hw2
      have e0 := cks0 hw3; subst e0
      subst ev2; subst ev1
      exact ok_xpar hc K.nd (by rw [K.N]; exact na) (by rw [K.N]; exact nb) ((beq_false_iff _ _).mp g1) hE (by rw [K.sc]; exact la) (by rw [K.sc]; exact lb) (pa2 n1 n2 ((good x1).e K.toXOk K.tk c1).1 ((good x2).e K.toXOk K.tk c2).1) hsw
    · cases g2
  · rename_i i j l a b c x1 x2 x3
    simp only [Bool.and_eq_true, decide_eq_true_eq, Bool.not_eq_true'] at h2
    obtain ⟨⟨⟨⟨g0, g1⟩, g1'⟩, g1''⟩, g2⟩ := h2
    split at g2
    · rename_i p q r e1 e2 e3
      have g2 : nms = [p, q, r] := by simpa using g2
      subst g2
      obtain ⟨pa, ea, na, la⟩ := loc1_ok e1
      obtain ⟨pb, eb, nb, lb⟩ := loc1_ok e2
      obtain ⟨pc, ec, nc, lc⟩ := loc1_ok e3
      subst ea; subst eb; subst ec
      have hw1 : cks S [ck M x1, ck M x2, ck M x3] vs = true := hv
      obtain ⟨v1, r1, ev1, n1, c1, hw2⟩ := cks1 hw1
      obtain ⟨v2, r2, ev2, n2, c2, hw3⟩ := cks1 hw2
      obtain ⟨v3, r3, ev3, n3, c3, hw4⟩ := cks1 hw3
      have e0 := cks0 hw4; subst e0
      subst ev3; subst ev2; subst ev1
      exact ok_xpar3 hc K.nd (by rw [K.N]; exact na) (by rw [K.N]; exact nb) (by rw [K.N]; exact nc) ((beq_false_iff _ _).mp g1) ((beq_false_iff _ _).mp g1') ((beq_false_iff _ _).mp g1'') hE (by rw [K.sc]; exact la) (by rw [K.sc]; exact lb) (by rw [K.sc]; exact lc)
        (ok_cons n1 ((good x1).e K.toXOk K.tk c1).1 (pa2 n2 n3 ((good x2).e K.toXOk K.tk c2).1 ((good x3).e K.toXOk K.tk c3).1)) hsw
    · cases g2
  · cases h2
theorem ckTg_nm {C : Cn} {S : Sc} {X : Cx} {Wx : WX} (K : SOk M ar C cl lv S X Wx) {i : Nat} {x : Str} {p : Pos} (h : ckTg S (.nm i) (.Name x p) = true) :
    X.N[i]? = some x ∧ L2.Loc X.env.scope x ∧ (X.fn x = true ∨ List.lookup x X.env.scope.names = some NameKind.local) ∧ ∀ z, C.er = some z → i ≠ z.i := by
  unfold ckTg at h
  simp only [Bool.and_eq_true, decide_eq_true_eq, Bool.not_eq_true', decide_eq_false_iff_not] at h
  obtain ⟨⟨h0, h1⟩, h2⟩ := h
  have hE : ∀ x, C.er = some x → i ≠ x.i := fun x q z => h2 (by rw [← K.er, q, z]; rfl)
  refine ⟨by rw [K.N]; exact h0, ?_⟩
  rw [K.sc]
  split at h1
  · rename_i hl; exact ⟨.inl hl, .inr hl, hE⟩
  · rename_i hl; exact ⟨.inr hl, .inl (K.sf _ h1), hE⟩
  · cases h1
theorem swaps_tup {ts : List Expr} {k : Nat} {p : Pos} (v : Expr) (line : Nat) (env : PySem.Env) : swapsWithSole [.Tuple ts k p] v line env = pure false := by
  cases v <;> rfl
theorem s_asg (t : Tg) (x : Ex) : GoodS M ar cl lv (cAsg M t x) (xAsg t (den M.cb cl x)) := fun {C S X Wx st} K h => by
  unfold cAsg at h
  split at h
  · simp only [Bool.and_eq_true] at h
    obtain ⟨hv, h⟩ := h
    have hpe := ((good (C := C) (cl := cl) (lv := lv) x).e K.toXOk K.tk hv).1
    split at h
    · rename_i nm p
      simp only [Bool.and_eq_true] at h
      obtain ⟨⟨h0, h1⟩, h2⟩ := h
      cases t with
      | tp ts => cases h0
      | nm i =>
        obtain ⟨g1, g2, g3, g4⟩ := ckTg_nm K h1
        split at h2
        · rename_i elt gens scope pv
          cases hsw : swE S.sc (.ListComp elt gens scope pv) scope nm p with
          | false => exact ok_xset1 K.nd g1 g2 hpe (by rw [sw_lc, K.sc, hsw]) g3 g4
          | true =>
            rw [hsw] at h2
            replace h2 : isLc x = true := h2
            have hyl : List.lookup nm X.env.scope.names = some NameKind.local := by
              have := hsw
              unfold swE at this
              simp only [Bool.and_eq_true, beq_iff_eq] at this
              rw [K.sc]; exact this.1.1.2
            have hw : ∀ line, swapsWith (.ListComp elt gens scope pv) (some (.Name nm p)) line X.env = pure true := fun line => by rw [sw_lc, K.sc, hsw]
            unfold isLc at h2
            split at h2
            · rename_i m vs t k es c a
              obtain ⟨elt', tg, iter, ifs, scope', pos', e, L⟩ := lc_ok (Wx := Wx) (goods (M := M) (C := C) (cl := cl) (lv := lv) es) (good c) (good a) K.toXOk K.tk (show (cLc M vs t k (es.map (ck M)) (ck M c) (ck M a)).e S _ = true by rw [← ckr_map]; exact hv)
              cases e
              have e : den M.cb cl (.lc m vs t k es c a) = eLc m vs t k (dens M.cb cl es) (den M.cb cl c) (den M.cb cl a) := by rw [← dens_rec]; rfl
              rw [e]
              exact ok_xsetLc L g4 g1 hyl (hw _)
            · rename_i m vs0 t0 k0 es0 vs t k es c a
              obtain ⟨elt', tg, iter, tg1, iter1, ifs, scope', pos', e, L⟩ := lc2_ok (Wx := Wx) (goods (M := M) (C := C) (cl := cl) (lv := lv) es0) (goods (M := M) (C := C) (cl := cl) (lv := lv) es) (good c) (good a) K.toXOk K.tk (show (cLc2 M vs0 t0 k0 (es0.map (ck M)) vs t k (es.map (ck M)) (ck M c) (ck M a)).e S _ = true by rw [← ckr_map, ← ckr_map]; exact hv)
              cases e
              have e : den M.cb cl (.lc2 m vs0 t0 k0 es0 vs t k es c a) = eLc2 m vs0 t0 k0 (dens M.cb cl es0) vs t k (dens M.cb cl es) (den M.cb cl c) (den M.cb cl a) := by rw [← dens_rec, ← dens_rec]; rfl
              rw [e]
              exact ok_xsetLc2 L g4 g1 hyl (hw _)
            · cases h2
        · exact ok_xset1 K.nd g1 g2 hpe (swaps_nlc h2 _ _ _) g3 g4
    · split at h
      · split at h
        · rename_i hw
          exact ok_xasg rfl hpe (ckTg_ok K.toXOk t _ h) rfl (swT_ok (by rw [K.sc]; exact hw))
        · rename_i nms hw
          exact s_par K hv hw h
        · cases h
      · simp only [Bool.and_eq_true] at h
        obtain ⟨h0, h1⟩ := h
        exact ok_xasg rfl hpe (ckTg_ok K.toXOk t _ h0) (swaps_tup _ _ _) (sw_ntu h1 _)
    · cases h
  · cases h
/-! ### except -/
theorem h_nil : GoodH M ar cl lv cHN hN := fun {C S X Wx hs} K hc he h => by
  unfold cHN at h
  split at h
  · refine ⟨[], .nil, fun D c p e s W σ0 q W' H' σ' cls dx le S' SE rx => q W' H' σ' cls dx le S' SE rx⟩
  · cases h
theorem SimE.wr {C : Cn} {W : Wd} {σ : L2.St} {e : Env} (h : SimE C W σ e) : SimE (C.wr none) W σ e :=
  ⟨h.len, fun i d q => let ⟨v, h1, h2⟩ := h.at_ i d q; ⟨v, h1, h2.wr none⟩, fun x q => by cases q⟩
theorem FlQ.noX {C : Cn} {W : Wd} {σ : L2.St} {r : Fl} {Dn : Ends} {Wx Wx' : WX} (h : FlQ C W σ (noXF r) Dn Wx) : FlQ C W σ r Dn Wx' := by
  cases r with
  | nx e s => exact h
  | rt d s => exact h
  | bk e s => exact h
  | exc c p e s => exact h.elim
  | bad n => exact h
/-- the suite's own: nothing is at hand (no name) -/
theorem SOk.plain {C : Cn} {S : Sc} {X : Cx} {Wx : WX} (K : SOk M ar C cl lv S X Wx) (he : S.er = none) (a : Addr) (pn : List (Addr × Obj)) : SOk M ar C cl lv (suiteS S none) (X.suite a pn) (fun _ _ _ _ => False) where
  hK := K.hK
  hw := K.hw
  hu := K.hu
  N := K.N
  nd := K.nd
  sc := K.sc
  sf := K.sf
  calm := rfl
  er := by rw [K.er]; exact he
  room := fun h => by cases h
  fn := fun _ => K.fn he
  fv := fun _ => K.fv he
  fa := K.fa
  con := K.con
  cls := K.cls
  nog := K.nog
  fld := fun Wx i k x xp pos h => by cases h
  lam := fun t ht => by cases ht
  isx := fun Wx i k x f y fp xp yp pos h => by cases h
  slp := fun Wx i x g gp xp pos h => by cases h
  hs := K.hs
  hf := K.hf
  hp := PassesOwn.never
  tk := takes0
  base := K.base
/-- .. the error at hand -/
theorem SOk.named {C : Cn} {S : Sc} {X : Cx} {Wx : WX} (K : SOk M ar C cl lv S X Wx) (hc : S.calm = true) (he : S.er = none) (q : ErrAt) (oe : Obj) (pn : List (Addr × Obj)) (hz : Zc q.cls q.d oe) (hf : ∃ vs, oe.data = .fields vs) : SOk M ar (C.wr (some q)) cl lv (suiteS S (some q.i)) (X.suite q.a ((q.a, oe) :: pn)) (fun _ _ _ _ => False) where
  hK := K.hK
  hw := K.hw
  hu := K.hu
  N := K.N
  nd := K.nd
  sc := K.sc
  sf := K.sf
  calm := rfl
  er := rfl
  room := fun h => by cases h
  fn := fun h => by cases h
  fv := fun h => by cases h
  fa := K.fa
  con := fun x d h => let ⟨v, u, h1, h2, h3⟩ := K.con x d h; ⟨v, u, h1, h2, fun W => (h3 W).wr _⟩
  cls := K.cls
  nog := K.nog
  fld := fun Wx i k x xp pos h h1 h2 h3 => by
    have e : q.i = i := Option.some.inj h
    subst e
    exact (K.base (K.erN he)).fld q oe pn k x xp pos rfl hz hf (by rw [K.N]; exact h1) (vis_ok K.toXOk h2) h3
  lam := fun t ht => by cases ht
  slp := fun Wx i x g gp xp pos h h1 h2 h3 h4 h5 h6 => by
    have e : q.i = i := Option.some.inj h
    subst e
    exact (K.base (K.erN he)).slp q oe pn x g gp xp pos rfl rfl rfl (K.room hc) K.hs K.hf hz hf (by rw [K.N]; exact h1) (vis_ok K.toXOk h2) h3 (gbl_ok K.toXOk h4) h5 h6
  isx := fun Wx i k x f y fp xp yp pos h h1 h2 h3 h4 h5 h6 h7 => by
    have e : q.i = i := Option.some.inj h
    subst e
    obtain ⟨b1, b2, b3, b4, b5⟩ := bnm_ok K.toXOk h4
    subst b1
    refine (K.base (K.erN he)).isx q oe pn k x y fp xp yp pos rfl rfl hz hf (by rw [K.N]; exact h1) (vis_ok K.toXOk h2) h3 b2 b3 (gbl_ok K.toXOk h5) h6 ?_
    rcases h7 with h7 | ⟨h7, h8⟩ | ⟨h7, h8⟩
    · exact .inl h7
    · obtain ⟨c1, c2, c3, _⟩ := bnm_ok K.toXOk h8; exact .inr (.inl ⟨h7, c1, c3⟩)
    · obtain ⟨c1, c2, c3, _⟩ := bnm_ok K.toXOk h8; exact .inr (.inr ⟨h7, c1, c3⟩)
  hs := K.hs
  hf := K.hf
  hp := PassesOwn.never
  tk := takes0
  base := fun h => by cases h
theorem names_ok {C : Cn} {S : Sc} {X : Cx} {Wx : WX} (K : SOk M ar C cl lv S X Wx) {x : Str} {k : Nat} (h1 : gbl S x = true) (h2 : okn x = true) (h3 : List.lookup x M.cls = some k) : ∃ b, Names X x (.ref b) ∧ C.ca k = some b := by
  obtain ⟨b, q1, q2, q3⟩ := K.cls x k h3
  exact ⟨b, ⟨gbl_ok K.toXOk h1, (okn_ok h2).1, .inl q1⟩, q2⟩
theorem h_cons (k : Nat) (i : Option Nat) {f : Sc → List Stmt → Bool} {b : ExT} {g : Sc → List ExceptHandler → Bool} {r : Hd} (G : GoodB M ar cl lv f b) (G2 : GoodH M ar cl lv g r) : GoodH M ar cl lv (cHC M k i f g) (hC M.cb k i b r) := fun {C S X Wx hs} K hc he h => by
  unfold cHC at h
  split at h
  · rename_i x np nm b0 suite pos' hds
    simp only [Bool.and_eq_true, decide_eq_true_eq] at h
    obtain ⟨⟨⟨⟨⟨h0, h1⟩, h2⟩, h3⟩, h4⟩, h5⟩ := h
    obtain ⟨bk, hnm, hca⟩ := names_ok K h0 h1 h2
    obtain ⟨l2, hh2, hq2⟩ := G2 K hc he h5
    have hE := K.erN he
    have hexm := (K.base hE).exm
    cases i with
    | none =>
      cases nm with
      | some n => simp at h3
      | none =>
        refine ⟨(.ref bk, none, fun a cls d => tS C (fun _ _ _ _ => False) b) :: l2, .cons hnm .none (fun a oe cls d pn hz hf => G (K.plain he a _) h4) hh2, fun D c p e s W σ0 q W' H' σ' cls dx le S' SE rx => ?_⟩
        obtain ⟨ac, hac, ecls, hrx⟩ := id rx
        subst ecls
        refine ⟨_, hexm c k ac bk hac hca, fun hb a na => ?_, fun hb => ?_⟩
        · have q : FlQ C W σ0 (noXF (b e s)) D Wx := by
            have q' : FlQ C W σ0 (cond (Nat.beq c k || Nat.beq (M.cb c) k) (noXF (b e s)) (r c p e s)) D Wx := q
            rw [hb] at q'; exact q'
          exact ⟨W', e, s, S', SE, FlQ.any (FlQ.noX (FlQ.mono (r := noXF (b e s)) q le))⟩
        · have q : FlQ C W σ0 (r c p e s) D Wx := by
            have q' : FlQ C W σ0 (cond (Nat.beq c k || Nat.beq (M.cb c) k) (noXF (b e s)) (r c p e s)) D Wx := q
            rw [hb] at q'; exact q'
          exact hq2 D c p e s W σ0 q W' H' σ' _ dx le S' SE rx
    | some i =>
      cases nm with
      | none => simp at h3
      | some n =>
        have h3 : (decide (S.N[i]? = some n) && (List.lookup n S.sc.names == some .local)) = true := h3
        simp only [Bool.and_eq_true, decide_eq_true_eq, beq_iff_eq] at h3
        refine ⟨(.ref bk, some i, fun a cls d => fun Dn σ H => ∃ c p, tS (C.wr (some ⟨i, a, c, p, cls, d⟩)) (fun _ _ _ _ => False) b Dn σ H) :: l2, .cons hnm (.some (by rw [K.N]; exact h3.1) (by unfold Env.kindOf; rw [K.sc]; exact h3.2)) (fun a oe cls d pn hz hf => ?_) hh2, fun D c p e s W σ0 q W' H' σ' cls dx le S' SE rx => ?_⟩
        · refine ⟨fun pins t σ H Dn I ⟨c, p, hq⟩ => ?_⟩
          exact (G (K.named hc he ⟨i, a, c, p, cls, d⟩ oe pn hz hf) h4).run pins t σ H Dn I hq
        · obtain ⟨ac, hac, ecls, hrx⟩ := id rx
          subst ecls
          refine ⟨_, hexm c k ac bk hac hca, fun hb a na => ?_, fun hb => ?_⟩
          · have q0 := q
            have q : FlQ C W σ0 (endS (some i) (noXF (b (setE e i (.exc c p)) s))) D Wx := by
              have q' : FlQ C W σ0 (cond (Nat.beq c k || Nat.beq (M.cb c) k) (cond (Nat.blt i e.length) (endS (some i) (noXF (b (setE e i (.exc c p)) s))) (.bad 131)) (r c p e s)) D Wx := q
              rw [hb] at q'
              replace q' : FlQ C W σ0 (cond (Nat.blt i e.length) (endS (some i) (noXF (b (setE e i (.exc c p)) s))) (.bad 131)) D Wx := q'
              cases hl : Nat.blt i e.length with
              | true => rw [hl] at q'; exact q'
              | false => rw [hl] at q'; exact q'.elim
            have hN : i < e.length := by
              have q' : FlQ C W σ0 (cond (Nat.beq c k || Nat.beq (M.cb c) k) (cond (Nat.blt i e.length) (endS (some i) (noXF (b (setE e i (.exc c p)) s))) (.bad 131)) (r c p e s)) D Wx := q0
              rw [hb] at q'
              replace q' : FlQ C W σ0 (cond (Nat.blt i e.length) (endS (some i) (noXF (b (setE e i (.exc c p)) s))) (.bad 131)) D Wx := q'
              cases hl : Nat.blt i e.length with
              | true => exact (blt_iff _ _).mp hl
              | false => rw [hl] at q'; exact q'.elim
            refine ⟨c, p, W', setE e i (.exc c p), s, S'.wr _, ⟨?_, ?_, ?_⟩, ?_⟩
            · rw [setE_length, List.length_set]; exact SE.len
            · intro j d' hj
              have SE2 : SimE C W' (List.set σ' i (some (.ref a))) (setE e i (.exc c p)) := SE.set (.exc _) fun x q => by rw [hE] at q; cases q
              obtain ⟨v, g1, g2⟩ := SE2.at_ j d' hj
              exact ⟨v, g1, g2.wr _⟩
            · intro z hz
              have hz := Option.some.inj hz
              subst hz
              refine ⟨?_, ?_, rx.wr _⟩
              · show (List.set σ' i _)[i]? = _
                rw [List.getElem?_set, if_pos rfl, if_pos (by rw [← SE.len]; exact hN)]
              · show getE (setE e i _) i = _
                rw [setE_eq, getE_eq, List.getElem?_set, if_pos rfl, if_pos hN]; rfl
            · have q := FlQ.mono (r := endS (some i) (noXF (b (setE e i (.exc c p)) s))) q le
              have hwr := wr_wr C (some ⟨i, a, c, p, .ref ac, dx⟩) hE
              cases zb : b (setE e i (.exc c p)) s with
              | nx e2 s2 =>
                rw [zb] at q
                intro W2 H2 σ2 le2 S2 SE2
                have q : FlQ C W' σ0 (.nx (wipeE e2 i) s2) D Wx := q
                refine q W2 H2 _ le2 ?_ ?_
                · have := S2.wr none; rw [hwr] at this; exact this
                · have := (SimE.wr SE2).wipe1 (i := i) rfl; rw [hwr] at this; exact this
              | rt d2 s2 =>
                rw [zb] at q
                intro W2 H2 v2 le2 S2 r2
                have q : FlQ C W' σ0 (.rt d2 s2) D Wx := q
                refine q W2 H2 v2 le2 ?_ ?_
                · have := S2.wr none; rw [hwr] at this; exact this
                · have := r2.wr none; rw [hwr] at this; exact this
              | bk e2 s2 =>
                rw [zb] at q
                intro W2 H2 σ2 le2 S2 SE2
                have q : FlQ C W' σ0 (.bk (wipeE e2 i) s2) D Wx := q
                refine q W2 H2 _ le2 ?_ ?_
                · have := S2.wr none; rw [hwr] at this; exact this
                · have := (SimE.wr SE2).wipe1 (i := i) rfl; rw [hwr] at this; exact this
              | exc c2 p2 e2 s2 => rw [zb] at q; exact q.elim
              | bad n => rw [zb] at q; exact q.elim
          · have q : FlQ C W σ0 (r c p e s) D Wx := by
              have q' : FlQ C W σ0 (cond (Nat.beq c k || Nat.beq (M.cb c) k) (cond (Nat.blt i e.length) (endS (some i) (noXF (b (setE e i (.exc c p)) s))) (.bad 131)) (r c p e s)) D Wx := q
              rw [hb] at q'; exact q'
            exact hq2 D c p e s W σ0 q W' H' σ' _ dx le S' SE rx
  · cases h
end Mv
end

section
set_option Elab.async false
set_option linter.all false
set_option maxRecDepth 100000
set_option maxHeartbeats 4000000
/-! CkAll: try; all statements; defs. -/
namespace Mv
open PySem PySem.Spec PyProof.Rows L2
variable {M : Md} {ar : Nat → Nat} {cl : Cl} {lv : Nat}
theorem SOk.tr {C : Cn} {S : Sc} {X : Cx} {Wx : WX} (K : SOk M ar C cl lv S X Wx) (he : S.er = none) (W : WX) (pn : List (Addr × Obj)) (xe : Value → Shared → Prop) (tk : Takes (X.tr pn xe) W) (hp : PassesOwn (model X.prog X.w) X.A X.env xe) : SOk M ar C cl lv S (X.tr pn xe) W where
  hK := K.hK
  hw := K.hw
  hu := K.hu
  N := K.N
  nd := K.nd
  sc := K.sc
  sf := K.sf
  calm := K.calm
  er := K.er
  room := K.room
  fn := K.fn
  fv := K.fv
  fa := K.fa
  con := K.con
  cls := K.cls
  nog := K.nog
  fld := fun Wx i k x xp pos h => by rw [he] at h; cases h
  lam := fun t ht => let z := K.lam t ht; ⟨z.mem, z.one, z.code, z.name, z.tb⟩
  isx := fun Wx i k x f y fp xp yp pos h => by rw [he] at h; cases h
  slp := fun Wx i x g gp xp pos h => by rw [he] at h; cases h
  hs := K.hs
  hf := K.hf
  hp := hp
  tk := tk
  base := K.base
theorem s_try {f : Sc → List Stmt → Bool} {b : ExT} {g : Sc → List ExceptHandler → Bool} {r : Hd} (G : GoodB M ar cl lv f b) (G2 : GoodH M ar cl lv g r) : GoodS M ar cl lv (cTry f g) (xTry b r) := fun {C S X Wx st} K h => by
  unfold cTry at h
  split at h
  · simp only [Bool.and_eq_true, Option.isNone_iff_eq_none] at h
    obtain ⟨⟨⟨h0, h1⟩, h2⟩, h3⟩ := h
    obtain ⟨l, hh, hq⟩ := G2 K h0 h1 h3
    refine ps_imp (ps_tryA (tb := fun W => tS C W b) K.hs K.hf K.nd K.tk (fun W pn xe tk hp => G (K.tr h1 W pn xe tk hp) h2) hh) fun Dn σ H ⟨W, e, s, S', SE, q⟩ => ⟨W, e, s, S', SE, ?_⟩
    unfold xTry at q
    cases z : b e s with
    | nx e2 s2 => rw [z] at q; exact q
    | rt d s2 => rw [z] at q; exact q
    | bk e2 s2 => rw [z] at q; exact q
    | exc c p e2 s2 =>
      rw [z] at q
      have q : FlQ C W σ (r c p e2 s2) Dn Wx := q
      exact fun W' H' σ' cls dx le S2 SE2 rx => hq Dn c p e2 s2 W σ q W' H' σ' cls dx le S2 SE2 rx
    | bad n => rw [z] at q; exact q
  · cases h
noncomputable def denH (cb : Nat → Nat) (cl : Cl) : Hs → Hd := Hs.rec (motive_1 := fun _ => ExT) (motive_2 := fun _ => Hd) (motive_3 := fun _ => ExT)
  (fun e => xExp (den cb cl e)) (fun t e => xAsg t (den cb cl e)) (fun o i e => xSet (den cb cl o) (den cb cl i) (den cb cl e)) (fun o i p j e => xSet2 (den cb cl o) (den cb cl i) (den cb cl p) (den cb cl j) (den cb cl e)) (fun o i p j t e => xSet3 (den cb cl o) (den cb cl i) (den cb cl p) (den cb cl j) t (den cb cl e)) (fun e => xRet (den cb cl e)) (fun c _ _ r q => xIf (den cb cl c) r q)
  (fun t k es _ r => xFor t k (dens cb cl es) r) (fun c _ r => xWhl (den cb cl c) r) xPas xBrk (fun c es => xRse c (dens cb cl es)) (fun _ _ r q => xTry r q) (fun ks _ r => xHid ks r)
  hN (fun k i _ _ r q => hC cb k i r q) xPas (fun _ _ r q => xSeq r q)
noncomputable def ckH (M : Md) (ar : Nat → Nat) : Hs → Sc → List ExceptHandler → Bool := Hs.rec (motive_1 := fun _ => Sc → Stmt → Bool) (motive_2 := fun _ => Sc → List ExceptHandler → Bool) (motive_3 := fun _ => Sc → List Stmt → Bool)
  (fun e => cExp M e) (fun t e => cAsg M t e) (fun o i e => cSet M o i e) (fun o i p j e => cSet2 M o i p j e) (fun o i p j t e => cSet3 M o i p j t e) (fun e => cRet M e) (fun c _ _ r q => cIfS (ck M c) r q)
  (fun t k es _ r => cFor M t k (es.map (ck M)) r) (fun c _ r => cWhl (ck M c) r) cPas cBrk (fun c es => cRse M ar c (es.map (ck M))) (fun _ _ r q => cTry r q) (fun _ _ r => cHid r)
  cHN (fun k i _ _ r q => cHC M k i r q) cNil (fun _ _ r q => cCns r q)
noncomputable def ckBr (M : Md) (ar : Nat → Nat) : List Sm → Sc → List Stmt → Bool := Sm.rec_1 (motive_1 := fun _ => Sc → Stmt → Bool) (motive_2 := fun _ => Sc → List ExceptHandler → Bool) (motive_3 := fun _ => Sc → List Stmt → Bool)
  (fun e => cExp M e) (fun t e => cAsg M t e) (fun o i e => cSet M o i e) (fun o i p j e => cSet2 M o i p j e) (fun o i p j t e => cSet3 M o i p j t e) (fun e => cRet M e) (fun c _ _ r q => cIfS (ck M c) r q)
  (fun t k es _ r => cFor M t k (es.map (ck M)) r) (fun c _ r => cWhl (ck M c) r) cPas cBrk (fun c es => cRse M ar c (es.map (ck M))) (fun _ _ r q => cTry r q) (fun _ _ r => cHid r)
  cHN (fun k i _ _ r q => cHC M k i r q) cNil (fun _ _ r q => cCns r q)
theorem ckBr_eq (M : Md) (ar : Nat → Nat) : ∀ l : List Sm, ckBr M ar l = ckB M ar l
  | [] => rfl
  | a :: r => by show cCns (ckS M ar a) (ckBr M ar r) = cCns (ckS M ar a) (ckB M ar r); rw [ckBr_eq M ar r]
theorem goodS (s : Sm) : GoodS M ar cl lv (ckS M ar s) (denS M.cb cl s) :=
  Sm.rec (motive_1 := fun s => GoodS M ar cl lv (ckS M ar s) (denS M.cb cl s)) (motive_2 := fun h => GoodH M ar cl lv (ckH M ar h) (denH M.cb cl h)) (motive_3 := fun b => GoodB M ar cl lv (ckBr M ar b) (denBr M.cb cl b))
    (fun e => s_exp e) (fun t e => s_asg t e) (fun o i e => s_set o i e) (fun o i p j e => s_set2 o i p j e) (fun o i p j t e => s_set3 o i p j t e) (fun e => s_ret e) (fun c _ _ r q => s_if c r q) (fun t k es _ r => s_for t k es r) (fun c _ r => s_whl c r) s_pas s_brk (fun c es => s_rse c es) (fun _ _ r q => s_try r q) (fun ks _ r => s_hid ks r)
    h_nil (fun k i _ _ r q => h_cons k i r q) s_nil (fun _ _ r q => s_cns r q) s
theorem goodB : ∀ l : List Sm, GoodB M ar cl lv (ckB M ar l) (denB M.cb cl l)
  | [] => s_nil
  | a :: r => s_cns (goodS a) (goodB r)
end Mv
end

section
set_option Elab.async false
set_option linter.all false
set_option maxRecDepth 100000
set_option maxHeartbeats 4000000
/-! FnTab: the defs. -/
namespace Mv
open PySem PySem.Spec PyProof.Rows L2
/-- the table of the def whose code is cd -/
def tabO (T : List (Addr × Addr × Str)) (cd : Value) (qual : Str) : Option (Addr × Addr × Str) := T.find? fun t => decide (cd = .ref t.1) && decide (t.2.2 = qual ++ Str.ofString ".<locals>." ++ Str.ofString "<lambda>")
def fnS (N : List Str) (scope : Scope) (tab : Option (Addr × Addr × Str)) : Sc := { N := N, sc := scope, sf := fun _ => true, calm := true, er := none, tab := tab }
/-- the tables stand where the call begins -/
def TBs (C : Cn) (base : Heap) (mg : Str → Option Value) : Prop := ∀ t ∈ C.T, LamX.TabB base mg t.1 t.2.1
/-- a def of the module beside its term -/
structure FnFact (M : Md) (ar : Nat → Nat) (C : Cn) (K : PySem.W.Frag) (mg : Str → Option Value) (P : Nat → Option Fd) (x : Str) (n : Nat) (ps : List Str) : Prop where
  ex : ∃ (f : Addr) (oc : Value) (od : Option Addr) (name qual : Str) (params : Arguments) (body : List Stmt) (scope : Scope) (kV doc pm : Value) (an : Option Addr) (cdv ct : Value) (osl : Array (Option Value)) (N : List Str) (sms : List Sm) (pu : Bool) (bud : Nat) (iso zer : Bool),
    List.lookup f K = some { cls := oc, dict := od, data := Data.func (PySem.W.fnOf name qual params body scope .none kV doc pm an cdv ct), slots := osl } ∧ PySem.W.codeIn K cdv qual = true ∧ FnScope N ps scope ∧
      P n = some ⟨ps.length, N.length, pu, bud, iso, zer, fun cl => denB M.cb cl sms, fun _ _ => none⟩ ∧ ckB M ar sms (fnS N scope (tabO C.T cdv qual)) body = true ∧ mg x = some (.ref f) ∧ PySem.W.keepIn K (.ref f) = true ∧ C.fa n = some f ∧
      PBinds (PySem.W.fnOf name qual params body scope .none kV doc pm an cdv ct) ps
/-- what is known of a module -/
structure MOk (M : Md) (ar : Nat → Nat) (C : Cn) (prog : Program) (w : World) (K : PySem.W.Frag) (mg : Str → Option Value) (P : Nat → Option Fd) : Prop where
  hK : C.K = K
  hw : C.w = w
  er : C.er = none
  fns : ∀ x p, List.lookup x M.fns = some p → FnFact M ar C K mg P x p.1 p.2
  fv : ∀ n fa, C.fa n = some fa → ∃ x ps, List.lookup x M.fns = some (n, ps)
  con : ∀ x d, List.lookup x M.con = some d → ∃ v u, mg x = some u ∧ L2.RelV v u ∧ ∀ W, RD C W d v
  cls : ∀ x k, List.lookup x M.cls = some k → ∃ a, mg x = some (.ref a) ∧ C.ca k = some a ∧ tyName k = none
  nog : ∀ x, M.nog.contains x = true → mg x = none
  tabs : ∀ p ∈ C.T, ∀ q ∈ C.T, p.2.1 = q.2.1 → p.2.2 = q.2.2
  base : Base M ar C prog K mg
section
variable {M : Md} {ar : Nat → Nat} {C : Cn} {K : PySem.W.Frag} {mg : Str → Option Value} {P : Nat → Option Fd}
theorem start_sim {W : Wd} {N : List Str} {ds : List D} {vs : List V} (he : C.er = none) (r : RDs C W ds vs) (hl : ds.length ≤ N.length) : SimE C W (L2.start N vs) (padE N.length ds) := by
  refine ⟨?_, fun i d h => ?_, fun x q => by rw [he] at q; cases q⟩
  · unfold padE L2.start
    simp only [List.length_append, List.length_map, List.length_replicate, r.length]
  · rw [getE_eq] at h
    unfold padE at h
    by_cases hi : i < ds.length
    · rw [List.getElem?_append_left (by rw [List.length_map]; exact hi), List.getElem?_map] at h
      cases z : ds[i]? with
      | none => rw [z] at h; cases h
      | some d' =>
        rw [z] at h
        cases h
        obtain ⟨v, h1, h2⟩ := r.get z
        refine ⟨v, ?_, h2⟩
        unfold L2.start
        rw [List.getElem?_append_left (by rw [List.length_map, ← r.length]; exact hi), List.getElem?_map, h1]; rfl
    · rw [List.getElem?_append_right (by rw [List.length_map]; omega), List.getElem?_replicate] at h
      split at h <;> cases h
theorem SimS.up {W : Wd} {H : Hp} {n n' : Nat} {cs : List (Nat × Ob)} (S : SimS C W H ⟨n, cs⟩) (h : n ≤ n') : SimS C W H ⟨n', cs⟩ :=
  { S with new := fun m hm => S.new m (Nat.le_trans h hm) }
theorem retF_ok {W : Wd} {H : Hp} {s : St} {σ : L2.St} {pu : Bool} {bud : Nat} {r : Fl} {Q : VK} {E : XK} (S : SimS C W H s) (h : RvQ C W (retF pu bud s.nx r) Q E) : FlQ C W σ r { nx := fun x H' => Q V.non H', rt := Q } (fun cls d _ H => E cls d H) := by
  have hl : ∀ n c vs, W.lk n = some (c, vs) → n < s.nx := fun n c vs q => by
    obtain ⟨k, l, a, h1, _, _⟩ := S.lock n c vs q
    by_cases e : n < s.nx
    · exact e
    · have := (S.new n (by omega)).1; rw [h1] at this; cases this
  have fin : ∀ {W' : Wd} {H' : Hp} {s' : St}, W.Le W' → SimS C W' H' s' → SimS C W' H' (finC pu bud s.nx s') := fun {W' H' s'} le S' => by
    unfold finC
    cases pu with
    | false => exact S'
    | true =>
      show SimS C W' H' (cond (Nat.beq bud 0) _ _)
      cases Nat.beq bud 0 with
      | true => exact S'.keep s.nx (by rw [le.lk]; exact hl)
      | false =>
      exact (S'.keep s.nx (by rw [le.lk]; exact hl)).up (by
        show s'.nx ≤ cond (Nat.ble (s.nx + bud) s'.nx) s'.nx (s.nx + bud)
        by_cases hb : s.nx + bud ≤ s'.nx
        · rw [Nat.ble_eq_true_of_le hb]; exact Nat.le_refl _
        · cases e : Nat.ble (s.nx + bud) s'.nx with
          | true => exact Nat.le_refl _
          | false => exact Nat.le_of_lt (Nat.lt_of_not_le hb))
  cases r with
  | nx e s' => exact fun W' H' σ' le S' SE' => h W' H' .non le (fin le S') .non
  | rt d s' => exact fun W' H' v le S' r' => h W' H' v le (fin le S') r'
  | bk e s' => exact h.elim
  | exc c p e s' => exact fun W' H' σ' cls dx le S' SE' rx => h W' H' cls dx le (fin le S') rx
  | bad n => exact h.elim
/-! ### the cells that stand are hidden during a call -/
theorem retI_ok {W : Wd} {H : Hp} {s : St} {σ : L2.St} {bud : Nat} {r : Fl} {Q : VK} {E : XK} (S : SimS C W H s) (h : RvQ C W (retI bud s r) Q E) : FlQ C (W.hid H s) σ r { nx := fun x H' => Q V.non H', rt := Q } (fun cls d _ H => E cls d H) := by
  have fin : ∀ {W' : Wd} {H' : Hp} {s' : St}, (W.hid H s).Le W' → SimS C W' H' s' → W.Le (W'.at_ W.lk W.hd) ∧ SimS C (W'.at_ W.lk W.hd) H' (finI bud s s') := fun {W' H' s'} le S' => by
    refine ⟨Wd.Le.unat le, S.unhide le S' _ ?_ ?_⟩
    · by_cases hb : s.nx + bud ≤ s'.nx
      · rw [Nat.ble_eq_true_of_le hb]; show s.nx ≤ s'.nx; omega
      · cases e : Nat.ble (s.nx + bud) s'.nx with
        | true => exact absurd (Nat.le_of_ble_eq_true e) hb
        | false => exact Nat.le_add_right _ _
    · by_cases hb : s.nx + bud ≤ s'.nx
      · rw [Nat.ble_eq_true_of_le hb]; exact Nat.le_refl _
      · cases e : Nat.ble (s.nx + bud) s'.nx with
        | true => exact absurd (Nat.le_of_ble_eq_true e) hb
        | false => exact Nat.le_of_lt (Nat.lt_of_not_le hb)
  cases r with
  | nx e s' => exact fun W' H' σ' le S' SE' => h _ H' .non (fin le S').1 (fin le S').2 .non
  | rt d s' => exact fun W' H' v le S' r' => h _ H' v (fin le S').1 (fin le S').2 (RD.at_ r')
  | bk e s' => exact h.elim
  | exc c p e s' =>
    intro W' H' σ' cls dx le S' SE' rx
    refine h _ H' cls dx (fin le S').1 (fin le S').2 ?_
    obtain ⟨a, h1, h2, h3⟩ := rx
    refine ⟨a, h1, h2, ?_⟩
    rcases h3 with h3 | ⟨pv, v, dx, e1, e2, e3, r⟩
    · exact .inl h3
    · exact .inr ⟨pv, v, dx, e1, e2, e3, RD.at_ r⟩
  | bad n => exact h.elim
/-! ### calls as if no cell stood -/
mutual
theorem RD.nol {W W' : Wd} (hF : ∀ a o, W.F a = some o → W'.F a = some o) : ∀ {d : D} {v : V}, nol d = true → RD C W d v → RD C W' d v
  | _, _, _, .non => .non
  | _, _, _, .bl b => .bl b
  | _, _, _, .int i => .int i
  | _, _, _, .str l => .str l
  | _, _, h0, .tup h r => .tup (h.mono hF) (RDs.nol hF h0 r)
  | _, _, h0, .tpn hd h r => .tpn hd (hF _ _ h) (RDs.nol hF h0 r)
  | _, _, h0, .lst h r => .lst (hF _ _ h) (RDs.nol hF h0 r)
  | _, _, h0, .loc h => by cases h0
  | _, _, _, .fn h => .fn h
  | _, _, _, .tyb h => .tyb h
  | _, _, _, .tyo h h2 => .tyo h h2
  | _, _, _, .scr h => .scr (sqL_mono hF h)
  | _, _, _, .rng h => .rng (hF _ _ h)
  | _, _, _, .exc v => .exc v
theorem RDs.nol {W W' : Wd} (hF : ∀ a o, W.F a = some o → W'.F a = some o) : ∀ {ds : List D} {vs : List V}, nols ds = true → RDs C W ds vs → RDs C W' ds vs
  | _, _, _, .nil => .nil
  | _, _, h0, .cons h r => by
    have h0 := cond_eq_true (show cond (Mv.nol _) (nols _) false = true from h0)
    exact .cons (RD.nol hF h0.1 h) (RDs.nol hF h0.2 r)
end
noncomputable abbrev Wd.zr (W : Wd) (H : Hp) (s : St) : Wd := { W with ρ := fun _ => none, lk := fun _ => none, hd := hdC W H s }
noncomputable abbrev Wd.unz (W' W : Wd) : Wd := { W' with ρ := W.ρ, lk := W.lk, hd := W.hd }
theorem SimS.zero {W : Wd} {H : Hp} {s : St} (S : SimS C W H s) : SimS C (W.zr H s) H ⟨0, []⟩ := by
  have S1 := S.hide
  exact ⟨S1.sub, fun n o h => (by cases h), fun n m a h => (by cases h), fun n h => ⟨rfl, rfl⟩, fun n c vs h => (by cases h), List.nodup_nil, fun a o h => ⟨(S1.hd a o h).1, (S1.hd a o h).2.1, fun n hn => by cases hn⟩, S1.hdT, S1.tab⟩
theorem Wd.Le.unz {W W' : Wd} {H : Hp} {s : St} (le : (W.zr H s).Le W') : W.Le (W'.unz W) := ⟨le.F, fun _ _ h => h, rfl, rfl⟩
theorem SimS.unzero {W W' : Wd} {H H' : Hp} {s s' : St} (S : SimS C W H s) (le : (W.zr H s).Le W') (S' : SimS C W' H' s') : SimS C (W'.unz W) H' s := by
  have leW : W.Le (W'.unz W) := Wd.Le.unz le
  have live : ∀ n o, fnd s.cs n = some o → ∃ a, W.ρ n = some a ∧ W'.F a = none ∧ H' a = H a ∧ CellR C W H a o := fun n o ho => by
    obtain ⟨b, g1, g2, g3⟩ := S.cel n o ho
    obtain ⟨u, hu⟩ := g3.ob
    have : W'.hd b = some u := by rw [le.hd]; exact (hdC_live (by rw [ho]; rfl) g1).trans hu
    obtain ⟨q1, q2, _⟩ := S'.hd b u this
    exact ⟨b, g1, q2, q1.trans hu.symm, g3⟩
  refine ⟨S'.sub, fun n o h => ?_, S.inj, S.new, fun n c vs h => ?_, S.nd, fun a o h => ?_, S.hdT, S'.tab⟩
  · obtain ⟨a, g1, g2, g3, g4⟩ := live n o h
    exact ⟨a, g1, g2, (g4.same g3).mono leW⟩
  · obtain ⟨k, l, a, g1, g2, g3⟩ := S.lock n c vs h
    obtain ⟨b, q1, _, q3, _⟩ := live n _ g1
    rw [g2] at q1; cases q1
    exact ⟨k, l, a, g1, g2, q3.trans g3⟩
  · obtain ⟨g1, g2, g3⟩ := S.hd a o h
    have e : hdC W H s a = some o := by
      unfold hdC
      rw [if_neg (fun ⟨n, q1, q2⟩ => g3 n q1 q2)]; exact h
    obtain ⟨q1, q2, _⟩ := S'.hd a o (by rw [le.hd]; exact e)
    exact ⟨q1, q2, g3⟩
theorem retZ_ok {W : Wd} {H : Hp} {s : St} {σ : L2.St} {r : Fl} {Q : VK} {E : XK} (S : SimS C W H s) (h : RvQ C W (retZ s r) Q E) : FlQ C (W.zr H s) σ r { nx := fun x H' => Q V.non H', rt := Q } (fun cls d _ H => E cls d H) := by
  cases r with
  | nx e s' => exact fun W' H' σ' le S' SE' => h _ H' .non (Wd.Le.unz le) (S.unzero le S') .non
  | rt d s' =>
    obtain ⟨h0, h⟩ := RvQ.cnd (show RvQ C W (cond (nol d) (.ok d s) (.bad 125)) Q E from h)
    exact fun W' H' v le S' r' => h _ H' v (Wd.Le.unz le) (S.unzero le S') (RD.nol (W := W') (W' := W'.unz W) (fun _ _ q => q) h0 r')
  | bk e s' => exact h.elim
  | exc c p e s' =>
    obtain ⟨h0, h⟩ := RvQ.cnd (show RvQ C W (cond (nols p) (.exc c p s) (.bad 125)) Q E from h)
    intro W' H' σ' cls dx le S' SE' rx
    refine h _ H' cls dx (Wd.Le.unz le) (S.unzero le S') ?_
    obtain ⟨a, h1, h2, h3⟩ := rx
    refine ⟨a, h1, h2, ?_⟩
    rcases h3 with h3 | ⟨pv, v, dx, e1, e2, e3, r⟩
    · exact .inl h3
    · subst e1
      have h0 := (cond_eq_true (show cond (Mv.nol pv) (nols []) false = true from h0)).1
      exact .inr ⟨pv, v, dx, rfl, e2, e3, RD.nol (W := W') (W' := W'.unz W) (fun _ _ q => q) h0 r⟩
  | bad n => exact h.elim
/-! ### calls that are known -/
mutual
theorem sqd_ok : ∀ {d e : D}, sqd d e = true → d = e
  | .non, e, h => by cases e <;> first | rfl | cases h
  | .bl a, e, h => by
    cases e <;> first | cases h | skip
    rename_i b
    have h : beqb a b = true := h
    rw [beqb_eq] at h
    rw [eq_of_beq h]
  | .int a, e, h => by
    cases e <;> first | cases h | skip
    rename_i b
    have h : ieqb a b = true := h
    rw [ieqb_eq] at h
    rw [eq_of_beq h]
  | .str a, e, h => by
    cases e <;> first | cases h | skip
    rename_i b
    have h : leqb a b = true := h
    rw [leqb_eq] at h
    rw [eq_of_beq h]
  | .fn a, e, h => by
    cases e <;> first | cases h | skip
    rename_i b
    rw [Nat.eq_of_beq_eq_true (show Nat.beq a b = true from h)]
  | .loc a, e, h => by
    cases e <;> first | cases h | skip
    rename_i b
    rw [Nat.eq_of_beq_eq_true (show Nat.beq a b = true from h)]
  | .tup a, e, h => by
    cases e <;> first | cases h | skip
    rename_i b
    rw [sqds_ok (show sqds a b = true from h)]
  | .lst a, e, h => by
    cases e <;> first | cases h | skip
    rename_i b
    rw [sqds_ok (show sqds a b = true from h)]
  | .tpn a, e, h => by
    cases e <;> first | cases h | skip
    rename_i b
    rw [sqds_ok (show sqds a b = true from h)]
  | .ty _, _, h => by cases h
  | .exc _ _, _, h => by cases h
  | .scr _, _, h => by cases h
  | .rng _ _, _, h => by cases h
theorem sqds_ok : ∀ {d e : List D}, sqds d e = true → d = e
  | [], e, h => by cases e with | nil => rfl | cons _ _ => cases h
  | d :: r, e, h => by
    cases e with
    | nil => cases h
    | cons b t =>
      have h := cond_eq_true (show cond (sqd d b) (sqds r t) false = true from h)
      rw [sqd_ok h.1, sqds_ok h.2]
end
theorem lookM_ok : ∀ {l : MemL} {n : Nat} {ds : List D} {d : D}, lookM l n ds = some d → ∃ e ∈ l, e.1 ≤ n ∧ e.2.1 = ds ∧ e.2.2 = d
  | [], _, _, _, h => by cases h
  | e :: r, n, ds, d, h => by
    have h : cond (Nat.ble e.1 n && sqds e.2.1 ds) (some e.2.2) (lookM r n ds) = some d := h
    cases z : (Nat.ble e.1 n && sqds e.2.1 ds) with
    | true =>
      rw [z] at h
      have z := (Bool.and_eq_true _ _).mp z
      exact ⟨e, List.mem_cons_self, Nat.le_of_ble_eq_true z.1, sqds_ok z.2, Option.some.inj h⟩
    | false =>
      rw [z] at h
      obtain ⟨e', h1, h2⟩ := lookM_ok (show lookM r n ds = some d from h)
      exact ⟨e', List.mem_cons_of_mem _ h1, h2⟩
/-- each def keeps what the calls of Q tell -/
def FnAll (M : Md) (C : Cn) (K : PySem.W.Frag) (mg : Str → Option Value) (Pg : Program) (w : World) (Q : Nat → Option Fd) : Prop := ∀ (lv : Nat) (x : Str) (p : Nat × List Str), List.lookup x M.fns = some p →
  ∀ (f : Addr) (fd : FuncData) (oc : Value) (od : Option Addr) (osl : Array (Option Value)), List.lookup f K = some { cls := oc, dict := od, data := Data.func fd, slots := osl } → mg x = some (.ref f) →
    ∀ base, TBs C base mg → FnOk Pg w K mg base (CX Pg w) lv f fd p.2 (spF C (callN Q lv) p.1)
theorem fns_all {Pg : Program} {w : World} (O : MOk M ar C Pg w K mg P) (l : List (Nat × MemL)) (V : ∀ x p, List.lookup x M.fns = some p → ∀ e ∈ selM l p.1, ∃ Q0, FnAll M C K mg Pg w Q0 ∧ ∀ s, callN Q0 e.1 p.1 e.2.1 s = .ok e.2.2 s) : ∀ lv, ∀ (x : Str) (p : Nat × List Str), List.lookup x M.fns = some p →
  ∀ (f : Addr) (fd : FuncData) (oc : Value) (od : Option Addr) (osl : Array (Option Value)), List.lookup f K = some { cls := oc, dict := od, data := Data.func fd, slots := osl } → mg x = some (.ref f) →
    ∀ base, TBs C base mg → FnOk Pg w K mg base (CX Pg w) lv f fd p.2 (spF C (callN (memP P l) lv) p.1)
  | 0, x, p, h, f, fd, oc, od, osl, hf, hm, base, tb => ⟨fun vs H Q E ⟨W, ds, s, S, r, q⟩ => q.elim, fun A outer s H args us vs Q E _ _ _ _ ⟨W, ds, s', S, r, q⟩ => q.elim⟩
  | lv + 1, x, p, h, f, fd, oc, od, osl, hf, hm, base, tb => by
    have sub : ∀ (y : Str) (q : Nat × List Str), List.lookup y M.fns = some q → ∃ f fd, FnOk Pg w K mg base (CX Pg w) lv f fd q.2 (spF C (callN (memP P l) lv) q.1) ∧ mg y = some (.ref f) ∧ PySem.W.keepIn K (.ref f) = true ∧ PBinds fd q.2 ∧ C.fa q.1 = some f := fun y q hq => by
      obtain ⟨f, oc, od, name, qual, params, body, scope, kV, doc, pm, an, cdv, ct, osl, N, sms, pu, bud, iso, zer, h1, h2, h3, h4, h5, h6, h7, h8, h9⟩ := (O.fns y q hq).ex
      exact ⟨f, _, fns_all O l V lv y q hq f _ _ _ _ h1 h6 base tb, h6, h7, h9, h8⟩
    obtain ⟨f', oc', od', name, qual, params, body, scope, kV, doc, pm, an, cdv, ct, osl', N, sms, pu, bud, iso, zer, h1, h2, h3, h4, h5, h6, h7, h8, h9⟩ := (O.fns x p h).ex
    have e1 : f = f' := by have := hm.symm.trans h6; cases this; rfl
    subst e1
    have e2 : fd = PySem.W.fnOf name qual params body scope .none kV doc pm an cdv ct := by
      have := hf.symm.trans h1
      cases this; rfl
    subst e2
    have ev : ∀ ds s, callN (memP P l) (lv + 1) p.1 ds s = obnd (lookM (selM l p.1) lv ds) (cond (Nat.beq ds.length p.2.length) (cond (zer && nols ds) (retZ s (denB M.cb (callN (memP P l) lv) sms (padE N.length ds) ⟨0, []⟩)) (cond iso (retI bud s (denB M.cb (callN (memP P l) lv) sms (padE N.length ds) ⟨s.nx, []⟩)) (retF pu bud s.nx (denB M.cb (callN (memP P l) lv) sms (padE N.length ds) s)))) (.bad 121)) (fun d => .ok d s) := fun ds s => by
      show obnd (obnd (P p.1) none fun fd => some { fd with mem := lookM (selM l p.1) }) (.bad 123) (fun fd => obnd (fd.mem lv ds) (callF fd (callN (memP P l) lv) ds s) fun d => .ok d s) = _
      rw [h4]; rfl
    let sp0 : Sp := fun vs H Q E => ∃ W ds s, SimS C W H s ∧ RDs C W ds vs ∧ RvQ C W (cond (Nat.beq ds.length p.2.length) (cond (zer && nols ds) (retZ s (denB M.cb (callN (memP P l) lv) sms (padE N.length ds) ⟨0, []⟩)) (cond iso (retI bud s (denB M.cb (callN (memP P l) lv) sms (padE N.length ds) ⟨s.nx, []⟩)) (retF pu bud s.nx (denB M.cb (callN (memP P l) lv) sms (padE N.length ds) s)))) (.bad 121)) Q E
    have F0 : FnOk Pg w K mg base (CX Pg w) (lv + 1) f (PySem.W.fnOf name qual params body scope .none kV doc pm an cdv ct) p.2 sp0 := by
      refine fn_of h1 h2 h3 (fun vs H Q E ⟨W, ds, s, S, r, q⟩ => by rw [← r.length]; exact (beq_true_iff _ _).mp (RvQ.cnd q).1) (fun A outer s H vs Q E hr ⟨W, ds, s', S, r, q⟩ => ?_)
      obtain ⟨q1, q2⟩ := RvQ.cnd q
      have q1 := (beq_true_iff _ _).mp q1
      have hN : ds.length ≤ N.length := by
        have := congrArg List.length h3.pre
        rw [List.length_take] at this
        rw [q1]; omega
      refine ⟨tS C (fun cls d _ H => E cls d H) (denB M.cb (callN (memP P l) lv) sms), goodB (lv := lv) sms (S := fnS N scope (tabO C.T cdv qual)) ?_ h5, ?_⟩
      rotate_left
      · cases hz : (zer && nols ds) with
        | true =>
          rw [hz] at q2
          exact ⟨W.zr H s', padE N.length ds, ⟨0, []⟩, S.zero, start_sim O.er (RDs.nol (W := W) (W' := W.zr H s') (fun _ _ q => q) ((Bool.and_eq_true _ _).mp hz).2 r) hN, retZ_ok S q2⟩
        | false =>
          rw [hz] at q2
          cases iso with
          | true => exact ⟨W.hid H s', padE N.length ds, ⟨s'.nx, []⟩, S.hide, start_sim O.er (RDs.at_ r) hN, retI_ok S q2⟩
          | false => exact ⟨W, padE N.length ds, s', S, start_sim O.er r hN, retF_ok S q2⟩
      have hun := hr.un
      refine { hK := O.hK, hw := O.hw, hu := ?_, N := rfl, nd := h3.nd, sc := rfl, sf := fun _ _ => rfl, calm := rfl, er := (by rw [O.er]; rfl), room := fun _ => hr, fn := fun _ y q hq => (let ⟨f, fd, g1, g2, g3, g4, _⟩ := sub y q hq; ⟨f, fd, g1, g2, g3, g4⟩), fv := fun _ n fa hfa => (let ⟨y, ps', hy⟩ := O.fv n fa hfa; let ⟨f, fd, g1, g2, g3, g4, g5⟩ := sub y (n, ps') hy; have e : f = fa := Option.some.inj (g5.symm.trans hfa); ⟨fd, ps', e ▸ g1, e ▸ g3, g4⟩), fa := fun y q hq => ?_, con := O.con, cls := O.cls, nog := O.nog, lam := ?_, fld := fun Wx i k x xp pos h => (by cases h), isx := fun Wx i k x f y fp xp yp pos h => (by cases h), slp := fun Wx i x g gp xp pos h => (by cases h), hs := rfl, hf := rfl, hp := passes_of rfl, tk := takes_of rfl rfl rfl rfl, base := fun _ => O.base }
      rotate_right
      · intro t ht
        have ht : tabO C.T cdv qual = some t := ht
        have hm := List.mem_of_find?_eq_some ht
        have hp := List.find?_some ht
        simp only [Bool.and_eq_true, decide_eq_true_eq] at hp
        exact ⟨hm, fun p hp' e => O.tabs p hp' t hm e, hp.1, hp.2, tb t hm⟩
      · show (A.deeper _).units + 100 < cLine
        omega
      · obtain ⟨f', _, _, _, _, _, _, _, _, _, _, _, _, _, _, _, _, _, _, _, _, _, _, _, _, _, g6, _, g8, _⟩ := (O.fns y q hq).ex
        exact ⟨f', g6, g8⟩
    have split : ∀ {vs H Q E}, spF C (callN (memP P l) (lv + 1)) p.1 vs H Q E → sp0 vs H Q E ∨ ∃ e ∈ selM l p.1, e.1 ≤ lv ∧ ∃ Q0, FnAll M C K mg Pg w Q0 ∧ spF C (callN Q0 e.1) p.1 vs H Q E := fun {vs H Q E} ⟨W, ds, s, S, r, q⟩ => by
      rw [ev] at q
      cases z : lookM (selM l p.1) lv ds with
      | none => rw [z] at q; exact .inl ⟨W, ds, s, S, r, q⟩
      | some d =>
        rw [z] at q
        obtain ⟨e, he, hn, e1, e2⟩ := lookM_ok z
        obtain ⟨Q0, hQ0, hv⟩ := V x p h e he
        subst e1; subst e2
        exact .inr ⟨e, he, hn, Q0, hQ0, W, _, s, S, r, by rw [hv s]; exact q⟩
    refine ⟨fun vs H Q E q => ?_, fun A outer s H args us vs Q E hr he hb hv q => ?_⟩
    · rcases split q with q | ⟨e, he, hn, Q0, hQ0, q⟩
      · exact F0.len vs H Q E q
      · exact (hQ0 e.1 x p h f _ _ _ _ hf hm base tb).len vs H Q E q
    · rcases split q with q | ⟨e, he', hn, Q0, hQ0, q⟩
      · exact F0.run A outer s H args us vs Q E hr he hb hv q
      · exact ((hQ0 e.1 x p h f _ _ _ _ hf hm base tb).mono (Nat.le_succ_of_le hn)).run A outer s H args us vs Q E hr he hb hv q
theorem fns_ok {Pg : Program} {w : World} (O : MOk M ar C Pg w K mg P) {Q : Nat → Option Fd} (A : FnAll M C K mg Pg w Q) (lv : Nat) (x : Str) (p : Nat × List Str) (h : List.lookup x M.fns = some p) :
    ∃ f fd, (∀ base, TBs C base mg → FnOk Pg w K mg base (CX Pg w) lv f fd p.2 (spF C (callN Q lv) p.1)) ∧ mg x = some (.ref f) ∧ PySem.W.keepIn K (.ref f) = true ∧ PBinds fd p.2 ∧ C.fa p.1 = some f := by
  obtain ⟨f, oc, od, name, qual, params, body, scope, kV, doc, pm, an, cdv, ct, osl, N, sms, pu, bud, iso, zer, h1, h2, h3, h4, h5, h6, h7, h8, h9⟩ := (O.fns x p h).ex
  exact ⟨f, _, fun base tb => A lv x p h f _ _ _ _ h1 h6 base tb, h6, h7, h9, h8⟩
/-- stages: what the calls of one table are known to tell is written into the next one -/
inductive Stg (P : Nat → Option Fd) : (Nat → Option Fd) → Prop where
  | base : Stg P (memP P [])
  | next (Q : Nat → Option Fd) (l : List (Nat × MemL)) (hQ : Stg P Q) (hl : ∀ f, ∀ e ∈ selM l f, ∀ s, callN Q e.1 f e.2.1 s = .ok e.2.2 s) : Stg P (memP P l)
theorem Stg.all {Pg : Program} {w : World} (O : MOk M ar C Pg w K mg P) {Q : Nat → Option Fd} (h : Stg P Q) : FnAll M C K mg Pg w Q := by
  induction h with
  | base => exact fun lv => fns_all O [] (fun x p _ e he => by cases he) lv
  | next Q l hQ hl ih => exact fun lv => fns_all O l (fun x p _ e he => ⟨Q, ih, hl p.1 e he⟩) lv
end
end Mv
end

section
set_option Elab.async false
set_option linter.all false
set_option maxRecDepth 100000
set_option maxHeartbeats 4000000
/-! Fact: what the module's top has left, by a check. -/
namespace Mv
open PySem PySem.Spec PyProof.Rows L2
/-- a def's term -/
structure Ent where
  x : Str
  n : Nat
  ps : List Str
  N : List Str
  k : Nat
  m : Nat
  pu : Bool
  bud : Nat
  iso : Bool
  zer : Bool
  sms : List Sm
inductive TrE where | nil | node (v : Option Ent) (l r : TrE)
/-- 0 at the node; odd n left at n / 2, even n right at n / 2 - 1 -/
def TrE.at : TrE → Nat → Nat → Option Ent
  | .nil, _, _ => none
  | .node v l r, k, n => match k with
    | 0 => none
    | k + 1 => cond (Nat.beq n 0) v (cond (Nat.beq (n % 2) 1) (TrE.at l k (n / 2)) (TrE.at r k (n / 2 - 1)))
noncomputable def fdOf (cb : Nat → Nat) (e : Ent) : Fd := ⟨e.k, e.m, e.pu, e.bud, e.iso, e.zer, fun cl => denB cb cl e.sms, fun _ _ => none⟩
noncomputable def PT (cb : Nat → Nat) (tr : TrE) (n : Nat) : Option Fd := obnd (TrE.at tr 20 n) none fun e => some (fdOf cb e)
def glAt (K : PySem.W.Frag) (x : Str) : Option Addr := match PySem.W.nsIn K mainGlobals x with | some (some (.ref f)) => some f | _ => none
theorem glAt_ok {K : PySem.W.Frag} {x : Str} {f : Addr} (h : glAt K x = some f) : PySem.W.nsIn K mainGlobals x = some (some (.ref f)) := by
  unfold glAt at h
  split at h
  · rename_i e; cases h; exact e
  · cases h
def faK (fns : List (Str × Nat × List Str)) (K : PySem.W.Frag) (n : Nat) : Option Addr := match fns.find? (fun q => Nat.beq q.2.1 n) with | some q => glAt K q.1 | none => none
def caK (cls : List (Str × Nat)) (K : PySem.W.Frag) (n : Nat) : Option Addr := match cls.find? (fun q => Nat.beq q.2 n) with | some q => glAt K q.1 | none => none
/-- a def's scope -/
def scpB (N ps : List Str) (sc : Scope) : Bool := (match sc.kind with | .function => true | _ => false) && !sc.isCoroutine && !sc.isGenerator && decide N.Nodup && decide (N.take ps.length = ps) &&
  (ps.all fun x => match List.lookup x sc.names with | some .local => true | some .cell => true | _ => false) && (sc.names.all fun y => match y.2 with | .free => false | _ => true)
theorem scpB_ok {N ps : List Str} {sc : Scope} (h : scpB N ps sc = true) : FnScope N ps sc := by
  unfold scpB at h
  simp only [Bool.and_eq_true, Bool.not_eq_true', decide_eq_true_eq] at h
  obtain ⟨⟨⟨⟨⟨⟨h1, h2⟩, h3⟩, h4⟩, h5⟩, h6⟩, h7⟩ := h
  refine ⟨?_, h2, h3, h4, h5, fun x hx => ?_, fun y hy e => ?_⟩
  · split at h1
    · assumption
    · cases h1
  · have := List.all_eq_true.mp h6 x hx
    split at this
    · exact .inl (by assumption)
    · exact .inr (by assumption)
    · cases this
  · have := List.all_eq_true.mp h7 y hy
    rw [e] at this
    cases this
/-- the arguments, nothing else in a def's head -/
def parsB : Arguments → Option (List Arg)
  | ⟨[], as, none, [], [], none, []⟩ => some as
  | _ => none
theorem parsB_ok {a : Arguments} {as : List Arg} (h : parsB a = some as) : a = plainA as := by
  unfold parsB at h
  split at h
  · cases h; rfl
  · cases h
noncomputable def fnB (M : Md) (ar : Nat → Nat) (T : List (Addr × Addr × Str)) (K : PySem.W.Frag) (e : Ent) : Bool := match glAt K e.x with
  | some f => (match List.lookup f K with
    | some ⟨_, _, .func fd, _⟩ => (match fd.body with | .stmts body => ckB M ar e.sms (fnS e.N fd.scope (tabO T fd.code fd.qualname)) body | _ => false) &&
        (match parsB fd.params with | some as => decide (as.map (·.arg) = e.ps) | none => false) && decide (fd.globals = mainGlobals) && fd.closure.isEmpty && (match fd.defaults with | .none => true | _ => false) && decide (fd.builtins = builtinsNs) &&
        PySem.W.codeIn K fd.code fd.qualname && PySem.W.keepIn K (.ref f) && scpB e.N e.ps fd.scope && decide e.ps.Nodup && Nat.beq e.k e.ps.length && Nat.beq e.m e.N.length && decide (faK M.fns K e.n = some f)
    | _ => false)
  | none => false
theorem plain_PBinds {name qual : Str} {as : List Arg} {body : List Stmt} {scope : Scope} {kV doc pm cdv ct : Value} {an : Option Addr} (hn : (as.map (·.arg)).Nodup) : PBinds (PySem.W.fnOf name qual (plainA as) body scope .none kV doc pm an cdv ct) (as.map (·.arg)) :=
  ⟨hn, fun s us kw h1 h2 h3 => BindsTo.of_eq (binds_gen name qual as body scope kV doc pm cdv ct an us kw (by simpa using h1) h2 h3)⟩
theorem fnB_ok {M : Md} {ar : Nat → Nat} {C : Cn} {K : PySem.W.Frag} {mg : Str → Option Value} {h : Heap} {P : Nat → Option Fd} (X : K.In h) (G : h.Ns mainGlobals mg) (hfa : C.fa = faK M.fns K) {e : Ent} (hP : P e.n = some (fdOf M.cb e)) (hb : fnB M ar C.T K e = true) : FnFact M ar C K mg P e.x e.n e.ps := by
  unfold fnB at hb
  split at hb
  · rename_i f hf
    split at hb
    · rename_i oc od fd osl hl
      simp only [Bool.and_eq_true, decide_eq_true_eq] at hb
      obtain ⟨⟨⟨⟨⟨⟨⟨⟨⟨⟨⟨⟨h1, h2⟩, h3⟩, h4⟩, h5⟩, h6⟩, h7⟩, h8⟩, h9⟩, h10⟩, h11⟩, h12⟩, h13⟩ := hb
      have h11 := (beq_true_iff _ _).mp h11
      have h12 := (beq_true_iff _ _).mp h12
      obtain ⟨name, qual, params, fbody, scope, gl, cls, dV, kV, doc, pm, an, cdv, ct, bi⟩ := fd
      simp only at h1 h2 h3 h4 h5 h6 h7 h9
      split at h1
      · rename_i body
        split at h2
        · rename_i as ha
          have h2 : as.map (·.arg) = e.ps := by simpa using h2
          have hp := parsB_ok ha
          subst hp
          have h4 : cls = [] := by simpa using h4
          subst h3; subst h4; subst h6
          split at h5
          · refine ⟨f, oc, od, name, qual, plainA as, body, scope, kV, doc, pm, an, cdv, ct, osl, e.N, e.sms, e.pu, e.bud, e.iso, e.zer, hl, h7, scpB_ok h9, ?_, h1, PySem.W.mg_of X G (glAt_ok hf), h8, by rw [hfa]; exact h13, ?_⟩
            · rw [hP, ← h11, ← h12]; rfl
            · rw [← h2]; exact plain_PBinds (by rw [h2]; exact h10)
          · cases h5
        · cases h2
      · cases h1
    · cases hb
  · cases hb
/-- a constant of the module -/
def conB (K : PySem.W.Frag) (x : Str) (d : D) : Bool := match PySem.W.nsIn K mainGlobals x, d with
  | some (some (.int i _)), .int j => decide (i = j)
  | some (some (.str s _)), .str l => decide (s.cps.toList = l)
  | _, _ => false
theorem conB_ok {K : PySem.W.Frag} {C : Cn} {mg : Str → Option Value} {h : Heap} (X : K.In h) (G : h.Ns mainGlobals mg) {x : Str} {d : D} (hb : conB K x d = true) : ∃ v u, mg x = some u ∧ L2.RelV v u ∧ ∀ W, RD C W d v := by
  unfold conB at hb
  split at hb
  · rename_i i t j e
    have hb : i = j := by simpa using hb
    subst hb
    exact ⟨.int i, _, PySem.W.mg_of X G e, ⟨t, rfl⟩, fun W => .int _⟩
  · rename_i s t l e
    have hb : s.cps.toList = l := by simpa using hb
    subst hb
    exact ⟨.str s, _, PySem.W.mg_of X G e, ⟨t, rfl⟩, fun W => RD.str s.cps.toList⟩
  · cases hb
def entP (o : Option Ent) : Option (Str × Nat × List Str) := match o with | some e => some (e.x, e.n, e.ps) | none => none
noncomputable def entB (M : Md) (ar : Nat → Nat) (T : List (Addr × Addr × Str)) (K : PySem.W.Frag) (n : Nat) (o : Option Ent) : Bool := match o with | some e => Nat.beq e.n n && fnB M ar T K e | none => false
/-- the whole module -/
noncomputable def modB (M : Md) (ar : Nat → Nat) (tr : TrE) (T : List (Addr × Addr × Str)) (K : PySem.W.Frag) : Bool :=
  decide ((List.range M.fns.length).map (fun n => entP (TrE.at tr 20 n)) = M.fns.map some) && (List.range M.fns.length).all (fun n => entB M ar T K n (TrE.at tr 20 n)) && decide (M.fns.map (·.1)).Nodup && decide (M.cls.map (·.1)).Nodup &&
    M.con.all (fun q => conB K q.1 q.2) && M.cls.all (fun q => (match glAt K q.1 with | some a => decide (caK M.cls K q.2 = some a) | none => false) && Nat.ble 10 q.2) && M.nog.all (fun x => match PySem.W.nsIn K mainGlobals x with | some none => true | _ => false) && decide (T.map fun t => t.2.1).Nodup
theorem look_mem {β : Type} {x : Str} {b : β} : ∀ {l : List (Str × β)}, List.lookup x l = some b → (x, b) ∈ l
  | [], h => by cases h
  | q :: l, h => by
    rw [List.lookup_cons] at h
    by_cases e : x = q.1
    · rw [show (x == q.1) = true by simpa using e] at h
      cases h
      rw [e]; exact List.mem_cons_self
    · rw [show (x == q.1) = false by simpa using e] at h
      exact List.mem_cons_of_mem _ (look_mem h)
theorem mem_look {β : Type} {x : Str} {b : β} : ∀ {l : List (Str × β)}, (l.map (·.1)).Nodup → (x, b) ∈ l → List.lookup x l = some b
  | [], _, h => by simp at h
  | q :: l, hn, h => by
    rw [List.map_cons, List.nodup_cons] at hn
    rw [List.lookup_cons]
    rcases List.mem_cons.mp h with e | e
    · subst e; simp
    · have : x ≠ q.1 := fun z => hn.1 (by rw [← z]; exact List.mem_map.mpr ⟨_, e, rfl⟩)
      rw [show (x == q.1) = false by simpa using this]
      exact mem_look hn.2 e
theorem nodup_one {α β : Type} {f : α → β} : ∀ {l : List α}, (l.map f).Nodup → ∀ p ∈ l, ∀ q ∈ l, f p = f q → p = q
  | a :: l, h, p, hp, q, hq, e => by
    rw [List.map_cons, List.nodup_cons] at h
    rcases List.mem_cons.mp hp with z | z
    · rcases List.mem_cons.mp hq with y | y
      · rw [z, y]
      · exact absurd (List.mem_map.mpr ⟨q, y, by rw [← e, z]⟩) h.1
    · rcases List.mem_cons.mp hq with y | y
      · exact absurd (List.mem_map.mpr ⟨p, z, by rw [e, y]⟩) h.1
      · exact nodup_one h.2 p z q y e
theorem modB_ok {M : Md} {ar : Nat → Nat} {tr : TrE} {C : Cn} {K : PySem.W.Frag} {mg : Str → Option Value} {h : Heap} (X : K.In h) (G : h.Ns mainGlobals mg) (hK : C.K = K) (he : C.er = none) (hfa : C.fa = faK M.fns K) (hca : C.ca = caK M.cls K) (hb : modB M ar tr C.T K = true) {prog : Program} {w : World} (hw : C.w = w) (B : Base M ar C prog K mg) : MOk M ar C prog w K mg (PT M.cb tr) := by
  unfold modB at hb
  simp only [Bool.and_eq_true, decide_eq_true_eq] at hb
  obtain ⟨⟨⟨⟨⟨⟨⟨h1, h2⟩, h3⟩, h4⟩, h5⟩, h6⟩, h7⟩, h8⟩ := hb
  refine ⟨hK, hw, he, fun x p hp => ?_, fun n fa hn => ?_, fun x d hd => ?_, fun x k hk => ?_, fun x hx => ?_, fun p hp q hq e => by rw [nodup_one h8 p hp q hq e], B⟩
  · have hm := look_mem hp
    obtain ⟨i, hi, e⟩ := List.getElem_of_mem hm
    have hg := congrArg (fun l => l[i]?) h1
    simp only [List.getElem?_map, List.getElem?_range hi, Option.map_some, List.getElem?_eq_getElem hi, e, Option.some.injEq] at hg
    have hq := List.all_eq_true.mp h2 i (by simpa using hi)
    unfold entB at hq
    split at hq
    · rename_i en hen
      rw [hen] at hg
      have hg : some (en.x, en.n, en.ps) = some (x, p) := hg
      cases hg
      simp only [Bool.and_eq_true] at hq
      have hin := (beq_true_iff _ _).mp hq.1
      refine fnB_ok X G hfa ?_ hq.2
      show obnd (TrE.at tr 20 en.n) none _ = _
      rw [hin, hen]; rfl
    · cases hq
  · rw [hfa] at hn
    unfold faK at hn
    split at hn
    · rename_i q hq
      have hm := List.mem_of_find?_eq_some hq
      have hp := List.find?_some hq
      have hp := (beq_true_iff _ _).mp hp
      exact ⟨q.1, q.2.2, mem_look h3 (by rw [← hp]; exact hm)⟩
    · cases hn
  · exact conB_ok X G (List.all_eq_true.mp h5 _ (look_mem hd))
  · have hq := List.all_eq_true.mp h6 _ (look_mem hk)
    simp only [Bool.and_eq_true] at hq
    obtain ⟨q1, q2⟩ := hq
    split at q1
    · rename_i a ha
      have q1 : caK M.cls K k = some a := by simpa using q1
      refine ⟨a, PySem.W.mg_of X G (glAt_ok ha), by rw [hca]; exact q1, ?_⟩
      have q2 := Nat.ble_eq.mp q2
      unfold tyName
      split <;> first | omega | rfl
    · cases q1
  · have hm : x ∈ M.nog := by simpa using hx
    have hq := List.all_eq_true.mp h7 x hm
    split at hq
    · exact PySem.W.mg_none_of X G (by assumption)
    · cases hq
end Mv
end

section
set_option Elab.async false
set_option linter.all false
set_option maxRecDepth 100000
set_option maxHeartbeats 4000000
/-! Pay: raise X(v), where X's __init__ says super().__init__(v); self.f = v. -/
namespace Mv
open PySem PySem.Spec PySem.W PySem.Calls PyProof.Rows PySem.HandSPX
/-- what a built-in error class says -/
structure PayF (B newId initId : String) (tl : List Value) : Prop where
  F : ExcBaseFacts B newId initId tl
  S : StoreFacts B tl "object.__setattr__" "object"
  ty : typeOf (.builtin initId) = pure (.type "wrapper_descriptor")
  nac : (kfb_private% "nameAndClass") (Value.builtin initId) = (pure (("__init__" : Str), Value.type B) : Sem (Str × Value))
  alo : ∀ K : Frag, alongIn K "__init__" tl = some (some (.builtin initId))
theorem payF_ValueError : PayF "ValueError" "ValueError.__new__" "ValueError.__init__" [.type "ValueError", .type "Exception", .type "BaseException", .type "object"] where
  F := F.excBase_ValueError
  S := F.store_ValueError
  ty := by show builtinType _ = _; rw [builtinType_eq_fast]; kernel_rfl
  nac := by kernel_rfl
  alo := fun K => by kernel_rfl
theorem payF_LookupError : PayF "LookupError" "LookupError.__new__" "LookupError.__init__" [.type "LookupError", .type "Exception", .type "BaseException", .type "object"] where
  F := F.excBase_LookupError
  S := F.store_LookupError
  ty := by show builtinType _ = _; rw [builtinType_eq_fast]; kernel_rfl
  nac := by kernel_rfl
  alo := fun K => by kernel_rfl
abbrev bwI (initId : String) (x : Addr) : Obj := { cls := .type "method-wrapper", dict := none, data := .fields #[.builtin initId, .ref x], slots := #[] }
section
variable {prog : Program} {w : World} {M : Model} {A : Around} {E : Value → Shared → Prop} {h : Heap} {g : Array GenState} {d : Drawn} {t : Nat} {os : OsState} {B newId initId : String} {tl : List Value}
theorem run_wdI (P : PayF B newId initId tl) {x C : Addr} {R : Fin → Shared → Prop} (hin : W.Looks M h (isInstance (.ref x) (.type B)) true) (hq : R (.done (.ret (.ref h.objs.size))) ⟨h.push (bwI initId x), g, d, t, os⟩) :
    wpAny M A (Builtin.«wrapper_descriptor.__get__» ⟨[.builtin initId, .ref x, .ref C], []⟩) R E ⟨h, g, d, t, os⟩ := by
  unfold Builtin.«wrapper_descriptor.__get__»
  refine wpAny_bind (wpAny_of_eq (a := (.builtin initId, some (.ref x), some (.ref C))) (by first | rfl | kernel_rfl) ?_)
  show wpAny M A ((kfb_private% "checkInstance") (.builtin initId) (.ref x) >>= fun _ => newFields "method-wrapper" [.builtin initId, .ref x] >>= fun r => ret r) R E _
  refine wpAny_bind ?_
  show wpAny M A ((kfb_private% "nameAndClass") (.builtin initId) >>= _) _ E _
  refine wpAny_bind (wpAny_of_eq P.nac ?_)
  show wpAny M A (isInstance (.ref x) (.type B) >>= _) _ E _
  refine wpAny_bind (hin.at ?_)
  refine KFB.if_not rfl ?_
  refine wpAny_pure ?_
  exact wpAny_bind (wpAny_newObj_type (wpAny_pure hq))
theorem super_gaI (P : PayF B newId initId tl) {so D x C : Addr} {l₀ l : List Value} {K : Frag} {name : Str} {tk : Tok} {Q : Fin → Shared → Prop}
    (hso : h.get? so = some { cls := .type "super", dict := none, data := .fields #[.ref D, .ref x, .ref C], slots := #[] }) (hno : W.Looks (model prog w) h (opaqueClassAbove (.ref C)) none)
    (hC : W.Looks (model prog w) h (mroOf (.ref C)) l₀) (hl : (l₀.dropWhile (· != .ref D)).drop 1 = l) (X : K.In h)
    (hf : alongIn K name l = some (some (.builtin initId))) (hxC : x ≠ C) (hn : (name == ("__class__" : Str)) = false) (hin : W.Looks (model prog w) h (isInstance (.ref x) (.type B)) true)
    (hq : Q (.done (.ret (.ref h.objs.size))) ⟨h.push (bwI initId x), g, d, t, os⟩) :
    wpAny (model prog w) A (Builtin.«super.__getattribute__» ⟨[.ref so, .str name tk], []⟩) Q E ⟨h, g, d, t, os⟩ := by
  have hlk := ESX.slot_wd.lookup
  have hne : (Value.ref x == Value.ref C) = false := by simp [hxC]
  have hTf := P.ty
  have hTi : Shared.TypeIs ⟨h, g, d, t, os⟩ (.builtin initId) "wrapper_descriptor" := P.ty
  have hdt : ({ cls := .type "super", dict := none, data := .fields #[.ref D, .ref x, .ref C], slots := #[] } : Obj).data = .fields #[.ref D, .ref x, .ref C] := rfl
  have f0 : (#[.ref D, .ref x, .ref C] : Array Value)[0]? = some (.ref D) := rfl
  have f1 : (#[.ref D, .ref x, .ref C] : Array Value)[1]? = some (.ref x) := rfl
  have f2 : (#[.ref D, .ref x, .ref C] : Array Value)[2]? = some (.ref C) := rfl
  unfold Builtin.«super.__getattribute__»
  repeat (first
    | (with_reducible refine wpAny_field hso hdt f0 ?_) | (with_reducible refine wpAny_field hso hdt f1 ?_) | (with_reducible refine wpAny_field hso hdt f2 ?_)
    | (with_reducible refine ks_wpAny_notOpaque hno ?_)
    | (with_reducible refine Looks.at hC ?_; rw [hl])
    | (refine ks_forIn_along X (fun _ _ => rfl) rfl ?_ hf)
    | (with_reducible refine wpAny_call_entry ESX.slot_wd hTi ESX.entry_wd ?_ (ESX.args_wd _ _ _))
    | (with_reducible refine run_wdI P hin ?_)
    | (with_reducible refine ⟨_, rfl, ?_⟩)
    | (simp only [hn, hne, Bool.or_false, Bool.false_eq_true, if_false])
    | wp_step
    | dsimp only)
  all_goals exact hq
theorem getMethod_superI (P : PayF B newId initId tl) {so D x C : Addr} {l₀ l : List Value} {K : Frag} {name : Str} {pl : Sem Bool} {Q : Value × List Value → Shared → Prop}
    (hso : h.get? so = some { cls := .type "super", dict := none, data := .fields #[.ref D, .ref x, .ref C], slots := #[] }) (hno : W.Looks (model prog w) h (opaqueClassAbove (.ref C)) none)
    (hC : W.Looks (model prog w) h (mroOf (.ref C)) l₀) (hl : (l₀.dropWhile (· != .ref D)).drop 1 = l) (X : K.In h)
    (hf : alongIn K name l = some (some (.builtin initId))) (hxC : x ≠ C) (hn : (name == ("__class__" : Str)) = false) (hin : W.Looks (model prog w) h (isInstance (.ref x) (.type B)) true)
    (hq : Q (.ref h.objs.size, []) ⟨h.push (bwI initId x), g, d, t + 1, os⟩) :
    wpAny (model prog w) A (getMethod (.ref so) name pl) Q E ⟨h, g, d, t, os⟩ := by
  have hlk := F.ks_slot_super_ga.lookup
  have hcan := F.ks_canon_super_ga
  have hT : ∀ t', (⟨h, g, d, t', os⟩ : Shared).TypeIs (.ref so) "super" := fun _ => ⟨_, hso, rfl⟩
  unfold getMethod
  refine wpAny_bind (wpAny_specialOf (hT _) hlk ?_)
  show wpAny _ _ (if (Manifest.canonical "super.__getattribute__" != "object.__getattribute__") = true then _ else _) _ _ _
  rw [if_pos hcan]
  unfold getAttr getAttrBy
  refine wpAny_bind (wpAny_bind (wpAny_mkText (wpAny_holding (wpAny_bind (wpAny_typeOf (hT _) (wpAny_bind (wpAny_of_eq hlk ?_)))))))
  show wpAny _ _ (getAttrByItsOwn (.ref so) (.str name t) (.type "super") (.builtin "super.__getattribute__") true false) _ _ _
  unfold getAttrByItsOwn hookBefore callGetattribute boundAndCalled
  refine wpAny_bind (wpAny_of_eq (show (if onTheHeap (.type "super") then typeLookup (.type "super") "__getattr__" else pure none) = pure none from rfl) ?_)
  refine wpAny_bind (wpAny_attempt (wpAny_holding ?_))
  show wpAny _ _ (bindSpecial (.builtin "super.__getattribute__") (.ref so) >>= _) _ _ _
  refine wpAny_bind (wpAny_of_eq (F.ks_slot_super_ga.bind _) ?_)
  refine wpAny_mono (Q := fun v s' => v = .ref h.objs.size ∧ s' = ⟨h.push (bwI initId x), g, d, t + 1, os⟩) (E := fun _ _ => False)
    (wpAny_call_entry F.ks_slot_super_ga (hT _) F.ks_entry_super_ga (super_gaI P hso hno hC hl X hf hxC hn hin ⟨_, rfl, rfl, rfl⟩) (F.ks_gaArgs_super _ _)) (fun v s' hv => ?_) fun _ _ z => z.elim
  obtain ⟨rfl, rfl⟩ := hv
  exact wpAny_pure (wpAny_pure hq)
theorem callWith_bwI {s : Shared} {pos : Pos} {u x : Addr} {first : List Value} {args : List (Bool × Sem Value)} {Q : Value → Shared → Prop} (hplain : args.any (·.1) = false)
    (h : wpAny M A (evalArgs (.ref u) true args []) (fun a s₁ => s₁.heap.get? u = some (bwI initId x) ∧ wpAny M A (call (.ref u) (first ++ a.pos) a.kw) Q E s₁) E s) : wpAny M A (callWith pos (.ref u) first args []) Q E s := by
  unfold callWith
  refine wpAny_bind (wpAny_holding (wpAny_mono h (fun a s₁ h₁ => wpAny_bind (wpAny_standAt ?_)) fun _ _ x => x))
  obtain ⟨ho, hcall⟩ := h₁
  simp only [hplain, List.any_nil, Bool.or_false]
  refine wpAny_bind (m := keeperOf (.ref u)) ?_
  unfold keeperOf
  refine wpAny_bind (wpAny_load ho ?_)
  simp only [bwI, show (Value.type "method-wrapper" != Value.type "method") = true by decide, show (Value.type "method-wrapper" == Value.type "builtin_function_or_method" || Value.type "method-wrapper" == Value.type "method-wrapper") = true by decide, if_true]
  refine wpAny_pure ?_
  exact wpAny_bind (wpAny_mono hcall (fun r s₂ hr => wpAny_bind (wpAny_holding (wpAny_point (wpAny_pure hr)))) fun _ _ x => x)
theorem callWith_boundI {s : Shared} {pos : Pos} {u x : Addr} {first : List Value} {env : PySem.Env} {e : Expr} {rest : List Expr} {Q : Value → Shared → Prop}
    (h : wpAny M A (spliced (backTo pos (starEach (e :: rest) env))) (fun vs s₁ => s₁.heap.get? u = some (bwI initId x) ∧ wpAny M A (call (.ref u) (first ++ vs)) Q E s₁) E s)
    (he : starEach (e :: rest) env = (false, eval e env) :: starEach rest env := by rfl) (hplain : (backTo pos (starEach rest env)).any (·.1) = false := by rfl) :
    wpAny M A (callWith pos (.ref u) first (backTo pos (starEach (e :: rest) env)) []) Q E s := by
  rw [he] at h ⊢
  refine callWith_bwI (x := x) (initId := initId) (by show (false || (backTo pos (starEach rest env)).any (·.1)) = false; rw [hplain]; rfl) ?_
  exact evalArgs_plain h
variable {nm q : Str} {C N : Addr} {bs bm : List Value} {hdct : Bool} {sn : List Str} {sub : List Value} {ab : Bool} {col : Option Bool} {dd : Option Addr} {k0 k1 k2 k3 k5 : Option Value}
theorem call_bwI (P : PayF B newId initId tl) {u e t0 : Addr} {rest : List Value} {Q : Value → Shared → Prop}
    (hC : h.get? C = some (excClassObj nm q C N bs bm hdct sn sub ab col dd k0 k1 k2 k3 k5 newId)) (he : h.get? e = some (HandSPX.excO C t0)) (hu : h.get? u = some (bwI initId e)) (hrest : rest.length ≤ sizeLine)
    (hq : ∀ h' t1, (∀ b o, b ≠ e → h.get? b = some o → h'.get? b = some o) → h'.get? e = some (HandSPX.excO C t1) → Q .none ⟨h', g, d, t, os⟩) :
    wpAny (model prog w) A (call (.ref u) rest) Q E ⟨h, g, d, t, os⟩ := by
  refine wpAny_call (codeAny_of_tree ?_)
  show wpAny _ A.in1 (callAny (.ref u) ⟨rest, []⟩) _ _ _
  simp only [callAny]
  refine wpAny_bind (wpAny_load hu ?_)
  simp only [bwI, show (Value.type "method-wrapper" == Value.type "method" || Value.type "method-wrapper" == Value.type "builtin_function_or_method" || Value.type "method-wrapper" == Value.type "method-wrapper") = true by decide, if_true]
  refine W.KFB.if_so (by decide) ?_
  refine wpAny_bind (ESX.check_bound P.F hC he rfl ?_)
  refine wpAny_bind (wpAny_pure (wpAny_pure ?_))
  refine ⟨plainId_quiet P.F.init.plain _, codeAny_builtin P.F.initEntry ?_⟩
  rw [Around.under_plainId P.F.init.plain _]
  wp_walk
  refine hq _ h.objs.size (fun b o hb ho => ?_) ?_
  · rw [Heap.get?_update_other _ _ (Ne.symm hb)]
    exact Heap.get?_push_of_some _ ho
  · rw [Heap.get?_update_self _ (Heap.get?_push_of_some _ he) rfl]
    rfl
end
/-! ### self.f = v -/
section
open Builtin Builtin.ObjectAttr
variable {prog : Program} {w : World} {A : Around} {E : Value → Shared → Prop} {R : Result → Shared → Prop} {hp : Heap} {g : Array GenState} {d : Drawn} {t : Nat} {os : OsState} {B newId initId : String} {tl : List Value}
theorem osaI (P : PayF B newId initId tl) {K : W.Frag} {name : Str} {tk : Tok} {v : Value} {x C : Addr} {fv : Array Value} {cd : ClassData}
    (X : K.In hp) (hx : hp.get? x = some { cls := .ref C, data := .fields fv }) (hcd : W.clsIn K C = some cd) (hm : cd.mro = .ref C :: tl) (hh : cd.hasDict = true) (ha : W.findIn K (.ref C) name = some none)
    (hq : ∀ h' tk' dx, (∀ b o, b ≠ x → hp.get? b = some o → h'.get? b = some o) → hp.objs.size ≤ dx → dx ≠ x → h'.get? x = some { cls := .ref C, dict := some dx, data := .fields fv } →
      h'.Ns1 dx (fun y => if y = name then some v else none) → R (.ok (.ret .none)) ⟨h', g, d, tk', os⟩) :
    codeAny (model prog w) A (.call (.builtin "object.__setattr__") ⟨[.ref x, .str name tk, v], []⟩) R ⟨hp, g, d, t, os⟩ := by
  have I : W.InstAt hp x { cls := .ref C, data := .fields fv } C none := ⟨hx, rfl, rfl, trivial⟩
  have SF := F.store_object
  have ne : cd.mro.isEmpty = false := by rw [hm]; rfl
  have hob : cd.mro.contains (.type "object") = true := by rw [hm, List.contains_cons, P.S.hasOwner, Bool.or_true]
  have hxs : x ≠ hp.objs.size := Nat.ne_of_lt (Heap.lt_size hx)
  have sub : W.Looks (model prog w) hp (isInstance (.ref x) (.type "object")) true := I.type.andThen (W.looks_mroIn X (by unfold W.mroIn; rw [hcd, Option.bind_some, if_neg (by rw [ne]; decide), hob]))
  refine codeAny_call_builtin SF.slot.plain SF.entry (@W.check_slot (model prog w) _ _ ⟨hp, g, d, t, os⟩ "object.__setattr__" "object" "__setattr__" (.ref x) [.str name tk, v] [] _ SF.kind SF.split sub (SF.args (.ref x) (.str name tk) v) ?_)
  have hmr : W.Looks (model prog w) hp (mroOf (.ref C)) cd.mro := (W.looks_clsIn X hcd).andThen .now
  have L3 : W.Looks (model prog w) hp (storeTaker? none) none := .now
  have hcls : W.Looks (model prog w) hp (classData C) cd := W.looks_clsIn X hcd
  have hpass : refuseLoop (.ref x) "__setattr__" cd.mro = pure () := by
    rw [hm, refuseLoop_ref]
    exact P.S.passes _
  rw [W.osa_eq, refuse_eq]
  refine wpAny_bind (wpAny_bind (I.type.at (wpAny_bind (hmr.at ?_))))
  rw [hpass]
  refine wpAny_pure (wpAny_bind (I.type.at (wpAny_bind ((W.looks_findIn X ha).at (wpAny_bind (L3.at ?_))))))
  show wpAny _ _ (storeInOwnDict (.ref x) (.ref C) (.str name tk) name v false) _ _ _
  obtain ⟨nm, bs, mro, ns, qn, hd, sn, sb, ab, col, del⟩ := cd
  dsimp only at hh
  subst hh
  unfold storeInOwnDict ownDictForStores
  repeat (first | with_reducible refine store_in_new ?_ ?_ | with_reducible refine wpAny_loadPart_at hx ?_ | with_reducible refine hcls.at ?_ | wp_step)
  · exact ⟨_, #[], _, (Heap.get?_update_ne _ _ _ _ hxs.symm).trans (Heap.get?_push_at rfl rfl), rfl, fun e he => absurd he (by simp), fun _ => rfl⟩
  · intro h' tk' hn' hs
    have hx₁ : (hp.push { cls := .type "dict", data := .dict #[] }).get? x = some { cls := .ref C, data := .fields fv } := Heap.get?_push_of_some _ hx
    refine hq h' tk' hp.objs.size (fun b o hb ho => ?_) (Nat.le_refl _) hxs.symm ?_ hn'
    · exact (hs.2 b (Nat.ne_of_lt (Heap.lt_size ho))).trans ((Heap.get?_update_ne _ _ _ _ hb).trans (Heap.get?_push_of_some _ ho))
    · exact (hs.2 x hxs).trans (Heap.get?_update_self _ hx₁ rfl)
end
end Mv
end

section
set_option Elab.async false
set_option linter.all false
set_option maxRecDepth 100000
set_option maxHeartbeats 4000000
/-! Pay2: the __init__ of such a class. -/
namespace Mv
open PySem PySem.Spec PySem.W PySem.Calls PyProof.Rows PySem.HandSPX
abbrev selfN : Str := Str.ofString "self"
theorem binds_ks (name qual f : Str) (a1 a2 : Option Expr) (p1 p2 : Pos) (body : List Stmt) (scope : Scope) (kV doc pm cdv ct : Value) (an : Option Addr) (cc : Addr) (x v : Value) (hf : (f == selfN) = false) (s : Shared) :
    BindsTo s (ksFn name qual (plainA [⟨selfN, a1, p1⟩, ⟨f, a2, p2⟩]) body scope .none kV doc pm an cdv ct cc) ⟨[x, v], []⟩ [(selfN, x), (f, v)] := by
  have hf2 : (selfN == f) = false := by
    have : ¬ f = selfN := by simpa using hf
    simpa using fun z => this z.symm
  refine BindsTo.of_eq ?_
  have e : bindArgs (ksFn name qual (plainA [⟨selfN, a1, p1⟩, ⟨f, a2, p2⟩]) body scope .none kV doc pm an cdv ct cc) ⟨[x, v], []⟩ = bindArgs (fnOf name qual (plainA [⟨selfN, a1, p1⟩, ⟨f, a2, p2⟩]) body scope .none kV doc pm an cdv ct) ⟨[x, v], []⟩ := rfl
  rw [e, binds_gen name qual [⟨selfN, a1, p1⟩, ⟨f, a2, p2⟩] body scope kV doc pm cdv ct an [x, v] [] (by simp) trivial (fun n hn => by
    simp only [List.map_cons, List.map_nil, List.mem_cons, List.not_mem_nil, or_false] at hn
    rcases hn with rfl | rfl
    · simp
    · simp [List.lookup_cons, hf])]
  simp [gN, List.lookup_cons, hf]
theorem meth_wpAt {M : Model} {A : Around} {c : Code} {E : Value → Shared → Prop} {s : Shared} {env : PySem.Env} {o : Expr} {name : Str} {apos pos : Pos} {e : Expr} {Q : Value → Shared → Prop} (hs : nst e = true) (hline : (apos.endLine == pos.line) = true)
    (h : _root_.PySem.wpAt M A c (attributeBase o name env (eval o env)) (fun ov s₁ => ∀ pl, wpAny M A (getMethod ov name pl) (fun fx s₂ => wpAny M A (callWith pos fx.1 fx.2 (backTo pos (starEach [e] env)) []) Q E s₂) E s₁) E s) :
    _root_.PySem.wpAt M A c (eval (.Call (.Attribute o name apos) [e] [] pos) env) Q E s := by
  rw [arm_eval_Call]
  refine _root_.PySem.wpAt_bind (ks_wpAt_mono h (fun ov s₁ h₁ => _root_.PySem.wpAt_of_wpAny ?_) fun _ _ x => x)
  refine wpAny_bind (wpAny_standAt ?_)
  have hform : methodCallForm ([e].length + ([] : List Keyword).length) (backTo pos (starEach [e] env)) (backToKw pos (keywordEach [] env)) = true := few1 hs _ _
  have hpos : methodCallPos true o env apos pos = pure pos := by unfold methodCallPos; simp [hline]
  unfold methodCall
  rw [hform]
  exact wpAny_bind (wpAny_holding (wpAny_mono (h₁ _) (fun fx s₂ h₂ => wpAny_bind (wpAny_of_eq hpos h₂)) fun _ _ x => x))
theorem spl_one {M : Model} {A : Around} {E : Value → Shared → Prop} {s : Shared} {env : PySem.Env} {pos : Pos} {x : Str} {p : Pos} {Q : List Value → Shared → Prop} (h : wpAny M A (eval (.Name x p) env) (fun v s' => Q [v] s') E s) :
    wpAny M A (spliced (backTo pos (starEach [.Name x p] env))) Q E s := wpAny_items_cons (wpAny_mono h (fun v s' q => wpAny_items_nil q) fun _ _ z => z) rfl
theorem one_sz (v : Value) : [v].length ≤ sizeLine := by rw [sizeLine_eq]; exact (by decide : 1 ≤ 16777216)
theorem ns_but {h h' : Heap} {a x : Addr} {m : Str → Option Value} (hn : h.Ns a m) (hx : a ≠ x) (k : ∀ b o, b ≠ x → h.get? b = some o → h'.get? b = some o) : h'.Ns a m := by
  obtain ⟨o, es, ep, h1, h2⟩ := hn
  exact ⟨o, es, ep, k _ _ hx h1, h2⟩
def initB (f : Str) (p0 p1 p2 p3 p4 p5 q1 q2 q3 q4 : Pos) : List Stmt :=
  [.Expr (.Call (.Attribute (.Call (.Name (Str.ofString "super") p0) [] [] p1) (Str.ofString "__init__") p2) [.Name f p3] [] p4) p5, .Assign [.Attribute (.Name selfN q1) f q2] (.Name f q3) q4]
/-- what the written part says of such a class, at C, and of its __init__, at fI -/
structure PayTxt (prog : Program) (K : Frag) (newId : String) (tl : List Value) (f : Str) (C fI : Addr) : Prop where
  cls : ∃ nm q N bs sn sub ab col dd k0 k1 k2 k3 k5, K.lookup C = some (excClassObj nm q C N bs tl true sn sub ab col dd k0 k1 k2 k3 k5 newId)
  sa : findIn K (.ref C) "__setattr__" = some (some (.builtin "object.__setattr__"))
  noN : findIn K (.ref C) f = some none
  iC : findIn K (.ref C) "__init__" = some (some (.ref fI))
  tC : typeIn K (.ref fI) = some (.type "function")
  op : nsIn K cStatics "thirdparty.any" = some none
  sup : nsIn K mainGlobals "super" = some none
  top : (prog.main.scope.names.lookup ("super" : Str)).isSome = false
  nf : (f == selfN) = false
  nd : (f == Str.ofString "__debug__") = false
  fn : ∃ (oc : Value) (od : Option Addr) (name qual : Str) (a1 a2 : Option Expr) (r1 r2 p0 p1 p2 p3 p4 p5 q1 q2 q3 q4 : Pos) (sc : Scope) (kV doc pm : Value) (an : Option Addr) (cda : Addr) (ct : Value) (cc : Addr) (osl : Array (Option Value)) (ccl : Value) (cdd : Option Addr) (vs : Array Value) (ccs : Array (Option Value)) (file : Str) (tf : Tok) (cl : Value) (cld : Option Addr) (csl : Array (Option Value)),
    K.lookup fI = some ⟨oc, od, .func (ksFn name qual (plainA [⟨selfN, a1, r1⟩, ⟨f, a2, r2⟩]) (initB f p0 p1 p2 p3 p4 p5 q1 q2 q3 q4) sc .none kV doc pm an (.ref cda) ct cc), osl⟩ ∧ codeIn K (.ref cda) qual = true ∧
    K.lookup cda = some ⟨ccl, cdd, .fields vs, ccs⟩ ∧ vs[2]? = some (.str file tf) ∧ ((prog.main.file : Str) == file) = true ∧ K.lookup cc = some ⟨cl, cld, .cell (some (.ref C)), csl⟩ ∧
    (p2.endLine == p4.line) = true ∧ sc.kind = .function ∧ sc.isCoroutine = false ∧ sc.isGenerator = false ∧ (∀ y ∈ sc.names, y.2 ≠ .cell) ∧ sc.names.lookup selfN = some .local ∧ sc.names.lookup f = some .local ∧ sc.names.lookup ("super" : Str) = some .globalImplicit ∧ sc.names.lookup ("__class__" : Str) = some .free
/-- what __init__ leaves of a fresh exception at x -/
structure InitEnd (h h' : Heap) (x C dx t1 : Addr) (f : Str) (v : Value) : Prop where
  keep : ∀ b o, b ≠ x → h.get? b = some o → h'.get? b = some o
  obj : h'.get? x = some { cls := .ref C, dict := some dx, data := .fields #[.ref t1, .none, .none, .none, .bool false, .none] }
  dbig : h.objs.size ≤ dx
  dne : dx ≠ x
  ns : h'.Ns1 dx (fun y => if y = f then some v else none)
section
variable {prog : Program} {w : World} {A : Around} {E : Value → Shared → Prop} {R : Result → Shared → Prop} {s : Shared} {K : Frag} {mg mb : Str → Option Value} {C fI : Addr} {B newId initId : String} {tl : List Value} {f : Str}
theorem pay_init (P : PayF B newId initId tl) (T : PayTxt prog K newId tl f C fI) {x t0 : Addr} {v : Value} (X : K.In s.heap) (hlim : s.heap.NoLimit) (hg : s.heap.Ns mainGlobals mg) (hmg : mg "super" = none) (hb : s.heap.Ns builtinsNs mb) (hmb : mb "super" = some (.type "super"))
    (hx : s.heap.get? x = some (excO C t0)) (hnx : K.lookup x = none) (hxg : x ≠ mainGlobals) (hxb : x ≠ builtinsNs) (hroom : A.depth < recursionLimit)
    (hq : ∀ h' tk dx t1, InitEnd s.heap h' x C dx t1 f v → R (.ok (.ret .none)) { s with heap := h', toks := tk }) :
    codeAny (model prog w) A (.call (.ref fI) ⟨[.ref x, v], []⟩) R s := by
  obtain ⟨oc, od, name, qual, a1, a2, r1, r2, p0, p1, p2, p3, p4, p5, q1, q2, q3, q4, sc, kV, doc, pm, an, cda, ct, cc, osl, ccl, cdd, vs, ccs, file, tf, cl, cld, csl, ho, hcd, hcode, hvs, hfile, hcell, hline, hk, hco, hgen, hnc, hls, hlf, hlsup, hlcls⟩ := T.fn
  obtain ⟨nm, q, N, bs, sn, sub, ab, col, dd, k0, k1, k2, k3, k5, hC⟩ := T.cls
  have hcl : clsIn K C = some { name := nm, bases := bs, mro := .ref C :: tl, ns := N, qualname := q, hasDict := true, slotNames := sn, subclasses := sub, abstract := ab, collection := col, hasDel := false } := by unfold clsIn; rw [hC] <;> rfl
  have hmro : ∀ b : Value, (Value.ref C :: tl).contains b = true → mroIn K C b = some true := fun b hb => by
    unfold mroIn
    rw [hcl, Option.bind_some, if_neg (show ¬ (List.isEmpty (Value.ref C :: tl) = true) from Bool.false_ne_true), hb]
  have hxC : x ≠ C := fun z => by rw [z, hC] at hnx; cases hnx
  refine ks_codeAny_call_defAt (binds := [(selfN, .ref x), (f, v)]) hroom (X _ _ ho) rfl hlim (codeRec_of X hcd) rfl (binds_ks _ _ _ _ _ _ _ _ _ _ _ _ _ _ _ _ _ _ T.nf s) hnc (fun y hy => ?_) (fun h₁ hns hk₁ => ?_) hco hgen hk
  · simp only [List.mem_cons, List.not_mem_nil, or_false] at hy
    rcases hy with rfl | rfl
    · exact hls
    · exact hlf
  have hn1 : (fun y => List.lookup y [(selfN, Value.ref x), (f, v)].reverse) selfN = some (.ref x) := by
    have : (selfN == f) = false := by
      have h0 : ¬ f = selfN := by simpa using T.nf
      simpa using fun z => h0 z.symm
    simp [List.lookup_cons, this]
  have hn2 : (fun y => List.lookup y [(selfN, Value.ref x), (f, v)].reverse) f = some v := by simp [List.lookup_cons]
  generalize (fun y => List.lookup y [(selfN, Value.ref x), (f, v)].reverse) = mL at hns hn1 hn2
  have X₁ : K.In h₁ := X.keeps hk₁
  have hx₁ := hk₁ _ _ hx
  have hg₁ := hg.keeps hk₁
  have hb₁ := hb.keeps hk₁
  have hL : s.heap.objs.size ≠ x := Nat.ne_of_gt (Heap.lt_size hx)
  obtain ⟨hp, g, dr, tk, os⟩ := s
  show _root_.PySem.wpAt _ _ _ (execs (_ :: _) _) _ _ _
  have I : InstAt h₁ x (excO C t0) C none := ⟨hx₁, rfl, rfl, trivial⟩
  refine ks_wpAt_execs_cons (ks_wpAt_Expr_any (meth_wpAt rfl hline ?_) ?_ ?_)
  · refine ks_wpAt_super_base (env := ksEnv qual sc hp.objs.size fI (.ref cda) cc) hlsup hlcls (by decide) rfl (X₁ _ _ ho) rfl rfl rfl (X₁ _ _ hcode) rfl hvs hfile T.top ?_
    refine ks_loadName_global hk hlsup (loadGlobal_builtin (env := ksEnv qual sc hp.objs.size fI (.ref cda) cc) hg₁ hmg hb₁ hmb ⟨rfl, ?_⟩)
    refine wpAny_loadName_free hk hlcls rfl ⟨_, X₁ _ _ hcell, rfl⟩ ?_
    refine wpAny_loadName_local hk hls hns hn1 ?_
    refine ks_wpAny_isType_cls (X₁ _ _ hC) rfl ⟨rfl, ?_⟩
    refine ks_wpAny_call_super (X₁ _ _ hC) rfl hx₁ rfl (fun c e => by cases e) (looks_mroIn X₁ (hmro _ (by simp))) (fun h₂ e₂ k₂ pl => ?_)
    have X₂ : K.In h₂ := X₁.keeps k₂
    have hx₂ := k₂ _ _ hx₁
    have I₂ : InstAt h₂ x (excO C t0) C none := ⟨hx₂, rfl, rfl, trivial⟩
    refine getMethod_superI P e₂ (looks_opaque X₂ T.op) (l₀ := .ref C :: tl) (fun A Q E s k q => wpAny_bind ((looks_clsIn X₂ hcl) A _ E s k (wpAny_pure q))) (ESX.drop_own C tl) X₂ (P.alo K) hxC (by decide)
      (I₂.type.andThen (looks_mroIn X₂ (hmro _ (by rw [List.contains_cons, P.F.hasB, Bool.or_true])))) ?_
    have k₃ : ∀ b o, h₂.get? b = some o → (h₂.push (bwI initId x)).get? b = some o := fun b o e => Heap.get?_push_of_some _ e
    refine callWith_boundI (x := x) (initId := initId) ?_ rfl rfl
    refine spl_one ?_
    have hL₃ := (hns.keeps k₂).keeps k₃
    refine wpAny_Name (wpAny_loadName_local hk hlf hL₃ hn2 ⟨Heap.get?_push_at rfl rfl, ?_⟩) T.nd
    have X₃ : K.In (h₂.push (bwI initId x)) := X₂.keeps k₃
    refine call_bwI (t0 := t0) P (X₃ _ _ hC) (k₃ _ _ hx₂) (Heap.get?_push_at rfl rfl) (one_sz v) (fun h₄ t1 k₄ hx₄ => ?_)
    have kk : ∀ b o, b ≠ x → hp.get? b = some o → h₄.get? b = some o := fun b o hb e => k₄ b o hb (k₃ _ _ (k₂ _ _ (hk₁ _ _ e)))
    have X₄ : K.In h₄ := fun a o e => kk a o (fun z => by rw [z, hnx] at e; cases e) (X _ _ e)
    have hL₄ : h₄.Ns hp.objs.size mL := ns_but hL₃ (fun z => hL z) k₄
    show _root_.PySem.wpAt _ _ _ (execs (_ :: _) _) _ _ _
    refine _root_.PySem.wpAt_of_wpAny (wpAny_execs_cons (plainObj_wpAny_Assign_Attribute ?_ (swaps_nlc rfl _ _ _)))
    refine wpAny_Name (wpAny_loadName_local hk hlf hL₄ hn2 ?_) T.nd
    refine wpAny_Name (wpAny_loadName_local hk hls hL₄ hn1 ?_) (by decide)
    refine set_plain X₄ (ox := excO C t1) (od := none) ⟨hx₄, rfl, rfl, trivial⟩ T.sa ?_
    refine osaI P X₄ hx₄ hcl rfl rfl T.noN (fun h₅ tk₅ dx k₅ dn dne hx₅ hn₅ => ?_)
    show wpAny _ _ (execs _ _) _ _ _
    have z1 : hp.objs.size < h₁.objs.size := hns.lt
    refine wpAny_execs_nil (hq h₅ tk₅ dx t1 ⟨fun b o hb e => k₅ b o hb (kk b o hb e), hx₅, ?_, dne, hn₅⟩)
    exact Nat.le_of_lt (Nat.lt_of_lt_of_le (hL₄.lt) dn)
  · unfold interactive
    show (sc.kind == .module && _) = false
    rw [hk]; rfl
  · exact swaps_nlc rfl _ _ _
end
end Mv
end

section
set_option Elab.async false
set_option linter.all false
set_option maxRecDepth 100000
set_option maxHeartbeats 4000000
/-! Pay3: X(v) is made. -/
namespace Mv
open PySem PySem.Spec PySem.W PySem.Calls PyProof.Rows PySem.HandSPX
/-- a made error -/
structure OwnMade (h h' : Heap) (e C d : Addr) (f : Str) (v : Value) : Prop where
  keep : ∀ b o, h.get? b = some o → h'.get? b = some o
  new : h.objs.size ≤ e
  obj : ∃ oe vs, h'.get? e = some oe ∧ oe.cls = .ref C ∧ oe.dict = some d ∧ oe.data = .fields vs ∧ vs[1]? = some .none
  dbig : h.objs.size ≤ d
  dne : d ≠ e
  ns : h'.Ns1 d (fun y => if y = f then some v else none)
section
variable {prog : Program} {w : World} {A : Around} {E : Value → Shared → Prop} {R : Result → Shared → Prop} {s : Shared} {K : Frag} {mg mb : Str → Option Value} {C fI : Addr} {B newId initId : String} {tl : List Value} {f : Str}
theorem pay_made (P : PayF B newId initId tl) (T : PayTxt prog K newId tl f C fI) {v : Value} (X : K.In s.heap) (hlim : s.heap.NoLimit) (hg : s.heap.Ns mainGlobals mg) (hmg : mg "super" = none) (hb : s.heap.Ns builtinsNs mb) (hmb : mb "super" = some (.type "super")) (hroom : A.depth + 1 < recursionLimit)
    (hq : ∀ h' tk e d, OwnMade s.heap h' e C d f v → R (.ok (.ret (.ref e))) { s with heap := h', toks := tk }) :
    codeAny (model prog w) A (.call (.ref C) ⟨[v], []⟩) R s := by
  obtain ⟨nm, q, N, bs, sn, sub, ab, col, dd, k0, k1, k2, k3, k5, hC⟩ := T.cls
  obtain ⟨hp, g, dr, tk, os⟩ := s
  have k : ∀ b o, hp.get? b = some o → ((hp.push (kdv_tup [v])).push (excO C hp.objs.size)).get? b = some o := fun b o e => Heap.get?_push_of_some _ (Heap.get?_push_of_some _ e)
  have hget : ((hp.push (kdv_tup [v])).push (excO C hp.objs.size)).get? (hp.objs.size + 1) = some (excO C hp.objs.size) := by heap_get
  have hnx : K.lookup (hp.objs.size + 1) = none := by
    cases e : K.lookup (hp.objs.size + 1) with
    | none => rfl
    | some o =>
      have z : hp.get? (hp.objs.size + 1) = some o := X _ _ e
      exact absurd (Nat.lt_of_succ_lt (Heap.lt_size z)) (Nat.lt_irrefl _)
  have ng : hp.objs.size + 1 ≠ mainGlobals := fun z => absurd hg.lt (by rw [← z]; exact Nat.not_lt.mpr (Nat.le_succ _))
  have nb : hp.objs.size + 1 ≠ builtinsNs := fun z => absurd hb.lt (by rw [← z]; exact Nat.not_lt.mpr (Nat.le_succ _))
  refine call_own P.F (fun _ => rfl) (X _ _ hC) (looks_findIn X T.iC) (fun self => bind_fn X self T.tC) (one_sz v) ?_
  refine pay_init (s := ⟨(hp.push (kdv_tup [v])).push (excO C hp.objs.size), g, dr, tk, os⟩) P T (X.keeps k) (hlim.keeps k) (hg.keeps k) hmg (hb.keeps k) hmb hget hnx ng nb ?_ fun h' tk' dx t1 ⟨k', hx, dn, dne, hns⟩ => ?_
  · show A.depth + 1 < recursionLimit
    exact hroom
  · have old : ∀ b o, hp.get? b = some o → h'.get? b = some o := fun b o e => k' b o (Nat.ne_of_lt (Nat.lt_succ_of_lt (Heap.lt_size e))) (k b o e)
    have z : hp.objs.size + 1 + 1 ≤ dx := by
      first
        | (simpa only [Heap.size_push] using dn)
        | exact dn
        | (have q := dn; rw [Heap.size_push, Heap.size_push] at q; exact q)
    exact ⟨rfl, hq h' tk' (hp.objs.size + 1) dx ⟨old, Nat.le_succ _, ⟨_, _, hx, rfl, rfl, rfl, rfl⟩, Nat.le_trans (Nat.le_trans (Nat.le_succ _) (Nat.le_succ _)) z, dne, hns⟩⟩
end
open L2
theorem relO_one {f x : Str} {v : V} {v' : Value} (r : RelV v v') : RelO (List.lookup x [(f, v)]) (if x = f then some v' else none) := by
  by_cases hw : x = f
  · subst hw
    rw [if_pos rfl]
    have q : List.lookup x [(x, v)] = some v := by simp [List.lookup]
    rw [q]
    exact r
  · rw [if_neg hw]
    have qw : (x == f) = false := by simpa using hw
    have q2 : List.lookup x [(f, v)] = none := by simp [List.lookup, qw]
    rw [q2]
    trivial
section
variable {X : Cx} {C fI : Addr} {B newId initId : String} {tl : List Value} {f x : Str}
/-- X(e) -/
def tMkP (f : Str) (C : Addr) (ta : TA) : L2.St → Hp → XK → Prop := fun σ H Q => ta σ H fun vs H1 => ∃ v, vs = [v] ∧ ∀ d, H1 d = none → Q (.ref C) (some d) (upd H1 d (.xd [(f, v)]))
theorem pmk_pay {a : Expr} {ta : TA} {p pos : Pos} {k : Nat} (P : PayF B newId initId tl) (T : PayTxt X.prog X.K newId tl f C fI) (gC : X.mg x = some (.ref C)) (kC : keepIn X.K (.ref C) = true) (hsup : X.mg (Str.ofString "super") = none) (rs : Raises X (.ref C)) (hr : Room k X.A) (ha : PA X [a] ta) (hg : Gl X x) (hdb : (x == Str.ofString "__debug__") = false)
    (he : starEach (a :: []) X.env = (false, eval a X.env) :: starEach [] X.env) (hpl : (backTo pos (starEach [] X.env)).any (·.1) = false := by rfl) :
    PMk X (.Call (.Name x p) [a] [] pos) (tMkP f C ta) := by
  intro pins s σ H Q I h
  refine wpAny_Call_Name_kw (ld_glob I hg gC ?_ hdb)
  refine PySem.W.callWith_K (h₀ := X.base) I.ok.mod.kin kC (thn (ha.run pos pins s σ H _ I h) fun us s1 hh => ?_) he hpl
  obtain ⟨vs, H1, I1, r1, v, ev, q1⟩ := hh
  subst ev
  refine ⟨I1.kIn, ?_⟩
  cases r1 with
  | cons rv rn =>
    rename_i v' us'
    cases rn
    show wpAny _ _ (call (.ref C) [v']) _ _ _
    have hlim := I1.nolimit
    obtain ⟨mb, hb1, hb2⟩ := I1.mod.blt
    have hgl := I1.mod.glob.keeps I1.bk
    have hbl := hb1.keeps I1.bk
    obtain ⟨hp, g, dr, tk, os⟩ := s1
    refine wpAny_call (pay_made P T I1.kIn hlim hgl hsup hbl ((hb2 _ (by decide +kernel)).trans (by kernel_rfl)) (by have := hr.dp; omega) fun h' tk' e d M => ?_)
    show MkP X pins σ Q (.ref e) ⟨h', g, dr, tk', os⟩
    obtain ⟨oe, fv, hoe, hc, hd, hdat, h1⟩ := M.obj
    have hns := M.ns
    obtain ⟨G', g1, g2⟩ := restrict h' fun b => decide (b ≠ e)
    have gk : ∀ b, b ≠ e → G'.get? b = h'.get? b := fun b hb => g1 b (decide_eq_true hb)
    have ge : G'.get? e = none := g2 e (by simp)
    have old : ∀ b o, hp.get? b = some o → G'.get? b = some o := fun b o q => (gk b (Nat.ne_of_lt (Nat.lt_of_lt_of_le (Heap.lt_size q) M.new))).trans (M.keep b o q)
    have ob : ObjOk X.prog X.w (upd H1 d (.xd [(f, v)])) G' d (.xd [(f, v)]) :=
      ⟨_, hns.at (fun o q => (gk d M.dne).trans q), fun y => relO_one rv⟩
    have J : Inv X pins σ (upd H1 d (.xd [(f, v)])) ⟨G', g, dr, tk', os⟩ := I1.laid (t' := tk') old M.dbig ob
    refine ⟨e, oe, fv, ⟨G', g, dr, tk', os⟩, _, .ref C, some d, rfl, J, fun b o q => ?_, ge, hoe, ⟨hc, hd⟩, hdat, h1, ?_, rfl, I1.bare, rs, q1 d (I1.hok.fresh M.dbig)⟩
    · by_cases hb : b = e
      · have q' : G'.get? b = some o := q
        rw [hb, ge] at q'; cases q'
      · exact (gk b hb).symm.trans q
    · rw [upd_ne (Ne.symm M.dne)]
      exact I1.hok.fresh M.new
end
end Mv
end

section
set_option Elab.async false
set_option linter.all false
set_option maxRecDepth 100000
set_option maxHeartbeats 4000000
/-! BaseRse: errors are made, by a check of the written part. -/
namespace Mv
open PySem PySem.Spec PySem.W PySem.Calls PyProof.Rows L2
theorem pmk_own0 {X : Cx} {C : Addr} {bmB : List Value} {B newId initId : String} {x : Str} {p pos : Pos} (F : ExcBaseFacts B newId initId bmB) (q : PySem.W.excIn X.K C bmB newId = true)
  (gC : X.mg x = some (Value.ref C)) (kC : PySem.W.keepIn X.K (Value.ref C) = true) (r : Raises X (Value.ref C)) (hg : Gl X x) (hdb : (x == Str.ofString "__debug__") = false) :
  PMk X ((Expr.Name x p).Call [] [] pos) fun x H Q => Q (Value.ref C) none H := by
  intro pins s σ H Q I h
  refine wpAny_Call_Name_kw (ld_glob I hg gC ?_ hdb)
  refine PySem.W.callWith_K0 (Inv.kIn I) kC ?_
  obtain ⟨bm, N, nm, qn, bs, hdct, sn, sub, ab, col, dd, k0, k1, k2, k3, k5, mN, hC, hN, hni, T⟩ := exc_obj (Inv.kIn I) q
  refine wpAny_call_exc_subT F T hC hN hni (fun h' e hm => mk_of I hm r h (HOk.gone I.hok hm.new)) ?_
  rw [sizeLine_eq]; exact Nat.zero_le _
theorem mk0 {X : Cx} {C : Cn} {Wx : WX} {k : Nat} {a : Addr} {e : Expr} (hc : C.ca k = some a) (h : PMk X e fun x H Q => Q (Value.ref a) none H) : PMk X e (tMk C Wx k esN) := fun pins s σ H Q I ⟨W, en, s0, S, SE, q⟩ =>
  h pins s σ H Q I (by
    obtain ⟨W1, ds, s1, S1, r, q1⟩ := q W H [] (.refl W) S .nil
    cases r
    exact q1 W1 H _ _ (.refl W1) S1 ⟨a, hc, rfl, .inl ⟨rfl, rfl⟩⟩)
theorem mk1 {X : Cx} {C : Cn} {Wx : WX} {k : Nat} {a : Addr} {e : Expr} {r : EsT} (hc : C.ca k = some a) (hl : ∀ en s ds s1, r en s = .ok ds s1 → ds.length = 1) (h : PMk X e (tMkP (C.fld k) a (tA C Wx r))) : PMk X e (tMk C Wx k r) := fun pins s σ H Q I ⟨W, en, s0, S, SE, q⟩ =>
  h pins s σ H Q I (by
    refine ⟨W, en, s0, S, SE, ?_⟩
    cases z : r en s0 with
    | ok ds s1 =>
      have hd := hl _ _ _ _ z
      rw [z] at q
      intro W' H' vs le S' rs
      obtain ⟨W1, ds', s1', S1, r1, q1⟩ := q W' H' vs le S' rs
      have hv := rs.length
      rw [hd] at hv
      match vs, rs, r1, hv, q1 with
      | [v], rs, r1, _, q1 =>
        cases r1 with
        | cons r2 rn =>
          cases rn
          rename_i pv
          exact ⟨v, rfl, fun d hd0 => q1 (W1.frz d (.xd [(C.fld k, v)])) _ _ _ (W1.le_frz (S1.F_none hd0) _) (S1.laid hd0 _) ⟨a, hc, rfl, .inr ⟨_, v, d, rfl, rfl, upd_same, r2.mono (W1.le_frz (S1.F_none hd0) _)⟩⟩⟩
    | exc c p s1 => rw [z] at q; exact q
    | bad n => rw [z] at q; exact q)
end Mv
namespace Mv
open PySem PySem.Spec PySem.W PySem.Calls PyProof.Rows L2
/-- what the written part says of the class x, number k, at a -/
structure RseFact (prog : Program) (M : Md) (ar : Nat → Nat) (K : Frag) (k : Nat) (a : Addr) : Prop where
  kC : keepIn K (.ref a) = true
  sb : subIn K (.ref a) (.type "BaseException") = some true
  ty : typeIn K (.ref a) = some (.type "type")
  sup : nsIn K mainGlobals (Str.ofString "super") = some none
  how : (ar k = 0 ∧ ∃ B newId initId bmB, ExcBaseFacts B newId initId bmB ∧ excIn K a bmB newId = true) ∨ (ar k = 1 ∧ ∃ B newId initId tl fI, PayF B newId initId tl ∧ PayTxt prog K newId tl (M.fld k) a fI)
theorem rse_of {prog : Program} {M : Md} {ar : Nat → Nat} {K : Frag} {C : Cn} {k : Nat} {a : Addr} {x : Str} (T : RseFact prog M ar K k a) (hca : C.ca k = some a) (hfl : C.fld = M.fld) {X : Cx} {Wx : WX} {lv : Nat} (eP : X.prog = prog) (eK : X.K = K) (hmg : X.mg x = some (.ref a)) (hsup : X.mg (Str.ofString "super") = none)
    (hr : Room lv X.A) (xp pos : Pos) (xs : List Expr) (r : EsT) (hg : Gl X x) (hk : okn x = true) (hl : xs.length = ar k) (ha : PA X xs (tA C Wx r)) (hs : xs.all nst = true) (h0 : xs = [] → r = esN) (h1 : ∀ en s ds s1, r en s = .ok ds s1 → ds.length = xs.length) :
    PMk X (.Call (.Name x xp) xs [] pos) (tMk C Wx k r) := by
  subst eP; subst eK
  have hdb : (x == Str.ofString "__debug__") = false := by
    unfold okn at hk
    simp only [Bool.and_eq_true, Bool.not_eq_true'] at hk
    exact hk.1.1
  rcases T.how with ⟨e, B, newId, initId, bmB, F, q⟩ | ⟨e, B, newId, initId, tl, fI, P, T'⟩
  · rw [e] at hl
    match xs, hl, h0 with
    | [], _, h0 =>
      rw [h0 rfl]
      exact mk0 hca (pmk_own0 F q hmg T.kC (raises_own T.sb T.ty) hg hdb)
  · rw [e] at hl
    match xs, hl, ha, hs, h1 with
    | [y], _, ha, hs, h1 =>
      have hs1 : nst y = true := by simpa using hs
      exact mk1 hca h1 (by rw [hfl]; exact pmk_pay P T' hmg T.kC hsup (raises_own T.sb T.ty) hr ha hg hdb (star_cons hs1 _))
end Mv
end

section
set_option Elab.async false
set_option linter.all false
set_option maxRecDepth 100000
set_option maxHeartbeats 4000000
/-! BaseFld: the field of the error at hand. -/
namespace Mv
open PySem PySem.Spec PySem.W PySem.Calls PyProof.Rows L2
structure FldFact (K : Frag) (f : Str) (a : Addr) : Prop where
  ga : findIn K (.ref a) "__getattribute__" = some (some (.builtin "BaseException.__getattribute__"))
  gt : ∃ gt, findIn K (.ref a) "__getattr__" = some gt
  sb : subIn K (.ref a) (.type "BaseException") = some true
  hd : hasDictIn K a = true
  no : findIn K (.ref a) f = some none
theorem fld_of {X : Cx} {C : Cn} {Wx : WX} {q : ErrAt} {oe : Obj} {pn : List (Addr × Obj)} {k : Nat} {x : Str} {xp pos : Pos} (T : ∀ a, C.ca k = some a → FldFact X.K (C.fld k) a) (hz : Zc q.cls q.d oe) (hf : ∃ vs, oe.data = .fields vs) (hN : X.N[q.i]? = some x) (hv : Vis X.env.scope x) (hk : okn x = true) :
    PE (X.suite q.a ((q.a, oe) :: pn)) (.Attribute (.Name x xp) (C.fld k) pos) (tE (C.wr (some q)) Wx (eFld k q.i)) := by
  have hk2 : (x == Str.ofString "__debug__") = false ∧ (x == Str.ofString "__classdict__") = false := by
    unfold okn at hk
    simp only [Bool.and_eq_true, Bool.not_eq_true'] at hk
    exact hk.1
  refine ⟨fun pins s σ H Q I h => ?_⟩
  obtain ⟨W, en, s0, S, SE, z⟩ := h
  obtain ⟨h1, h2, a, hca, hcls, h3⟩ := SE.er q rfl
  have z : RvQ (C.wr (some q)) W (obnd (getE en q.i) (.bad 9) fun d => pFld k d s0) Q _ := z
  rw [h2] at z
  have z : RvQ (C.wr (some q)) W (cond (Nat.beq q.c k) (match q.p with | [v] => .ok v s0 | _ => .bad 9) (.bad 9)) Q _ := z
  obtain ⟨hc, z2⟩ := RvQ.cnd z
  clear z
  have hc := (beq_true_iff _ _).mp hc
  subst hc
  rcases h3 with ⟨e1, e2⟩ | ⟨pv, v, dx, e1, e2, e3, r⟩
  · rw [e1] at z2; exact z2.elim
  rw [e1] at z2
  have hca : C.ca q.c = some a := hca
  have T := T a hca
  have e3 : H dx = some (.xd [(C.fld q.c, v)]) := S.sub _ _ e3
  refine attr_of rfl (thn ((pe_var (X := X.suite q.a ((q.a, oe) :: pn)) (pos := xp) hN hv hk2.1 hk2.2).run pins s σ H (fun v H' => v = .ref q.a ∧ H' = H) I ⟨.ref q.a, h1, rfl, rfl⟩) fun u s1 hh => ?_)
  obtain ⟨x', H1, I1, rx, ex, eH⟩ := hh
  subst ex; subst eH
  obtain rfl : u = Value.ref q.a := rx
  obtain ⟨ha, _⟩ := I1.pin (q.a, oe) (List.mem_append_left _ List.mem_cons_self)
  obtain ⟨vs, hd⟩ := hf
  obtain ⟨mA, hns, hr⟩ : ObjOk X.prog X.w H1 s1.heap dx (.xd [(C.fld q.c, v)]) := I1.hok dx _ e3
  obtain ⟨od, ho, hl⟩ := lookIn_ns hns
  have l : List.lookup (C.fld q.c) [(C.fld q.c, v)] = some v := by simp [List.lookup]
  obtain ⟨u, hu, ru⟩ := RelO.some_of (v := v) (o := mA (C.fld q.c)) (by rw [← l]; exact hr (C.fld q.c))
  have J : PySem.W.InstAt s1.heap q.a oe a (some od) := ⟨ha, hz.1.trans hcls, by unfold PySem.W.notCls; rw [hd] <;> rfl, by rw [hz.2, e2]; exact ho⟩
  obtain ⟨gt, hgt⟩ := T.gt
  exact HandSPX.exc_get I1.kIn J T.ga hgt T.sb (PySem.W.findObj_own T.hd T.no rfl (by rw [hl, hu])) (handed_of ru) ⟨v, H1, I1.tok _, ru, z2 W H1 v (.refl W) S r⟩
end Mv
end

section
set_option Elab.async false
set_option linter.all false
set_option maxRecDepth 100000
set_option maxHeartbeats 4000000
/-! BaseIsx: isinstance of the error at hand. -/
namespace Mv
open PySem PySem.Spec PySem.W PySem.Calls PyProof.Rows
section
variable {prog : Program} {w : World} {A : Around} {E : Value → Shared → Prop} {s : Shared} {K : Frag} {x D : Addr} {ox : Obj}
theorem findObj_dataE {C : Addr} {od : Option Obj} {name : Str} {a g : Value} (hc : (clsIn K C).isSome = true) (ha : findIn K (.ref C) name = some (some a)) (hg : specialIn K a "__get__" = some (some g)) (ht : takesIn K a = some true) : findObj K C od name = some (.bind g a) := by
  obtain ⟨cd, hc⟩ := Option.isSome_iff_exists.mp hc
  unfold findObj
  rw [hc, Option.bind_some, ha, Option.bind_some]
  simp [hg, ht]
theorem kin_classE2 {od : Option Obj} {Q : Option Value → Shared → Prop} (hga : findIn K (.ref D) "__getattribute__" = some (some (.builtin "BaseException.__getattribute__"))) (hgt : findIn K (.ref D) "__getattr__" = some none) (hsub : subIn K (.ref D) (.type "BaseException") = some true)
    (hdct : hasDictIn K D = true) (ha : findIn K (.ref D) "__class__" = some (some (.builtin "object.__class__")))
    (hn : specialIn K (.builtin "object.__class__") "__get__" = some (some (.builtin "getset_descriptor.__get__"))) (htk : takesIn K (.builtin "object.__class__") = some true) (hm : mroIn K D (.type "object") = some true)
    (X : K.In s.heap) (I : InstAt s.heap x ox D od) (h : Q (some (.ref D)) { s with toks := s.toks + 1 }) : wpAny (model prog w) A (getAttr? (.ref x) "__class__") Q E s := by
  have hf : findObj K D od "__class__" = some (.bind (.builtin "getset_descriptor.__get__") (.builtin "object.__class__")) := findObj_dataE (by obtain ⟨cd, hc, _⟩ := any_some hdct; rw [hc]; rfl) ha hn htk
  obtain ⟨hp, g, d, t, os⟩ := s
  have L0 := I.type (M := model prog w)
  have L1 := looks_findIn (M := model prog w) X hga
  have L2 := looks_findIn (M := model prog w) X hgt
  have L3 := looks_find (M := model prog w) X I hf
  have sub : Looks (model prog w) hp (isInstance (.ref x) (.type "BaseException")) true := L0.andThen (looks_subIn X hsub)
  have hx0 : (false && onTheHeap (Value.builtin "BaseException.__getattribute__")) = false := rfl
  have hx2 : (Value.builtin "BaseException.__getattribute__" == Value.builtin "object.__getattribute__") = false := by decide +kernel
  have hx1 : (onTheHeap (Value.ref D) && Value.builtin "BaseException.__getattribute__" == Value.builtin "object.__getattribute__") = false := by rw [hx2]; rfl
  unfold getAttr? getAttrBy? getAttrBy
  refine wpAny_bind (wpAny_mkText (wpAny_bind (wpAny_attempt (wpAny_holding (wpAny_bind (L0.at (wpAny_bind (L1.at ?_))))))))
  show wpAny _ _ (if (onTheHeap (Value.ref D) && Value.builtin "BaseException.__getattribute__" == Value.builtin "object.__getattribute__") = true then _ else _) _ _ _
  rw [hx1, if_neg Bool.false_ne_true]
  unfold getAttrByItsOwn hookBefore
  refine wpAny_bind ?_
  rw [if_pos (show onTheHeap (Value.ref D) = true from rfl)]
  refine L2.at ?_
  refine wpAny_bind (wpAny_attempt (wpAny_holding ?_))
  unfold callGetattribute
  rw [hx0, if_neg Bool.false_ne_true]
  unfold boundAndCalled
  rw [PySem.F.excAttr_ValueError.ga.bind (.ref x)]
  refine wpAny_bind (wpAny_pure ?_)
  show wpAny _ _ (call (.builtin "BaseException.__getattribute__") [.ref x, .str "__class__" t]) _ _ _
  refine wpAny_call (codeAny_call_builtin PySem.F.excAttr_ValueError.ga.plain PySem.F.entry_bexc_ga ?_)
  refine @check_slot (model prog w) _ _ ⟨hp, g, d, t + 1, os⟩ "BaseException.__getattribute__" "BaseException" "__getattribute__" (.ref x) [.str "__class__" t] [] _ (by decide +kernel) (by decide +kernel) sub (PySem.F.args_bexc_ga (.ref x) (.str "__class__" t)) ?_
  unfold Builtin.«object.__getattribute__»
  refine wpAny_bind (wpAny_of_eq (a := ((Value.ref x : Value), [Value.str "__class__" t])) (by first | rfl | (simp only [slotArgs]; rfl)) ?_)
  refine wpAny_bind (wpAny_pure (wpAny_bind (L0.at (wpAny_bind (L3.at ?_)))))
  show wpAny _ _ (holding [Value.builtin "object.__class__"] (call (.builtin "getset_descriptor.__get__") [.builtin "object.__class__", .ref x, .ref D]) >>= ret) _ _ _
  refine wpAny_bind (wpAny_holding (wpAny_call (class_get (s := ⟨hp, g, d, t + 1, os⟩) (ox := ox) (od := od) X I hm ?_)))
  refine wpAny_pure ?_
  show wpAny _ _ (handedOut (.ref D)) _ _ _
  rw [handedOut_of (v := .ref D) rfl]
  first
    | exact wpAny_pure (wpAny_pure h)
    | exact wpAny_pure h
    | exact wpAny_pure (wpAny_bind (wpAny_pure (wpAny_pure h)))
theorem kitx_exc2 {od : Option Obj} (hga : findIn K (.ref D) "__getattribute__" = some (some (.builtin "BaseException.__getattribute__"))) (hgt : findIn K (.ref D) "__getattr__" = some none) (hsub : subIn K (.ref D) (.type "BaseException") = some true) (hdct : hasDictIn K D = true) (ha : findIn K (.ref D) "__class__" = some (some (.builtin "object.__class__")))
    (hn : specialIn K (.builtin "object.__class__") "__get__" = some (some (.builtin "getset_descriptor.__get__"))) (htk : takesIn K (.builtin "object.__class__") = some true) (hm : mroIn K D (.type "object") = some true) :
    KitX K (.ref x) (.ref D) (fun h => InstAt h x ox D od) where
  ty := fun _ _ _ I => I.type
  it := fun _ _ X _ => by
    obtain ⟨cdD, hcD, _⟩ := any_some hdct
    unfold clsIn at hcD
    split at hcD
    · rename_i c' d' cd' sl' ho
      intro A' Q' E' s' k q
      unfold isType loadHead
      exact wpAny_bind (wpAny_loadPart (k _ _ (X _ _ ho)) (wpAny_pure q))
    · cases hcD
  ne := fun h tp dd its n sl X htp => by
    obtain ⟨cdD, hcD, _⟩ := any_some hdct
    refine Bool.eq_false_iff.mpr fun q => ?_
    have e : D = tp := Value.ref.inj (beq_iff_eq.mp q)
    subst e
    unfold clsIn at hcD
    split at hcD
    · rename_i c' d' cd' sl' ho
      have z := (X _ _ ho).symm.trans htp
      cases z
    · cases hcD
  ca := fun X I k => kin_classE2 hga hgt hsub hdct ha hn htk hm X I k
end
end Mv
namespace Mv
open PySem PySem.Spec PySem.W PySem.Calls PyProof.Rows L2
def rIsE2 (K : Frag) (D a : Addr) : List V → Hp → VK → Prop := fun xs H Q => ∃ (c : V) (cv : Value) (b : Bool), xs = [.ref a, c] ∧ (∀ u, RelV c u → u = cv) ∧ kitOne K (.ref D) cv = some b ∧ Q (.bl b) H
/-- the error's own dict, if it has one, is there -/
def DictAt (d : Option Addr) (s : Shared) : Prop := ∀ dx, d = some dx → ∃ o, s.heap.get? dx = some o
theorem call_isE2 {X : Cx} {a D : Addr} {d : Option Addr} {oe : Obj} {pn : List (Addr × Obj)} (C : ExcC X.K D) (hz : Zc (.ref D) d oe) (hf : ∃ vs, oe.data = .fields vs) :
    CallR (X.suite a ((a, oe) :: pn)) (.builtin "isinstance") (fun xs H Q => rIsE2 X.K D a xs H Q ∧ ∀ dx, d = some dx → ∃ o, H dx = some (.xd o)) := by
  intro pins s σ H xs us Q I r ⟨h, hd⟩
  obtain ⟨c, cv, b, rfl, hcv, e, q⟩ := h
  cases r with
  | cons rx rr =>
    cases rr with
    | cons rt rr =>
      cases rr
      cases rx
      have ec := hcv _ rt
      subst ec
      obtain ⟨hget, _⟩ := I.pin (a, oe) (List.mem_append.mpr (.inl List.mem_cons_self))
      obtain ⟨vs, hv⟩ := hf
      have J : ∃ od, InstAt s.heap a oe D od := by
        obtain ⟨oc, od, oda, osl⟩ := oe
        obtain ⟨h1, h2⟩ := hz
        dsimp only at h1 h2 hv
        subst h1 h2 hv
        cases od with
        | none => exact ⟨none, hget, rfl, rfl, trivial⟩
        | some dx =>
          obtain ⟨o, ho⟩ := hd dx rfl
          obtain ⟨mA, hns, _⟩ : ObjOk X.prog X.w H s.heap dx (.xd o) := I.hok dx _ ho
          obtain ⟨od, ho, _⟩ := lookIn_ns hns
          exact ⟨some od, hget, rfl, rfl, ho⟩
      obtain ⟨od, J⟩ := J
      exact kia_one (kitx_exc2 C.hg C.hk C.hs C.hd C.ha C.hn C.ht C.hm) I.kIn J e (fun z => nomatch z) fun tk => ⟨.bl b, H, I.kept (t' := tk) fun _ _ z => z, rfl, q⟩
/-- what is asked of an own class for isinstance -/
structure IsxFact (M : Md) (K : Frag) (ca : Nat → Option Addr) (c : Nat) (a : Addr) : Prop where
  C : ExcC K a
  own : ∀ y k b, List.lookup y M.cls = some k → ca k = some b → kitOne K (.ref a) (.ref b) = some (Nat.beq c k || Nat.beq (M.cb c) k)
  le : kitOne K (.ref a) (.type "LookupError") = some (Nat.beq c 5 || Nat.beq (M.cb c) 5)
  ve : kitOne K (.ref a) (.type "ValueError") = some (Nat.beq c 6 || Nat.beq (M.cb c) 6)
theorem isx_of {X : Cx} {M : Md} {C : Cn} {Wx : WX} {q : ErrAt} {oe : Obj} {pn : List (Addr × Obj)} {k : Nat} {x y : Str} {fp xp yp pos : Pos} (T : ∀ c a, C.ca c = some a → IsxFact M X.K C.ca c a) (hcl : ∀ y k, List.lookup y M.cls = some k → ∃ b, X.mg y = some (.ref b) ∧ C.ca k = some b)
    (hz : Zc q.cls q.d oe) (hf : ∃ vs, oe.data = .fields vs) (hN : X.N[q.i]? = some x) (hv : Vis X.env.scope x) (hk : okn x = true)
    (hi : Gl X (Str.ofString "isinstance")) (hmi : X.mg (Str.ofString "isinstance") = none) (hy : Gl X y) (hky : okn y = true)
    (hw : List.lookup y M.cls = some k ∨ (k = 5 ∧ y = Str.ofString "LookupError" ∧ X.mg y = none) ∨ (k = 6 ∧ y = Str.ofString "ValueError" ∧ X.mg y = none)) :
    PE (X.suite q.a ((q.a, oe) :: pn)) (.Call (.Name (Str.ofString "isinstance") fp) [.Name x xp, .Name y yp] [] pos) (tE (C.wr (some q)) Wx (eIsx M.cb q.i k)) := by
  have hk2 : ∀ {z : Str}, okn z = true → (z == Str.ofString "__debug__") = false ∧ (z == Str.ofString "__classdict__") = false := fun {z} hk => by
    unfold okn at hk
    simp only [Bool.and_eq_true, Bool.not_eq_true'] at hk
    exact hk.1
  have hcv : ∃ (c : V) (cv : Value), (∀ u, RelV c u → u = cv) ∧ PE (X.suite q.a ((q.a, oe) :: pn)) (.Name y yp) (L2.tC c) ∧ ∀ cc a, C.ca cc = some a → kitOne X.K (.ref a) cv = some (Nat.beq cc k || Nat.beq (M.cb cc) k) := by
    rcases hw with h | ⟨e, h, h2⟩ | ⟨e, h, h2⟩
    · obtain ⟨b, h1, h2⟩ := hcl y k h
      exact ⟨.ref b, .ref b, fun u h => h, pe_glob (X := X.suite q.a ((q.a, oe) :: pn)) hy h1 rfl (hk2 hky).1, fun cc a hca => (T cc a hca).own y k b h h2⟩
    · subst e; subst h
      exact ⟨.ty "LookupError", .type "LookupError", fun u h => h, pe_bltn (X := X.suite q.a ((q.a, oe) :: pn)) hy h2 (by kernel_rfl) rfl, fun cc a hca => (T cc a hca).le⟩
    · subst e; subst h
      exact ⟨.ty "ValueError", .type "ValueError", fun u h => h, pe_bltn (X := X.suite q.a ((q.a, oe) :: pn)) hy h2 (by kernel_rfl) rfl, fun cc a hca => (T cc a hca).ve⟩
  obtain ⟨c, cv, hc1, hc2, hc3⟩ := hcv
  refine ⟨fun pins s σ H Q I h => ?_⟩
  obtain ⟨W, en, s0, S, SE, z⟩ := h
  obtain ⟨h1, h2, a, hca, hcls, h3⟩ := SE.er q rfl
  have hca : C.ca q.c = some a := hca
  have z : RvQ (C.wr (some q)) W (obnd (getE en q.i) (.bad 9) fun d => pIsx M.cb k d s0) Q _ := z
  rw [h2] at z
  have z : RvQ (C.wr (some q)) W (blR s0 (Nat.beq q.c k || Nat.beq (M.cb q.c) k)) Q _ := z
  refine (pe_callB (X := X.suite q.a ((q.a, oe) :: pn)) (call_isE2 (T q.c a hca).C (hcls ▸ hz) hf) hi hmi (by kernel_rfl) (pa_cons (pe_var (X := X.suite q.a ((q.a, oe) :: pn)) hN hv (hk2 hk).1 (hk2 hk).2) (pa_cons hc2 pa_nil))).run pins s σ H Q I ?_
  refine ⟨.ref q.a, h1, ⟨c, cv, _, rfl, hc1, hc3 q.c a hca, ?_⟩, fun dx hd => ?_⟩
  · exact RvQ.bl S rfl z
  · rcases h3 with ⟨e1, e2⟩ | ⟨pv, v, dx', e1, e2, e3, r⟩
    · rw [e2] at hd; cases hd
    · rw [e2] at hd; cases hd
      exact ⟨_, S.sub _ _ e3⟩
end Mv
end

section
set_option Elab.async false
set_option linter.all false
set_option maxRecDepth 100000
set_option maxHeartbeats 4000000
/-! BaseSlp: the error at hand is handed to a def that asks for its classes. -/
namespace Mv
open PySem PySem.Spec PySem.W PySem.Calls PyProof.Rows L2
/-- the def: return [isinstance(z, LookupError), isinstance(z, ValueError)] -/
def slpBody (z : Str) (p1 p2 p3 p4 p5 p6 p7 p8 p9 p10 : Pos) : List Stmt :=
  [.Return (some (.List [.Call (.Name (Str.ofString "isinstance") p1) [.Name z p2, .Name (Str.ofString "LookupError") p3] [] p4, .Call (.Name (Str.ofString "isinstance") p5) [.Name z p6, .Name (Str.ofString "ValueError") p7] [] p8] p9)) p10]
structure SlpFact (K : Frag) (mg : Str → Option Value) (g : Str) : Prop where
  ex : ∃ (f : Addr) (oc : Value) (od : Option Addr) (name qual : Str) (params : Arguments) (scope : Scope) (kV doc pm : Value) (an : Option Addr) (cdv ct : Value) (osl : Array (Option Value)) (z : Str) (p1 p2 p3 p4 p5 p6 p7 p8 p9 p10 : Pos),
    List.lookup f K = some { cls := oc, dict := od, data := Data.func (fnOf name qual params (slpBody z p1 p2 p3 p4 p5 p6 p7 p8 p9 p10) scope .none kV doc pm an cdv ct), slots := osl } ∧ codeIn K cdv qual = true ∧ FnScope [z] [z] scope ∧
      mg g = some (.ref f) ∧ keepIn K (.ref f) = true ∧ PBinds (fnOf name qual params (slpBody z p1 p2 p3 p4 p5 p6 p7 p8 p9 p10) scope .none kV doc pm an cdv ct) [z] ∧ okn z = true ∧
      scope.names.lookup (Str.ofString "isinstance") = some .globalImplicit ∧ scope.names.lookup (Str.ofString "LookupError") = some .globalImplicit ∧ scope.names.lookup (Str.ofString "ValueError") = some .globalImplicit ∧ mg (Str.ofString "isinstance") = none ∧ mg (Str.ofString "LookupError") = none ∧ mg (Str.ofString "ValueError") = none
def CXf : CXT := fun _ _ _ _ _ _ => False
theorem slp_of {X : Cx} {M : Md} {C : Cn} {Wx : WX} {q : ErrAt} {oe : Obj} {pn : List (Addr × Obj)} {lv : Nat} {x g : Str} {gp xp pos : Pos} (T : ∀ c a, C.ca c = some a → IsxFact M X.K C.ca c a) (hcl : ∀ y k, List.lookup y M.cls = some k → ∃ b, X.mg y = some (.ref b) ∧ C.ca k = some b)
    (F : SlpFact X.K X.mg g) (hr : Room lv X.A) (hs : X.stack = X.env :: X.outer) (hfr : X.env.frame = some X.env.locals)
    (hz : Zc q.cls q.d oe) (hf : ∃ vs, oe.data = .fields vs) (hN : X.N[q.i]? = some x) (hv : Vis X.env.scope x) (hk : okn x = true)
    (hg : Gl X g) (hkg : okn g = true) :
    PE (X.suite q.a ((q.a, oe) :: pn)) (.Call (.Name g gp) [.Name x xp] [] pos) (tE (C.wr (some q)) Wx (eSlp M.cb q.i)) := by
  have hk2 : ∀ {z : Str}, okn z = true → (z == Str.ofString "__debug__") = false ∧ (z == Str.ofString "__classdict__") = false := fun {z} hk => by
    unfold okn at hk
    simp only [Bool.and_eq_true, Bool.not_eq_true'] at hk
    exact hk.1
  obtain ⟨f, oc, od, name, qual, params, scope, kV, doc, pm, an, cdv, ct, osl, z, p1, p2, p3, p4, p5, p6, p7, p8, p9, p10, lk, hcd, FS, hmg, hkeep, pb, hkz, g1, g2, g3, hmi, h5, h6⟩ := F.ex
  refine ⟨fun pins s σ H Q I h => ?_⟩
  obtain ⟨W, en, s0, S, SE, zq⟩ := h
  obtain ⟨e1, e2, e3⟩ := SE.er q rfl
  have zq : RvQ (C.wr (some q)) W (obnd (getE en q.i) (.bad 9) fun d => pSlp M.cb d s0) Q _ := zq
  rw [e2] at zq
  have zq : RvQ (C.wr (some q)) W (.ok (.lst [.bl (Nat.beq q.c 5 || Nat.beq (M.cb q.c) 5), .bl (Nat.beq q.c 6 || Nat.beq (M.cb q.c) 6)]) s0) Q _ := zq
  refine wpAny_Call_Name_kw (ld_glob I hg hmg ?_ (hk2 hkg).1)
  refine callWith_K (h₀ := X.base) I.ok.mod.kin hkeep (thn ((pa_cons (pe_var (X := X.suite q.a ((q.a, oe) :: pn)) hN hv (hk2 hk).1 (hk2 hk).2) pa_nil).run pos pins s σ H (fun vs H' => vs = [V.ref q.a] ∧ H' = H) I ⟨.ref q.a, e1, rfl, rfl⟩) fun us s1 ⟨vs, H1, I1, r, ev, eH⟩ => ⟨I1.kIn, ?_⟩) rfl rfl
  subst ev; subst eH
  refine wpAny_call (codeAny_mono (R := CR CXf X.stack X.prog X.w H1 s1 Q (fun _ _ _ => True)) ?run fun r s' hq => ?after)
  case after =>
    cases r with
    | error e => exact False.elim hq
    | ok fl =>
      cases fl with
      | ret u => exact I1.after hq
      | next => exact False.elim hq
      | brk => exact False.elim hq
      | cont => exact False.elim hq
  case run =>
    have KX : X.K.In s1.heap := I1.kIn
    have lim : s1.heap.NoLimit := I1.nolimit
    obtain ⟨pget, pnone, pnl, pnf, _⟩ := I1.pin (q.a, oe) (List.mem_append.mpr (.inl List.mem_cons_self))
    have hb := (pb.binds X.K) s1 us KX (by rw [List.append_nil, ← r.length]; rfl)
    rw [List.append_nil] at hb
    have hkind : ∀ y ∈ [z].zip us, scope.names.lookup y.1 = some .local ∨ (scope.names.lookup y.1 = some .cell ∧ ((cellsFrom (s1.heap.objs.size + 1) scope.names []).lookup y.1).isSome = true) := fun ⟨n, v⟩ hy => by
      rcases FS.par n (List.of_mem_zip hy).1 with q | q
      · exact .inl q
      · exact .inr ⟨q, cellsFrom_some _ _ _ (.inl q)⟩
    refine codeAny_call_function hr.depth (KX _ _ lk) rfl FS.co FS.gen rfl (codeRec_of KX hcd) (hb _ _ _ _ ?_)
    refine wpAny_newFunctionEnv_cells FS.kind hkind fun env he s2 xx => ?_
    subst he
    refine ⟨lim.keeps xx.toInCall.keep, codeAny_func ?_⟩
    have e0 : Env0 X.prog X.w X.K X.mg X.base X.A X.stack s1 H1 := ⟨I1.env0.frames, I1.env0.mod, I1.env0.bs, I1.env0.bsz, I1.env0.funs, I1.env0.frf, I1.env0.hok, I1.env0.bare⟩
    have I2 : L2.Inv (cxOf CXf X.prog X.w X.K X.mg X.base [z] qual scope f cdv X.A X.stack s1 H1 (fun _ _ _ => True)) [] (start [z] [V.ref q.a]) H1 s2 := inv_start FS hr.hd e0 rfl r xx
    obtain ⟨vs0, hvs0⟩ := hf
    have I3 := I2.suite (a := q.a) (oe := oe) (vs := vs0) (xx.toInCall.keep _ _ pget) hvs0 pnone (Nat.ne_of_lt (Heap.lt_size pget)) (by
      show q.a ∉ frs X.stack
      rw [hs]
      show q.a ∉ List.filterMap (·.frame) (X.env :: X.outer)
      rw [List.filterMap_cons, hfr]
      intro hm
      rcases List.mem_cons.mp hm with e | e
      · exact pnl e
      · exact pnf e)
    let q' : ErrAt := { q with i := 0 }
    have hvz : Vis scope z := by
      rcases FS.par z (by simp) with q | q
      · exact .inl q
      · exact .inr (.inl q)
    have isx1 : ∀ (k : Nat) (y : Str) (fp xp yp pos : Pos), scope.names.lookup y = some .globalImplicit → okn y = true → ((k = 5 ∧ y = Str.ofString "LookupError" ∧ X.mg y = none) ∨ (k = 6 ∧ y = Str.ofString "ValueError" ∧ X.mg y = none)) →
        PE ((cxOf CXf X.prog X.w X.K X.mg X.base [z] qual scope f cdv X.A X.stack s1 H1 (fun _ _ _ => True)).suite q.a ((q.a, oe) :: [])) (.Call (.Name (Str.ofString "isinstance") fp) [.Name z xp, .Name y yp] [] pos) (tE (C.wr (some q')) (fun _ _ _ _ => False) (eIsx M.cb 0 k)) := fun k y fp xp yp pos hy hoy hw =>
      isx_of (X := cxOf CXf X.prog X.w X.K X.mg X.base [z] qual scope f cdv X.A X.stack s1 H1 (fun _ _ _ => True)) (q := q') T hcl hz ⟨vs0, hvs0⟩ rfl hvz hkz g1 hmi hy hoy (.inr hw)
    have ht := ok_xret (pos := p10) (ok_lstd (m := false) (pos := p9) (ok_cons rfl (isx1 5 _ p1 p2 p3 p4 g2 (by decide) (.inl ⟨rfl, rfl, h5⟩)) (ok_cons rfl (isx1 6 _ p5 p6 p7 p8 g3 (by decide) (.inr ⟨rfl, rfl, h6⟩)) ok_nil)))
    have S' : SimS (C.wr (some q')) W H1 s0 := S.wr (some q')
    have SE' : SimE (C.wr (some q')) W (start [z] [V.ref q.a]) [some (.exc q.c q.p)] := by
      refine ⟨rfl, fun i d hd => ?_, fun y hy => ?_⟩
      · cases i with
        | zero => cases hd; exact ⟨.ref q.a, rfl, .exc _⟩
        | succ i => cases hd
      · cases hy
        exact ⟨rfl, rfl, e3.wr (some q')⟩
    have hq : tS (C.wr (some q')) (fun _ _ _ _ => False) (xRet (Mv.en (.lst false) (esC (eIsx M.cb 0 5) (esC (eIsx M.cb 0 6) esN)))) { nx := fun _ H' => Q .non H', rt := Q } (start [z] [V.ref q.a]) H1 := by
      refine ⟨W, [some (.exc q.c q.p)], s0, S', SE', ?_⟩
      show FlQ (C.wr (some q')) W _ (.rt (.lst [.bl (Nat.beq q.c 5 || Nat.beq (M.cb q.c) 5), .bl (Nat.beq q.c 6 || Nat.beq (M.cb q.c) 6)]) s0) _ _
      intro W' H' v le S2 rd
      exact zq W' H' v le (S2.wr (some q)) (rd.wr (some q))
    refine wpAny_mono ((pss_one ht).run [] s2 (start [z] [V.ref q.a]) H1 _ I3 hq) (fun fl s' hs => ?_) fun e s' hs => False.elim hs
    have fin : ∀ {σ' : L2.St} {H' : Hp} {v : V} {u : Value}, L2.Inv ((cxOf CXf X.prog X.w X.K X.mg X.base [z] qual scope f cdv X.A X.stack s1 H1 (fun _ _ _ => True)).suite q.a ((q.a, oe) :: [])) [] σ' H' s' → RelV v u → Q v H' → CE X.stack X.prog X.w H1 s1 Q u s' :=
      fun {σ' H' v u} J rv q => ⟨v, H', J.os, J.bare, J.base, J.hok, rv, q⟩
    cases fl with
    | ret u =>
      obtain ⟨v, σ', H', J, rv, q⟩ := hs
      exact fin J rv q
    | next =>
      obtain ⟨σ', H', J, q⟩ := hs
      exact fin (v := V.non) (u := Value.none) J rfl q
    | brk =>
      obtain ⟨_, _, _, q⟩ := hs
      exact False.elim q
    | cont =>
      obtain ⟨_, _, _, q⟩ := hs
      exact False.elim q
def glbB (sc : Scope) (x : Str) : Bool := match List.lookup x sc.names with | some .globalImplicit => true | _ => false
theorem glbB_ok {sc : Scope} {x : Str} (h : glbB sc x = true) : sc.names.lookup x = some .globalImplicit := by
  unfold glbB at h
  split at h
  · assumption
  · cases h
def nonB (K : Frag) (x : Str) : Bool := match nsIn K mainGlobals x with | some none => true | _ => false
theorem nonB_ok {K : Frag} {mg : Str → Option Value} {h : Heap} (X : K.In h) (G : h.Ns mainGlobals mg) {x : Str} (hb : nonB K x = true) : mg x = none := by
  unfold nonB at hb
  split at hb
  · rename_i e; exact mg_none_of X G e
  · cases hb
def slpB (K : Frag) (g : Str) : Bool := match glAt K g with
  | some f => (match List.lookup f K with
    | some ⟨_, _, .func fd, _⟩ => (match fd.body with
      | .stmts [.Return (some (.List [.Call (.Name a1 _) [.Name z1 _, .Name b1 _] [] _, .Call (.Name a2 _) [.Name z2 _, .Name b2 _] [] _] _)) _] =>
        decide (a1 = Str.ofString "isinstance") && decide (a2 = Str.ofString "isinstance") && decide (b1 = Str.ofString "LookupError") && decide (b2 = Str.ofString "ValueError") && decide (z2 = z1) && okn z1 &&
        (match parsB fd.params with | some as => decide (as.map (·.arg) = [z1]) | none => false) && decide (fd.globals = mainGlobals) && fd.closure.isEmpty && (match fd.defaults with | .none => true | _ => false) && decide (fd.builtins = builtinsNs) &&
        codeIn K fd.code fd.qualname && keepIn K (.ref f) && scpB [z1] [z1] fd.scope && glbB fd.scope (Str.ofString "isinstance") && glbB fd.scope (Str.ofString "LookupError") && glbB fd.scope (Str.ofString "ValueError") &&
        nonB K (Str.ofString "isinstance") && nonB K (Str.ofString "LookupError") && nonB K (Str.ofString "ValueError")
      | _ => false)
    | _ => false)
  | none => false
theorem slpB_ok {K : Frag} {mg : Str → Option Value} {h : Heap} (X : K.In h) (G : h.Ns mainGlobals mg) {g : Str} (hb : slpB K g = true) : SlpFact K mg g := by
  unfold slpB at hb
  split at hb
  · rename_i f hf
    split at hb
    · rename_i oc od fd osl hl
      obtain ⟨name, qual, params, fbody, scope, gl, cls, dV, kV, doc, pm, an, cdv, ct, bi⟩ := fd
      dsimp only at hb
      split at hb
      · rename_i a1 p1 z1 p2 b1 p3 p4 a2 p5 z2 p6 b2 p7 p8 p9 p10
        simp only [Bool.and_eq_true, decide_eq_true_eq] at hb
        obtain ⟨⟨⟨⟨⟨⟨⟨⟨⟨⟨⟨⟨⟨⟨⟨⟨⟨⟨⟨k1, k2⟩, k3⟩, k4⟩, k5⟩, k6⟩, k7⟩, k8⟩, k9⟩, k10⟩, k11⟩, k12⟩, k13⟩, k14⟩, k15⟩, k16⟩, k17⟩, k18⟩, k19⟩, k20⟩ := hb
        subst k1 k2 k3 k4 k5 k8 k11
        have k9 : cls = [] := by simpa using k9
        subst k9
        split at k7
        · rename_i as ha
          have h2 : as.map (·.arg) = [z2] := by simpa using k7
          have hp := parsB_ok ha
          subst hp
          split at k10
          · refine ⟨f, oc, od, name, qual, plainA as, scope, kV, doc, pm, an, cdv, ct, osl, z2, p1, p2, p3, p4, p5, p6, p7, p8, p9, p10, hl, k12, scpB_ok k14, mg_of X G (glAt_ok hf), k13, ?_, k6, glbB_ok k15, glbB_ok k16, glbB_ok k17, nonB_ok X G k18, nonB_ok X G k19, nonB_ok X G k20⟩
            rw [← h2]; exact plain_PBinds (by rw [h2]; simp)
          · cases k10
        · cases k7
      · cases hb
    · cases hb
  · cases hb
end Mv
end

section
set_option Elab.async false
set_option linter.all false
set_option maxRecDepth 100000
set_option maxHeartbeats 4000000
/-! BaseOk: the facts of the error classes, by a check of the written part. -/
namespace Mv
open PySem PySem.Spec PySem.W PySem.Calls PyProof.Rows L2
/-- the words of an __init__ -/
def initIs (f : Str) : List Stmt → Bool
  | [.Expr (.Call (.Attribute (.Call (.Name s p0) [] [] p1) i p2) [.Name g p3] [] p4) p5, .Assign [.Attribute (.Name sf q1) h q2] (.Name j q3) q4] =>
    decide (s = Str.ofString "super") && decide (i = Str.ofString "__init__") && decide (g = f) && decide (sf = selfN) && decide (h = f) && decide (j = f) && (p2.endLine == p4.line)
  | _ => false
theorem initIs_ok {f : Str} {l : List Stmt} (h : initIs f l = true) : ∃ p0 p1 p2 p3 p4 p5 q1 q2 q3 q4, l = initB f p0 p1 p2 p3 p4 p5 q1 q2 q3 q4 ∧ (p2.endLine == p4.line) = true := by
  unfold initIs at h
  split at h
  · simp only [Bool.and_eq_true, decide_eq_true_eq] at h
    obtain ⟨⟨⟨⟨⟨⟨h1, h2⟩, h3⟩, h4⟩, h5⟩, h6⟩, h7⟩ := h
    subst h1; subst h2; subst h3; subst h4; subst h5; subst h6
    exact ⟨_, _, _, _, _, _, _, _, _, _, rfl, h7⟩
  · cases h
def argsIs (f : Str) (a : Arguments) : Bool := match parsB a with
  | some [⟨x, _, _⟩, ⟨y, _, _⟩] => decide (x = selfN) && decide (y = f)
  | _ => false
theorem argsIs_ok {f : Str} {a : Arguments} (h : argsIs f a = true) : ∃ a1 a2 r1 r2, a = plainA [⟨selfN, a1, r1⟩, ⟨f, a2, r2⟩] := by
  unfold argsIs at h
  split at h
  · rename_i e
    simp only [Bool.and_eq_true, decide_eq_true_eq] at h
    obtain ⟨h1, h2⟩ := h
    subst h1; subst h2
    exact ⟨_, _, _, _, parsB_ok e⟩
  · cases h
def clsIs (K : Frag) (C : Addr) (tl : List Value) (newId : String) : Bool := match List.lookup C K with
  | some ⟨.type t, _, .cls cd, sl⟩ => decide (t = "type") && decide (cd.mro = .ref C :: tl) && cd.hasDict && !cd.hasDel && (match sl.toList with | [_, _, _, _, some (.builtin n), _] => decide (n = newId) | _ => false)
  | _ => false
theorem clsIs_ok {K : Frag} {C : Addr} {tl : List Value} {newId : String} (h : clsIs K C tl newId = true) : ∃ nm q N bs sn sub ab col dd k0 k1 k2 k3 k5, List.lookup C K = some (excClassObj nm q C N bs tl true sn sub ab col dd k0 k1 k2 k3 k5 newId) := by
  unfold clsIs at h
  split at h
  · rename_i t dd cd sl hl
    simp only [Bool.and_eq_true, decide_eq_true_eq, Bool.not_eq_true'] at h
    obtain ⟨⟨⟨⟨h1, h2⟩, h3⟩, h4⟩, h5⟩ := h
    obtain ⟨nm, bs, mro, ns, qn, hd, sn, sb, ab, col, del⟩ := cd
    dsimp only at h2 h3 h4
    subst h1; subst h2; subst h3; subst h4
    split at h5
    · rename_i k0 k1 k2 k3 n k5 e
      have h5 : n = newId := by simpa using h5
      subst h5
      obtain ⟨l⟩ := sl
      dsimp only at e
      subst e
      exact ⟨_, _, _, _, _, _, _, _, _, _, _, _, _, _, hl⟩
    · cases h5
  · cases h
def scI (f : Str) (sc : Scope) : Bool := (match sc.kind with | .function => true | _ => false) && !sc.isCoroutine && !sc.isGenerator && (sc.names.all fun y => match y.2 with | .cell => false | _ => true) &&
  (match List.lookup selfN sc.names with | some .local => true | _ => false) && (match List.lookup f sc.names with | some .local => true | _ => false) && (match List.lookup (Str.ofString "super") sc.names with | some .globalImplicit => true | _ => false) && (match List.lookup (Str.ofString "__class__") sc.names with | some .free => true | _ => false)
theorem scI_ok {f : Str} {sc : Scope} (h : scI f sc = true) : sc.kind = .function ∧ sc.isCoroutine = false ∧ sc.isGenerator = false ∧ (∀ y ∈ sc.names, y.2 ≠ .cell) ∧ sc.names.lookup selfN = some .local ∧ sc.names.lookup f = some .local ∧ sc.names.lookup ("super" : Str) = some .globalImplicit ∧ sc.names.lookup ("__class__" : Str) = some .free := by
  unfold scI at h
  simp only [Bool.and_eq_true, Bool.not_eq_true'] at h
  obtain ⟨⟨⟨⟨⟨⟨⟨h1, h2⟩, h3⟩, h4⟩, h5⟩, h6⟩, h7⟩, h8⟩ := h
  refine ⟨?_, h2, h3, fun y hy e => ?_, ?_, ?_, ?_, ?_⟩
  · split at h1
    · assumption
    · cases h1
  · have := List.all_eq_true.mp h4 y hy
    rw [e] at this; cases this
  · split at h5
    · assumption
    · cases h5
  · split at h6
    · assumption
    · cases h6
  · split at h7
    · assumption
    · cases h7
  · split at h8
    · assumption
    · cases h8
def cellIs (K : Frag) (cc C : Addr) : Bool := match List.lookup cc K with
  | some ⟨_, _, .cell (some (.ref C')), _⟩ => Nat.beq C' C
  | _ => false
def fileIs (prog : Program) (K : Frag) (cda : Addr) : Bool := match List.lookup cda K with
  | some ⟨_, _, .fields vs, _⟩ => (match (vs[2]? : Option Value) with | some (Value.str file _) => ((prog.main.file : Str) == file) | _ => false)
  | _ => false
def initFnB (prog : Program) (K : Frag) (f : Str) (C fI : Addr) : Bool := match List.lookup fI K with
  | some ⟨_, _, .func fd, _⟩ => (match fd.body with | .stmts b => initIs f b | _ => false) && argsIs f fd.params && decide (fd.globals = mainGlobals) && (match fd.defaults with | .none => true | _ => false) && decide (fd.builtins = builtinsNs) && scI f fd.scope &&
      (match fd.closure, fd.code with | [(nm, cc)], .ref cda => decide (nm = Str.ofString "__class__") && codeIn K (.ref cda) fd.qualname && cellIs K cc C && fileIs prog K cda | _, _ => false)
  | _ => false
def initOf (K : Frag) (C : Addr) : Addr := match findIn K (.ref C) "__init__" with | some (some (.ref fI)) => fI | _ => 0
def isO {α : Type} [DecidableEq α] (a : Option α) (b : α) : Bool := match a with | some x => decide (x = b) | none => false
def payB (prog : Program) (K : Frag) (newId : String) (tl : List Value) (f : Str) (C : Addr) : Bool :=
  clsIs K C tl newId && decide (findIn K (.ref C) "__setattr__" = some (some (.builtin "object.__setattr__"))) && decide (findIn K (.ref C) f = some none) && decide (findIn K (.ref C) "__init__" = some (some (.ref (initOf K C)))) &&
    decide (typeIn K (.ref (initOf K C)) = some (.type "function")) && decide (nsIn K cStatics "thirdparty.any" = some none) && decide (nsIn K mainGlobals "super" = some none) && !(prog.main.scope.names.lookup ("super" : Str)).isSome && !(f == selfN) && !(f == Str.ofString "__debug__") && initFnB prog K f C (initOf K C)
theorem payB_ok {prog : Program} {K : Frag} {newId : String} {tl : List Value} {f : Str} {C : Addr} (h : payB prog K newId tl f C = true) : PayTxt prog K newId tl f C (initOf K C) := by
  unfold payB at h
  simp only [Bool.and_eq_true, decide_eq_true_eq, Bool.not_eq_true'] at h
  obtain ⟨⟨⟨⟨⟨⟨⟨⟨⟨⟨h1, h2⟩, h3⟩, h4⟩, h5⟩, h6⟩, h7⟩, h8⟩, h9⟩, h10⟩, h11⟩ := h
  refine ⟨clsIs_ok h1, h2, h3, h4, h5, h6, h7, h8, h9, h10, ?_⟩
  unfold initFnB at h11
  split at h11
  · rename_i oc od fd osl hl
    simp only [Bool.and_eq_true, decide_eq_true_eq] at h11
    obtain ⟨⟨⟨⟨⟨⟨g1, g2⟩, g3⟩, g4⟩, g5⟩, g6⟩, g7⟩ := h11
    obtain ⟨name, qual, params, fbody, scope, gl, cls, dV, kV, doc, pm, an, cdv, ct, bi⟩ := fd
    simp only at g1 g2 g3 g4 g5 g6 g7
    split at g1
    · obtain ⟨p0, p1, p2, p3, p4, p5, q1, q2, q3, q4, e1, e2⟩ := initIs_ok g1
      obtain ⟨a1, a2, r1, r2, e3⟩ := argsIs_ok g2
      obtain ⟨s1, s2, s3, s4, s5, s6, s7, s8⟩ := scI_ok g6
      split at g4
      · split at g7
        · rename_i nm cc cda
          simp only [Bool.and_eq_true, decide_eq_true_eq] at g7
          obtain ⟨⟨⟨f1, f2⟩, f3⟩, f4⟩ := g7
          subst f1
          unfold cellIs at f3
          split at f3
          · rename_i cl cld C' csl hcc
            have f3 := (beq_true_iff _ _).mp f3
            subst f3
            unfold fileIs at f4
            split at f4
            · rename_i ccl cdd vs ccs hcd
              split at f4
              · rename_i file tf hv
                subst e1; subst e3; subst g3; subst g5
                exact ⟨oc, od, name, qual, a1, a2, r1, r2, p0, p1, p2, p3, p4, p5, q1, q2, q3, q4, scope, kV, doc, pm, an, cda, ct, cc, osl, ccl, cdd, vs, ccs, file, tf, cl, cld, csl, hl, f2, hcd, hv, f4, hcc, e2, s1, s2, s3, s4, s5, s6, s7, s8⟩
              · cases f4
            · cases f4
          · cases f3
        · cases g7
      · cases g4
    · cases g1
  · cases h11
end Mv
end

section
set_option Elab.async false
set_option linter.all false
set_option maxRecDepth 100000
set_option maxHeartbeats 4000000
/-! BaseAll: Base, by a check. -/
namespace Mv
open PySem PySem.Spec PySem.W PySem.Calls PyProof.Rows L2
abbrev veTl : List Value := [.type "ValueError", .type "Exception", .type "BaseException", .type "object"]
abbrev leTl : List Value := [.type "LookupError", .type "Exception", .type "BaseException", .type "object"]
def rseB (prog : Program) (M : Md) (ar : Nat → Nat) (K : Frag) (k : Nat) (a : Addr) : Bool :=
  keepIn K (.ref a) && decide (subIn K (.ref a) (.type "BaseException") = some true) && decide (typeIn K (.ref a) = some (.type "type")) && decide (nsIn K mainGlobals (Str.ofString "super") = some none) &&
    (match ar k with | 0 => excIn K a veTl "ValueError.__new__" || excIn K a leTl "LookupError.__new__" | 1 => payB prog K "ValueError.__new__" veTl (M.fld k) a || payB prog K "LookupError.__new__" leTl (M.fld k) a | _ => false)
theorem rseB_ok {prog : Program} {M : Md} {ar : Nat → Nat} {K : Frag} {k : Nat} {a : Addr} (h : rseB prog M ar K k a = true) : RseFact prog M ar K k a := by
  unfold rseB at h
  simp only [Bool.and_eq_true, decide_eq_true_eq] at h
  obtain ⟨⟨⟨⟨h1, h2⟩, h3⟩, h4⟩, h5⟩ := h
  refine ⟨h1, h2, h3, h4, ?_⟩
  split at h5
  · rename_i e
    rcases (Bool.or_eq_true _ _).mp h5 with h5 | h5
    · exact .inl ⟨e, _, _, _, _, F.excBase_ValueError, h5⟩
    · exact .inl ⟨e, _, _, _, _, F.excBase_LookupError, h5⟩
  · rename_i e
    rcases (Bool.or_eq_true _ _).mp h5 with h5 | h5
    · exact .inr ⟨e, _, _, _, _, _, payF_ValueError, payB_ok h5⟩
    · exact .inr ⟨e, _, _, _, _, _, payF_LookupError, payB_ok h5⟩
  · cases h5
def fldB (K : Frag) (f : Str) (a : Addr) : Bool := decide (findIn K (.ref a) "__getattribute__" = some (some (.builtin "BaseException.__getattribute__"))) && (findIn K (.ref a) "__getattr__").isSome && decide (subIn K (.ref a) (.type "BaseException") = some true) && hasDictIn K a && decide (findIn K (.ref a) f = some none)
theorem fldB_ok {K : Frag} {f : Str} {a : Addr} (h : fldB K f a = true) : FldFact K f a := by
  unfold fldB at h
  simp only [Bool.and_eq_true, decide_eq_true_eq] at h
  obtain ⟨⟨⟨⟨h1, h2⟩, h3⟩, h4⟩, h5⟩ := h
  exact ⟨h1, Option.isSome_iff_exists.mp h2, h3, h4, h5⟩
def excCB (K : Frag) (D : Addr) : Bool := decide (findIn K (.ref D) "__getattribute__" = some (some (.builtin "BaseException.__getattribute__"))) && decide (findIn K (.ref D) "__getattr__" = some none) && decide (subIn K (.ref D) (.type "BaseException") = some true) && hasDictIn K D &&
  decide (findIn K (.ref D) "__class__" = some (some (.builtin "object.__class__"))) && decide (specialIn K (.builtin "object.__class__") "__get__" = some (some (.builtin "getset_descriptor.__get__"))) && decide (takesIn K (.builtin "object.__class__") = some true) && decide (mroIn K D (.type "object") = some true)
theorem excCB_ok {K : Frag} {D : Addr} (h : excCB K D = true) : ExcC K D := by
  unfold excCB at h
  simp only [Bool.and_eq_true, decide_eq_true_eq] at h
  obtain ⟨⟨⟨⟨⟨⟨⟨h1, h2⟩, h3⟩, h4⟩, h5⟩, h6⟩, h7⟩, h8⟩ := h
  exact ⟨h1, h2, h3, h4, h5, h6, h7, h8⟩
def isxB (M : Md) (K : Frag) (c : Nat) (a : Addr) : Bool := excCB K a && (M.cls.all fun q => match caK M.cls K q.2 with | some b => decide (kitOne K (.ref a) (.ref b) = some (Nat.beq c q.2 || Nat.beq (M.cb c) q.2)) | none => true) &&
  decide (kitOne K (.ref a) (.type "LookupError") = some (Nat.beq c 5 || Nat.beq (M.cb c) 5)) && decide (kitOne K (.ref a) (.type "ValueError") = some (Nat.beq c 6 || Nat.beq (M.cb c) 6))
theorem isxB_ok {M : Md} {K : Frag} {c : Nat} {a : Addr} (h : isxB M K c a = true) : IsxFact M K (caK M.cls K) c a := by
  unfold isxB at h
  simp only [Bool.and_eq_true, decide_eq_true_eq] at h
  obtain ⟨⟨⟨h1, h2⟩, h3⟩, h4⟩ := h
  refine ⟨excCB_ok h1, fun y k b hy hb => ?_, h3, h4⟩
  have := List.all_eq_true.mp h2 _ (look_mem hy)
  dsimp only at this
  rw [hb] at this
  simpa using this
def exmB (M : Md) (K : Frag) (c : Nat) (a : Addr) : Bool := M.cls.all fun q => match caK M.cls K q.2 with | some b => decide (exmOne K (.ref a) (.ref b) = some (Nat.beq c q.2 || Nat.beq (M.cb c) q.2)) | none => true
def baseB (prog : Program) (M : Md) (ar : Nat → Nat) (K : Frag) : Bool := M.cls.all fun q => match caK M.cls K q.2 with | some a => rseB prog M ar K q.2 a && fldB K (M.fld q.2) a && isxB M K q.2 a && exmB M K q.2 a | none => true
theorem caK_mem {cls : List (Str × Nat)} {K : Frag} {c : Nat} {a : Addr} (h : caK cls K c = some a) : ∃ q ∈ cls, q.2 = c ∧ glAt K q.1 = some a := by
  unfold caK at h
  split at h
  · rename_i q hq
    have hp := List.find?_some hq
    exact ⟨q, List.mem_of_find?_eq_some hq, (beq_true_iff _ _).mp hp, h⟩
  · cases h
theorem base_of {prog : Program} {M : Md} {ar : Nat → Nat} {C : Cn} {K : Frag} {mg : Str → Option Value} (hca : C.ca = caK M.cls K) (hfl : C.fld = M.fld) (hsup : mg (Str.ofString "super") = none) (hcl : ∀ y k, List.lookup y M.cls = some k → ∃ b, mg y = some (.ref b) ∧ C.ca k = some b) (hsl : ∀ g, M.slp.contains g = true → SlpFact K mg g) (h : baseB prog M ar K = true) : Base M ar C prog K mg := by
  have all : ∀ c a, C.ca c = some a → RseFact prog M ar K c a ∧ FldFact K (M.fld c) a ∧ IsxFact M K (caK M.cls K) c a ∧ exmB M K c a = true := fun c a hc => by
    rw [hca] at hc
    obtain ⟨q, hq, e, _⟩ := caK_mem hc
    have := List.all_eq_true.mp h q hq
    rw [e, hc] at this
    simp only [Bool.and_eq_true] at this
    obtain ⟨⟨⟨g1, g2⟩, g3⟩, g4⟩ := this
    exact ⟨rseB_ok g1, fldB_ok g2, isxB_ok g3, g4⟩
  refine ⟨fun c k a b ha hb => ?_, fun {X Wx lv} eP eK eM hc hr tk k x xp pos xs r hg hok hl hlen hA hs h0 h1 => ?_, fun {X Wx} q oe pn k x xp pos eK hz hf hN hv hk => ?_, fun {X Wx} q oe pn k x y fp xp yp pos eK eM hz hf hN hv hk hi hmi hy hky hw => ?_, fun {X Wx lv} q oe pn x g gp xp pos eP eK eM hr hs hfr hz hf hN hv hk hg hkg hm => ?_⟩
  · obtain ⟨_, _, _, g⟩ := all c a ha
    rw [hca] at hb
    obtain ⟨q, hq, e, _⟩ := caK_mem hb
    have := List.all_eq_true.mp g q hq
    rw [e, hb] at this
    simpa using this
  · obtain ⟨b, h2, h3⟩ := hcl x k hl
    exact rse_of (all k b h3).1 h3 hfl eP eK (by rw [eM]; exact h2) (by rw [eM]; exact hsup) hr xp pos xs r hg hok hlen hA hs h0 h1
  · subst eK
    rw [← hfl]
    exact fld_of (fun a ha => by rw [hfl]; exact (all k a ha).2.1) hz hf hN hv hk
  · subst eK; subst eM
    exact isx_of (fun c a ha => by rw [hca]; exact (all c a ha).2.2.1) hcl hz hf hN hv hk hi hmi hy hky hw
  · subst eK; subst eM
    exact slp_of (fun c a ha => by rw [hca]; exact (all c a ha).2.2.1) hcl (hsl g hm) hr hs hfr hz hf hN hv hk hg hkg
end Mv
end

section
set_option Elab.async false
set_option linter.all false
set_option maxRecDepth 100000
set_option maxHeartbeats 4000000
/-! End: the law's own def. -/
namespace Mv
open PySem PySem.Spec PySem.W PySem.Calls PyProof.Rows L2
def cnOf (M : Md) (T : List (Addr × Addr × Str)) (K : Frag) (w : World) : Cn := { K := K, fa := faK M.fns K, ca := caK M.cls K, fld := M.fld, w := w, er := none, T := T }
/-- the tables at Ps: their code objects, the names of the lambdas -/
def tabOne (K : Frag) (P : Addr) : Option (Addr × Addr × Str) := (K.find? fun p => match p.2.data with
    | .fields vs => (match (vs[11]? : Option Value) with | some (.ref P') => P' == P | _ => false)
    | _ => false).bind fun p => match p.2.data with
    | .fields vs => (match (vs[1]? : Option Value) with | some (.str q _) => some (p.1, P, q ++ Str.ofString ".<locals>." ++ Str.ofString "<lambda>") | _ => none)
    | _ => none
def tabsK (Ps : List Addr) (K : Frag) : List (Addr × Addr × Str) := Ps.filterMap (tabOne K)
def tabB (Ps : List Addr) (K : Frag) : Bool := (tabsK Ps K).all fun t => codeHdIn K t.1 t.2.1 && (K.lookup t.2.1).isNone && Ps.contains t.2.1 && !(t.2.1 == mainGlobals)
def clsB (M : Md) (K : Frag) : Bool := (decide (M.cls.map (·.1)).Nodup && M.cls.all (fun q => match glAt K q.1 with | some a => decide (caK M.cls K q.2 = some a) | none => false)) && M.slp.all (slpB K)
theorem end_ok {M : Md} {ar : Nat → Nat} {tr : TrE} {K : Frag} {mg : Str → Option Value} {h : Heap} {Pg : Program} {T : List (Addr × Addr × Str)} {w : World} {lv : Nat} {law p : Str} {n : Nat} {fa : Addr} {Q : Nat → Option Fd} (hQ : Stg (PT M.cb tr) Q) (X : K.In h) (G : h.Ns mainGlobals mg) (hmod : modB M ar tr T K = true) (hbase : baseB Pg M ar K = true) (hcb : clsB M K = true)
    (hs : nsIn K mainGlobals (Str.ofString "super") = some none) (hl : List.lookup law M.fns = some (n, [p])) (hmg : mg law = some (.ref fa)) :
    ∃ fd : FuncData, (∀ (s : Shared) (us : List Value), us.length = [p].length → BindsTo s fd ⟨us, []⟩ ([p].zip us)) ∧ ∀ base, TBs (cnOf M T K w) base mg → FnOk Pg w K mg base (CX Pg w) lv fa fd [p] (spF (cnOf M T K w) (callN Q lv) n) := by
  have B : Base M ar (cnOf M T K w) Pg K mg := by
    refine base_of (C := cnOf M T K w) rfl rfl (mg_none_of X G hs) (fun y k hy => ?_) (fun g hg => slpB_ok X G (List.all_eq_true.mp ((Bool.and_eq_true _ _).mp hcb).2 g (by simpa using hg))) hbase
    unfold clsB at hcb
    have := List.all_eq_true.mp ((Bool.and_eq_true _ _).mp ((Bool.and_eq_true _ _).mp hcb).1).2 _ (look_mem hy)
    split at this
    · rename_i a ha
      have this : caK M.cls K k = some a := by simpa using this
      exact ⟨a, mg_of X G (glAt_ok ha), this⟩
    · cases this
  have O := modB_ok (C := cnOf M T K w) X G rfl rfl rfl rfl hmod rfl B
  obtain ⟨f, fd, h1, h2, h3, h4, h5⟩ := fns_ok O (hQ.all O) lv law (n, [p]) hl
  have e : f = fa := by
    have := h2.symm.trans hmg
    cases this; rfl
  subst e
  exact ⟨fd, fun s us hu => h4.pos hu, h1⟩
/-- the run ends in True -/
def isTrue' : Rv → Bool
  | .ok (.bl b) _ => b
  | _ => false
theorem law_ok {l : OpenLaw} {n lv m : Nat} {q : Program} {loose : List Str} {XP : (Str → Option Value) → Heap → Prop} {YP : World → Heap → Prop} {d : DefRec} {K : Params → Frag} {M : Md} {ar : Nat → Nat} {tr : TrE} {p : Str} {Q : Nat → Option Fd} (hQ : Stg (PT M.cb tr) Q) (Ps : List Addr)
    (hn : l.most = some n) (hn2 : n ≤ sizeLine) (hdf : d.params.defaults = []) (hr : Room lv callerA) (hY : ∀ (w : World) (h : Heap), YP w h → (K w.params).In h ∧ ∀ P ∈ Ps, h.get? P = some (tabObj #[]))
    (hl : List.lookup d.name M.fns = some (m, [p])) (run : ∀ ns : List Int, ns.length ≤ n → isTrue' (callN Q lv m [.scr ns] ⟨0, []⟩) = true) (ht : ∀ pr, tabB Ps (K pr) = true)
    (hmod : ∀ pr, modB M ar tr (tabsK Ps (K pr)) (K pr) = true) (hbase : ∀ pr, baseB l.prog M ar (K pr) = true) (hcb : ∀ pr, clsB M (K pr) = true) (hs : ∀ pr, nsIn (K pr) mainGlobals (Str.ofString "super") = some none) :
    WalkO q loose XP YP l.row.toRowW d [] (fun f vs => PySem.call f vs) := by
  refine LamX.walk_ofTs (K := K) (CX := fun w => L2.CX l.prog w) (k := lv) (x := p) hn hn2 hdf hr (fun w h y => (hY w h y).1) (fun w mg fa h Y X G hmg => ?_) (fun w H s e s' h => ?_)
  · obtain ⟨fd, h1, h2⟩ := end_ok hQ (Pg := l.prog) (w := w) (lv := lv) (T := tabsK Ps (K w.params)) X G (hmod _) (hbase _) (hcb _) (hs _) hl hmg
    have hb := List.all_eq_true.mp (ht w.params)
    have each : ∀ t ∈ tabsK Ps (K w.params), codeHdIn (K w.params) t.1 t.2.1 = true ∧ (K w.params).lookup t.2.1 = none ∧ t.2.1 ∈ Ps := fun t h => by
      have := hb t h
      simp only [Bool.and_eq_true, Option.isNone_iff_eq_none, List.contains_iff_mem] at this
      exact ⟨this.1.1.1, this.1.1.2, this.1.2⟩
    have back : ∀ {p : Addr × Addr}, p ∈ (tabsK Ps (K w.params)).map (fun t => (t.1, t.2.1)) → ∃ t ∈ tabsK Ps (K w.params), p = (t.1, t.2.1) := fun {p} hp => by
      obtain ⟨t, h1, h2⟩ := List.mem_map.mp hp
      exact ⟨t, h1, h2.symm⟩
    refine ⟨fd, (tabsK Ps (K w.params)).map (fun t => (t.1, t.2.1)), _, fun p hp => ?_, fun p hp => ?_, fun p hp => ?_, fun s u => h1 s [u] rfl, fun H a ns hlen _ hT hS => ?_, fun base hK hN hTB => h2 base fun t ht => hTB (t.1, t.2.1) (List.mem_map.mpr ⟨t, ht, rfl⟩)⟩
    · obtain ⟨t, h3, rfl⟩ := back hp
      exact (hY w h Y).2 _ (each t h3).2.2
    · obtain ⟨t, h3, rfl⟩ := back hp
      exact (each t h3).2.1
    · obtain ⟨t, h3, rfl⟩ := back hp
      exact codeHd_of_K X (each t h3).1
    · have hF : ∀ b o, (fun b => match H b with | some (.tbl _) => none | o => o) b = some o → H b = some o := fun b o e => by
        simp only at e
        split at e
        · cases e
        · exact e
      have hS' : SqL (K w.params) (fun b => match H b with | some (.tbl _) => none | o => o) a (ns.map V.int) := by
        rcases hS with (z | ⟨o, z⟩) | z
        · exact .inl (.inl (by simp only [z]))
        · exact .inl (.inr ⟨o, by simp only [z]⟩)
        · exact .inr z
      refine ⟨⟨fun b => match H b with | some (.tbl _) => none | o => o, fun _ => none, fun _ => none, fun _ => none⟩, [.scr ns], ⟨0, []⟩, ⟨hF, fun n o h => (by cases h), fun n m a h => (by cases h), fun n _ => ⟨rfl, rfl⟩, fun n c vs h => (by cases h), List.nodup_nil, fun a vs h => (by cases h), fun a o h => (by cases h), fun t ht => ?_⟩, .cons (.scr hS') .nil, ?_⟩
      · have := hT (t.1, t.2.1) (List.mem_map.mpr ⟨t, ht, rfl⟩)
        simp only at this
        exact ⟨by simp only [this], #[], this, True.intro, fun pos cv e => by
          have z : codeAmong pos [] = some cv := e
          simp [codeAmong] at z⟩
      · have := run ns hlen
        unfold isTrue' at this
        split at this
        · rename_i b s e
          subst this
          rw [e]
          intro W' H' v le S' r
          cases r; rfl
        · cases this
  · obtain ⟨_, _, _, _, _, _, _, _, _, _, _, _, h⟩ := h
    exact h
end Mv
end

section
set_option Elab.async false
set_option linter.all false
set_option maxRecDepth 100000
set_option maxHeartbeats 4000000
/-! Draw: the draws of a script, for every script. -/
noncomputable section
namespace Mv
def cellsB : List Sm := [.asg (.nm 2) (.or (.o1 (.lst true) (.on (.slc false false true) [(.var 0), (.con .non), (.o1 .ich (.var 1))])) (.on (.lst true) [(.con (.int (.ofNat 0)))])), .for_ (.tp [(.nm 3), (.nm 4)]) .enum [(.on (.slc false true true) [(.var 0), (.o1 .ich (.var 1)), (.o1 .ich (.con (.int (.ofNat 63))))])] [.asg (.nm 5) (.o2 (.bin .mod false) (.o1 .int_ (.var 3)) (.var 1)), .set (.var 2) (.var 5) (.o2 (.bin .add false) (.o2 .idx (.var 2) (.var 5)) (.o2 (.bin .mul false) (.var 4) (.o2 (.bin .add false) (.var 3) (.con (.int (.ofNat 2))))))], .ret (.o1 .frz (.var 2))]
def boxB (c : Nat) : List Sm := [.asg (.nm 2) (.ife (.o2 (.cmp .lt) (.var 1) (.o1 .len (.var 0))) (.o2 .idx (.var 0) (.var 1)) (.con (.int (.ofNat 0)))), .ret (.on (.lst true) [(.o2 (.bin .mul false) (.o1 .abs (.var 2)) (.o1 .int_ (.o2 (.cmp .ge) (.o1 .abs (.var 2)) (.o2 (.bin .pow false) (.con (.int (.ofNat 10))) (.con (.int (.ofNat 18))))))), (.o2 (.bin .add false) (.o2 (.bin .add false) (.o2 (.bin .mod false) (.o1 .int_ (.var 2)) (.con (.int (.ofNat 2305843009213693951)))) (.o2 (.bin .mul false) (.con (.int (.ofNat 39373))) (.var 1))) (.con (.int (.ofNat c)))), (.con (.int (.ofNat 0)))])]
def takeB : List Sm := [.ife (.o2 (.cmp .gt) (.o2 .idx (.var 0) (.con (.int (.ofNat 0)))) (.con (.int (.ofNat 0)))) [.asg (.nm 5) (.o2 (.bin .mod false) (.o1 .int_ (.o2 .idx (.var 0) (.con (.int (.ofNat 0))))) (.var 1)), .set (.var 0) (.con (.int (.ofNat 0))) (.o2 (.bin .fdiv false) (.o2 .idx (.var 0) (.con (.int (.ofNat 0)))) (.var 1)), .ret (.var 5)] [], .set (.var 0) (.con (.int (.ofNat 2))) (.o2 (.bin .add false) (.o2 .idx (.var 0) (.con (.int (.ofNat 2)))) (.con (.int (.ofNat 1)))), .asg (.nm 2) (.o2 (.bin .mod false) (.o1 .int_ (.o2 (.bin .mul false) (.o2 (.bin .add false) (.o2 .idx (.var 0) (.con (.int (.ofNat 1)))) (.o2 (.bin .mul false) (.con (.int (.ofNat 48271))) (.o2 .idx (.var 0) (.con (.int (.ofNat 2)))))) (.o2 (.bin .add false) (.con (.int (.ofNat 39373))) (.o2 .idx (.var 0) (.con (.int (.ofNat 2))))))) (.con (.int (.ofNat 2147483647)))), .asg (.nm 3) (.o2 (.bin .add false) (.o2 (.bin .mod false) (.o1 .int_ (.var 2)) (.con (.int (.ofNat 40009)))) (.con (.int (.ofNat 7)))), .asg (.nm 4) (.o2 (.bin .mod false) (.o1 .int_ (.o2 (.bin .mul false) (.o2 (.bin .add false) (.o2 (.bin .add false) (.var 2) (.o2 .idx (.var 0) (.con (.int (.ofNat 2))))) (.o2 (.bin .fdiv false) (.o2 .idx (.var 0) (.con (.int (.ofNat 1)))) (.con (.int (.ofNat 1000003))))) (.var 3))) (.con (.int (.ofNat 2147483629)))), .ret (.o2 (.bin .mod false) (.o1 .int_ (.o2 (.bin .fdiv false) (.o2 (.bin .mod false) (.o1 .int_ (.o2 (.bin .add false) (.o2 (.bin .mul false) (.var 4) (.con (.int (.ofNat 48271)))) (.var 2))) (.con (.int (.ofNat 2147483587)))) (.con (.int (.ofNat 64))))) (.var 1))]

theorem callN_succ {P : Nat → Option Fd} {lv f : Nat} {ds : List D} {s : St} {fd : Fd} (h : P f = some fd) (hm : ∀ k ds, fd.mem k ds = none := by intros; rfl) : callN P (lv + 1) f ds s = callF fd (callN P lv) ds s := by
  show obnd (P f) (.bad 123) (fun fd => obnd (fd.mem lv ds) (callF fd (callN P lv) ds s) fun d => .ok d s) = _
  rw [h]
  show obnd (fd.mem lv ds) (callF fd (callN P lv) ds s) (fun d => .ok d s) = _
  rw [hm]; rfl
section
variable {cb : Nat → Nat} {cl : Cl}
theorem bnd_ok {d : D} {s : St} {k : D → St → Rv} : (Rv.ok d s).bnd k = k d s := rfl
theorem bns_ok {d : D} {s : St} {k : D → St → Rs} : (Rv.ok d s).bns k = k d s := rfl
theorem bnf_ok {d : D} {s : St} {e : Env} {k : D → St → Fl} : (Rv.ok d s).bnf e k = k d s := rfl
theorem rbnd_ok {d : List D} {s : St} {k : List D → St → Rv} : (Rs.ok d s).bnd k = k d s := rfl
theorem rbns_ok {d : List D} {s : St} {k : List D → St → Rs} : (Rs.ok d s).bns k = k d s := rfl
theorem rbnf_ok {d : List D} {s : St} {e : Env} {k : List D → St → Fl} : (Rs.ok d s).bnf e k = k d s := rfl
theorem seq_nx {e : Env} {s : St} {k : Env → St → Fl} : (Fl.nx e s).seq k = k e s := rfl
theorem seq_rt {d : D} {s : St} {k : Env → St → Fl} : (Fl.rt d s).seq k = .rt d s := rfl
theorem turn_nx {e : Env} {s : St} {k : Env → St → Fl} : turnF (Fl.nx e s) k = k e s := rfl
section
variable {a b c d e f : Option D} {r : Env} {x : D} {l : List D} {u v w : D}
theorem g0 : getE (a :: r) 0 = a := rfl
theorem g1 : getE (a :: b :: r) 1 = b := rfl
theorem g2 : getE (a :: b :: c :: r) 2 = c := rfl
theorem g3 : getE (a :: b :: c :: d :: r) 3 = d := rfl
theorem g4 : getE (a :: b :: c :: d :: e :: r) 4 = e := rfl
theorem g5 : getE (a :: b :: c :: d :: e :: f :: r) 5 = f := rfl
theorem s0 : setE (a :: r) 0 x = some x :: r := rfl
theorem s1 : setE (a :: b :: r) 1 x = a :: some x :: r := rfl
theorem s2 : setE (a :: b :: c :: r) 2 x = a :: b :: some x :: r := rfl
theorem s3 : setE (a :: b :: c :: d :: r) 3 x = a :: b :: c :: some x :: r := rfl
theorem s4 : setE (a :: b :: c :: d :: e :: r) 4 x = a :: b :: c :: d :: some x :: r := rfl
theorem s5 : setE (a :: b :: c :: d :: e :: f :: r) 5 x = a :: b :: c :: d :: e :: some x :: r := rfl
theorem n0 : nth (u :: l) 0 = some u := rfl
theorem n1 : nth (u :: v :: l) 1 = some v := rfl
theorem n2 : nth (u :: v :: w :: l) 2 = some w := rfl
theorem z0 : setN (u :: l) 0 x = x :: l := rfl
theorem z2 : setN (u :: v :: w :: l) 2 x = u :: v :: x :: l := rfl
end
theorem den_var {i : Nat} : den cb cl (.var i) = eVar i := rfl
theorem den_con {d : D} : den cb cl (.con d) = eCon d := rfl
theorem den_o1 {o : Op1} {a : Ex} : den cb cl (.o1 o a) = e1 o (den cb cl a) := rfl
theorem den_o2 {o : Op2} {a b : Ex} : den cb cl (.o2 o a b) = e2 cb o (den cb cl a) (den cb cl b) := rfl
theorem den_on {o : Opn} {a : List Ex} : den cb cl (.on o a) = en o (dens cb cl a) := by rw [← dens_rec]; rfl
theorem den_or {a b : Ex} : den cb cl (.or a b) = eOr (den cb cl a) (den cb cl b) := rfl
theorem den_and {a b : Ex} : den cb cl (.and a b) = eAnd (den cb cl a) (den cb cl b) := rfl
theorem den_ife {c a b : Ex} : den cb cl (.ife c a b) = eIf (den cb cl c) (den cb cl a) (den cb cl b) := rfl
theorem den_call {f : Nat} {a : List Ex} : den cb cl (.call f a) = eCall cl f (dens cb cl a) := by rw [← dens_rec]; rfl
theorem den_callv {a : Ex} {r : List Ex} : den cb cl (.callv a r) = eCallV cl (den cb cl a) (dens cb cl r) := by rw [← dens_rec]; rfl
theorem dens_nil : dens cb cl [] = esN := rfl
theorem dens_cons {a : Ex} {r : List Ex} : dens cb cl (a :: r) = esC (den cb cl a) (dens cb cl r) := rfl
theorem denB_nil : denB cb cl [] = xPas := rfl
theorem denB_cons {a : Sm} {r : List Sm} : denB cb cl (a :: r) = xSeq (denS cb cl a) (denB cb cl r) := rfl
theorem denS_asg {t : Tg} {a : Ex} : denS cb cl (.asg t a) = xAsg t (den cb cl a) := rfl
theorem denS_exp {a : Ex} : denS cb cl (.exp a) = xExp (den cb cl a) := rfl
theorem denS_set {o i a : Ex} : denS cb cl (.set o i a) = xSet (den cb cl o) (den cb cl i) (den cb cl a) := rfl
theorem denS_ret {a : Ex} : denS cb cl (.ret a) = xRet (den cb cl a) := rfl
theorem denS_ife {c : Ex} {a b : List Sm} : denS cb cl (.ife c a b) = xIf (den cb cl c) (denB cb cl a) (denB cb cl b) := by rw [← denBr_eq, ← denBr_eq]; rfl
theorem denS_for {t : Tg} {k : Wk} {es : List Ex} {b : List Sm} : denS cb cl (.for_ t k es b) = xFor t k (dens cb cl es) (denB cb cl b) := by rw [← denBr_eq]; rfl
@[simp] theorem blt_t {a b : Nat} (h : a < b) : Nat.blt a b = true := Nat.ble_eq_true_of_le h
theorem ble_f {a b : Nat} (h : ¬ a ≤ b) : Nat.ble a b = false := by
  cases e : Nat.ble a b with
  | false => rfl
  | true => exact absurd (Nat.le_of_ble_eq_true e) h
theorem small_t {n : Nat} (h : n < 18446744073709551616) : small64 (.ofNat n) = true := blt_t h
/-- the loop of _law_cells -/
theorem cells_loop (s0 : D) (m n : Nat) (rest : List (Nat × Ob)) : ∀ (l : List Int) (i : Nat) (x : Int) (o3 o4 o5 : Option D), i + l.length ≤ 1000 → ∃ (y : Int) (p3 p4 p5 : Option D),
    loopL (forTurn (.tp [.nm 3, .nm 4]) (denB cb cl [.asg (.nm 5) (.o2 (.bin .mod false) (.o1 .int_ (.var 3)) (.var 1)), .set (.var 2) (.var 5) (.o2 (.bin .add false) (.o2 .idx (.var 2) (.var 5)) (.o2 (.bin .mul false) (.var 4) (.o2 (.bin .add false) (.var 3) (.con (.int (.ofNat 2))))))]))
      (enumD i (l.map .int)) [some s0, some (.int (.ofNat 1)), some (.loc m), o3, o4, o5] ⟨n, (m, .lst 0 [.int x]) :: rest⟩ =
    .nx [some s0, some (.int (.ofNat 1)), some (.loc m), p3, p4, p5] ⟨n, (m, .lst 0 [.int y]) :: rest⟩
  | [], i, x, o3, o4, o5, _ => ⟨x, o3, o4, o5, rfl⟩
  | a :: l, i, x, o3, o4, o5, h => by
    have hi : i + 2 < 18446744073709551616 := by
      have : i + (l.length + 1) ≤ 1000 := h
      omega
    have ih := cells_loop s0 m n rest l (i + 1) (Int.add x (Int.mul a (Int.add (.ofNat i) (.ofNat 2)))) (some (.int (.ofNat i))) (some (.int a)) (some (.int (.ofNat 0))) (by have : i + (l.length + 1) ≤ 1000 := h; omega)
    obtain ⟨y, p3, p4, p5, e⟩ := ih
    refine ⟨y, p3, p4, p5, ?_⟩
    rw [← e]
    have hb : ∀ k, Nat.beq k k = true := fun k => by simp
    have hm : Int.fmod (.ofNat i) (.ofNat 1) = .ofNat 0 := by
      show Int.fmod (i : Int) 1 = 0
      exact Int.fmod_one _
    have hs : small64 (Int.add (.ofNat i) (.ofNat 2)) = true := small_t hi
    show turnF (forTurn _ _ (.tup [.int (.ofNat i), .int a]) _ _) _ = _
    have hz : ieqb (.ofNat 1) (.ofNat 0) = false := rfl
    have hx : ∀ z : D, ixn (.ofNat 0) [z].length = some 0 := fun _ => rfl
    have ha : at_ [.int x] (.ofNat 0) = some (.int x) := rfl
    simp only [forTurn, bndT, lstv, bndTs, obnd_some, s3, s4, s5, g0, g1, g2, g3, g4, g5, denB_cons, denB_nil, denS_asg, denS_set, den_o1, den_o2, den_var, den_con, xSeq, xAsg, xSet, e1, e2, eVar, eCon, p1, pInt, p2, pBin, pMod, onI2, bnd_ok, bnf_ok, seq_nx, turn_nx, hm, hz, cond_false, pIdx, sqv, fnd, hb, cond_true, ha, optR, pMul, hs, Bool.or_true, Bool.true_or, pAdd, sSet, hx, put, z0, obnd_some, seq_nx, turn_nx, xPas]
theorem takeD_one (f : Int → D) (a : Int) (l : List Int) : takeD 1 ((a :: l).map f) = [f a] := by
  cases l <;> rfl
theorem dropD_map (f : Int → D) : ∀ (n : Nat) (l : List Int), dropD n (l.map f) = (l.drop n).map f
  | 0, l => by cases l <;> rfl
  | n + 1, [] => rfl
  | n + 1, a :: l => dropD_map f n l
theorem takeD_map (f : Int → D) : ∀ (n : Nat) (l : List Int), takeD n (l.map f) = (l.take n).map f
  | 0, l => by cases l <;> rfl
  | n + 1, [] => rfl
  | n + 1, a :: l => by
    show f a :: takeD n (l.map f) = f a :: (l.take n).map f
    rw [takeD_map f n l]
theorem den_e (x : Ex) (e : Env) (s : St) : den cb cl x e s = den cb cl x e s := rfl
theorem cells_tail {n m k : Nat} (x : Int) (rest : List (Nat × Ob)) (hm : n ≤ m) (hk : k ≤ n + 1024) (hr : keepC n rest = []) (ns : List Int) (hl : ns.length ≤ 63) :
    ∃ y : Int, retF true 1024 n (denB cb cl cellsB.tail [some (.scr ns), some (.int (.ofNat 1)), some (.loc m), none, none, none] ⟨k, (m, .lst 0 [.int x]) :: rest⟩) = .ok (.lst [.int y]) ⟨n + 1024, []⟩ := by
  have hb : ∀ k, Nat.beq k k = true := fun k => by simp
  have hle : Nat.ble ((ns.drop (Nat.min 1 ns.length)).take (Nat.min 63 ns.length - Nat.min 1 ns.length)).length 16777216 = true := Nat.ble_eq_true_of_le (by rw [List.length_take, List.length_drop]; omega)
  obtain ⟨y, p3, p4, p5, e⟩ := cells_loop (cb := cb) (cl := cl) (.scr ns) m k rest ((ns.drop (Nat.min 1 ns.length)).take (Nat.min 63 ns.length - Nat.min 1 ns.length)) 0 x none none none (by rw [List.length_take, List.length_drop]; omega)
  refine ⟨y, ?_⟩
  have hc : cutD (ns.map D.int) (Nat.min 1 ns.length) (Nat.min 63 ns.length) = ((ns.drop (Nat.min 1 ns.length)).take (Nat.min 63 ns.length - Nat.min 1 ns.length)).map D.int := by
    unfold cutD
    rw [dropD_map, takeD_map]
  have hw : dens cb cl [(.on (.slc false true true) [(.var 0), (.o1 .ich (.var 1)), (.o1 .ich (.con (.int (.ofNat 63))))])] [some (.scr ns), some (.int (.ofNat 1)), some (.loc m), none, none, none] ⟨k, (m, .lst 0 [.int x]) :: rest⟩ = .ok [.lst (((ns.drop (Nat.min 1 ns.length)).take (Nat.min 63 ns.length - Nat.min 1 ns.length)).map D.int)] ⟨k, (m, .lst 0 [.int x]) :: rest⟩ := by
    simp only [dens_cons, dens_nil, den_on, den_var, den_o1, den_con, esC, esN, en, isDsp, cond_false, e1, eVar, eCon, g0, g1, obnd_some, bnd_ok, bns_ok, rbnd_ok, rbns_ok, p1, pIch, pn, pSlc, sqv, clp, cond_true, List.length_map, hc, newL, hle, cond_false]
  have hf : denS cb cl (.for_ (.tp [.nm 3, .nm 4]) .enum [(.on (.slc false true true) [(.var 0), (.o1 .ich (.var 1)), (.o1 .ich (.con (.int (.ofNat 63))))])] [.asg (.nm 5) (.o2 (.bin .mod false) (.o1 .int_ (.var 3)) (.var 1)), .set (.var 2) (.var 5) (.o2 (.bin .add false) (.o2 .idx (.var 2) (.var 5)) (.o2 (.bin .mul false) (.var 4) (.o2 (.bin .add false) (.var 3) (.con (.int (.ofNat 2))))))])
      [some (.scr ns), some (.int (.ofNat 1)), some (.loc m), none, none, none] ⟨k, (m, .lst 0 [.int x]) :: rest⟩ = .nx [some (.scr ns), some (.int (.ofNat 1)), some (.loc m), p3, p4, p5] ⟨k, (m, .lst 0 [.int y]) :: rest⟩ := by
    rw [denS_for]
    unfold xFor
    rw [hw, rbnf_ok]
    simp only [wk, wkEnum, lqv, sqv, obnd_some, lks, lk1]
    rw [e]; rfl
  unfold cellsB
  simp only [List.tail_cons, denB_cons, denB_nil]
  unfold xSeq
  rw [hf, seq_nx]
  simp only [denS_ret, xRet, den_o1, den_var, e1, eVar, g2, obnd_some, bnd_ok, p1, pFrz, fnd, hb, cond_true, gone, bnf_ok, seq_rt, xPas]
  show Rv.ok (.lst [.int y]) (finC true 1024 n ⟨k, rest⟩) = _
  show Rv.ok (.lst [.int y]) (St.mk (cond (Nat.ble (n + 1024) k) k (n + 1024)) (keepC n rest)) = _
  rw [hr]
  by_cases hk' : n + 1024 ≤ k
  · rw [Nat.ble_eq_true_of_le hk', show k = n + 1024 by omega]; rfl
  · rw [ble_f hk']; rfl
/-- the numbers of a script, told as one -/
theorem cells_ok {P : Nat → Option Fd} {lv f n : Nat} (h : P f = some ⟨2, 6, true, 1024, false, false, fun cl => denB cb cl cellsB, fun _ _ => none⟩) (ns : List Int) (hl : ns.length ≤ 63) : ∃ x : Int, callN P (lv + 1) f [.scr ns, .int (.ofNat 1)] ⟨n, []⟩ = .ok (.lst [.int x]) ⟨n + 1024, []⟩ := by
  rw [callN_succ h]
  have hb : ∀ k, Nat.beq k k = true := fun k => by simp
  have hsp : ∀ e s, denB cb (callN P lv) cellsB e s = (denS cb (callN P lv) (.asg (.nm 2) (.or (.o1 (.lst true) (.on (.slc false false true) [(.var 0), (.con .non), (.o1 .ich (.var 1))])) (.on (.lst true) [(.con (.int (.ofNat 0)))]))) e s).seq (denB cb (callN P lv) cellsB.tail) := fun e s => rfl
  show ∃ x, retF true 1024 n (denB cb (callN P lv) cellsB [some (.scr ns), some (.int (.ofNat 1)), none, none, none, none] ⟨n, []⟩) = _
  rw [hsp]
  cases ns with
  | nil =>
    have e : denS cb (callN P lv) (.asg (.nm 2) (.or (.o1 (.lst true) (.on (.slc false false true) [(.var 0), (.con .non), (.o1 .ich (.var 1))])) (.on (.lst true) [(.con (.int (.ofNat 0)))]))) [some (.scr []), some (.int (.ofNat 1)), none, none, none, none] ⟨n, []⟩ =
        .nx [some (.scr []), some (.int (.ofNat 1)), some (.loc (n + 1)), none, none, none] ⟨n + 2, (n + 1, .lst 0 [.int (.ofNat 0)]) :: [(n, .lst 0 [])]⟩ := by
      have h1 : Nat.min 1 ([] : List D).length = 0 := rfl
      have h2 : cutD [] 0 0 = [] := rfl
      have h3 : ∀ z : D, Nat.ble [z].length 16777216 = true := fun _ => rfl
      have h4 : Nat.ble ([] : List D).length 16777216 = true := rfl
      simp only [denS_asg, xAsg, den_or, eOr, dens_cons, dens_nil, den_on, den_var, den_o1, den_con, esC, esN, en, isDsp, cond_false, e1, eVar, eCon, g0, g1, obnd_some, bnd_ok, bns_ok, rbnd_ok, rbns_ok, p1, pIch, pn, pSlc, sqv, List.map, clp, cond_true, cond_false, h1, h2, h3, h4, newL, pLst, truR, tru, fnd, hb, List.isEmpty, Bool.not_true, bnf_ok, bndT, lstv, s2]
    rw [e, seq_nx]
    exact cells_tail 0 _ (by omega) (by omega) (by rw [keepC, show Nat.blt n n = false from ble_f (by omega)]; rfl) [] (by simp)
  | cons a r =>
    have e : denS cb (callN P lv) (.asg (.nm 2) (.or (.o1 (.lst true) (.on (.slc false false true) [(.var 0), (.con .non), (.o1 .ich (.var 1))])) (.on (.lst true) [(.con (.int (.ofNat 0)))]))) [some (.scr (a :: r)), some (.int (.ofNat 1)), none, none, none, none] ⟨n, []⟩ =
        .nx [some (.scr (a :: r)), some (.int (.ofNat 1)), some (.loc n), none, none, none] ⟨n + 1, [(n, .lst 0 [.int a])]⟩ := by
      have h1 : Nat.min 1 (List.length (D.int a :: List.map D.int r)) = 1 := by
        rw [List.length_cons]
        exact Nat.min_eq_left (by omega)
      have h2 : cutD (D.int a :: List.map D.int r) 0 1 = [D.int a] := takeD_one D.int a r
      have h3 : ∀ z : D, Nat.ble [z].length 16777216 = true := fun _ => rfl
      simp only [denS_asg, xAsg, den_or, eOr, dens_cons, dens_nil, den_on, den_var, den_o1, den_con, esC, esN, en, isDsp, cond_false, e1, eVar, eCon, g0, g1, obnd_some, bnd_ok, bns_ok, rbnd_ok, rbns_ok, p1, pIch, pn, pSlc, sqv, List.map, clp, cond_true, cond_false, h1, h2, h3, newL, pLst, truR, tru, fnd, hb, List.isEmpty, Bool.not_false, bnf_ok, bndT, lstv, s2]
    rw [e, seq_nx]
    exact cells_tail a [] (by omega) (by omega) rfl (a :: r) hl
theorem i_add (a b : Nat) : Int.add (.ofNat a) (.ofNat b) = .ofNat (a + b) := rfl
theorem i_mul (a b : Nat) : Int.mul (.ofNat a) (.ofNat b) = .ofNat (a * b) := rfl
theorem i_mod (a b : Nat) : Int.fmod (.ofNat a) (.ofNat b) = .ofNat (a % b) := (Int.ofNat_fmod a b).symm
theorem i_div (a b : Nat) : Int.fdiv (.ofNat a) (.ofNat b) = .ofNat (a / b) := (Int.ofNat_fdiv a b).symm
theorem i_z {k : Nat} (h : 0 < k) : ieqb (.ofNat k) (.ofNat 0) = false := by
  cases k with
  | zero => omega
  | succ k => rfl
theorem small30_t {n : Nat} (h : n < 1073741824) : small30 (.ofNat n) = true := blt_t h
theorem c_gt : pCmp .gt = pLt true false := rfl
theorem c_lt : pCmp .lt = pLt false false := rfl
theorem c_ge : pCmp .ge = pLt false true := rfl
theorem p2_bin {o : BOp} {m : Bool} : p2 cb (.bin o m) = pBin o m := rfl
theorem p2_cmp {o : COp} : p2 cb (.cmp o) = pCmp o := rfl
theorem p2_idx : p2 cb .idx = pIdx := rfl
theorem b_add {m : Bool} : pBin .add m = pAdd m := rfl
theorem b_mul {m : Bool} : pBin .mul m = pMul m := rfl
theorem b_mod {m : Bool} : pBin .mod m = pMod := rfl
theorem b_div {m : Bool} : pBin .fdiv m = pDiv := rfl
theorem b_pow {m : Bool} : pBin .pow m = pPow := rfl
/-- a draw -/
theorem take_ok {P : Nat → Option Fd} {lv f n m : Nat} (h : P f = some ⟨2, 6, true, 0, false, false, fun cl => denB cb cl takeB, fun _ _ => none⟩) (hm : m < n) {k : Nat} (k0 : 0 < k) (k1 : k < 1073741824) (a b c : Nat) (hc : c < 1000000000) (rest : List (Nat × Ob)) :
    ∃ d a' c', d < k ∧ c' ≤ c + 1 ∧ callN P (lv + 1) f [.loc m, .int (.ofNat k)] ⟨n, (m, .lst 0 [.int (.ofNat a), .int (.ofNat b), .int (.ofNat c)]) :: rest⟩ = .ok (.int (.ofNat d)) ⟨n, (m, .lst 0 [.int (.ofNat a'), .int (.ofNat b), .int (.ofNat c')]) :: rest⟩ := by
  rw [callN_succ h]
  have hb : ∀ k, Nat.beq k k = true := fun k => by simp
  have a0 : ∀ x y z : D, at_ [x, y, z] (.ofNat 0) = some x := fun _ _ _ => rfl
  have a1 : ∀ x y z : D, at_ [x, y, z] (.ofNat 1) = some y := fun _ _ _ => rfl
  have a2 : ∀ x y z : D, at_ [x, y, z] (.ofNat 2) = some z := fun _ _ _ => rfl
  have x0 : ∀ x y z : D, ixn (.ofNat 0) [x, y, z].length = some 0 := fun _ _ _ => rfl
  have x2 : ∀ x y z : D, ixn (.ofNat 2) [x, y, z].length = some 2 := fun _ _ _ => rfl
  have fin : ∀ (o : Ob) (d : D), retF true 0 n (.rt d ⟨n, (m, o) :: rest⟩) = .ok d ⟨n, (m, o) :: rest⟩ := fun o d => by
    show Rv.ok d (St.mk n (keepC n ((m, o) :: rest))) = _
    rw [keepC, show Nat.blt (m, o).1 n = true from blt_t hm]; rfl
  have hz := i_z k0
  have hs := small30_t k1
  show ∃ d a' c', _ ∧ _ ∧ retF true 0 n (denB cb (callN P lv) takeB [some (.loc m), some (.int (.ofNat k)), none, none, none, none] ⟨n, (m, .lst 0 [.int (.ofNat a), .int (.ofNat b), .int (.ofNat c)]) :: rest⟩) = _
  unfold takeB
  rw [denB_cons]
  by_cases ha : 0 < a
  · have hlt : iltb (.ofNat 0) (.ofNat a) = true := blt_t ha
    refine ⟨a % k, a / k, c, Nat.mod_lt _ k0, by omega, ?_⟩
    simp only [Bool.true_or, denB_cons, denB_nil, denS_asg, denS_set, denS_ret, denS_ife, den_o1, den_o2, den_var, den_con, xSeq, xAsg, xSet, xIf, xRet, e1, e2, eVar, eCon, p1, pInt, p2_bin, p2_cmp, p2_idx, b_mod, b_div, c_gt, pLt, cond_true, cond_false, hlt, blR, Bool.false_xor, tru, pMod, pDiv, onI2, bnd_ok, bnf_ok, seq_nx, seq_rt, pIdx, sqv, fnd, hb, a0, x0, optR, obnd_some, g0, g1, g5, s5, hz, hs, i_mod, i_div, sSet, bndT, lstv, put, z0, xPas, fin]
  · have hlt : iltb (.ofNat 0) (.ofNat a) = false := ble_f (by omega)
    have q1 : small64 (.ofNat 48271) = true := by decide +kernel
    have q2 : small64 (.ofNat (39373 + (c + 1))) = true := small_t (by omega)
    have q3 : ∀ z : Nat, small64 (.ofNat (z % 40009 + 7)) = true := fun z => small_t (by have := Nat.mod_lt z (show 40009 > 0 by decide); omega)
    have z1 : ieqb (.ofNat 2147483647) (.ofNat 0) = false := by decide +kernel
    have z2 : ieqb (.ofNat 40009) (.ofNat 0) = false := by decide +kernel
    have z3 : ieqb (.ofNat 2147483629) (.ofNat 0) = false := by decide +kernel
    have z4 : ieqb (.ofNat 2147483587) (.ofNat 0) = false := by decide +kernel
    have z5 : ieqb (.ofNat 64) (.ofNat 0) = false := by decide +kernel
    have z6 : ieqb (.ofNat 1000003) (.ofNat 0) = false := by decide +kernel
    have y5 : small30 (.ofNat 64) = true := by decide +kernel
    have y6 : small30 (.ofNat 1000003) = true := by decide +kernel
    suffices q : ∃ z : Nat, retF true 0 n (denB cb (callN P lv) takeB [some (.loc m), some (.int (.ofNat k)), none, none, none, none] ⟨n, (m, .lst 0 [.int (.ofNat a), .int (.ofNat b), .int (.ofNat c)]) :: rest⟩) = .ok (.int (.ofNat (z % k))) ⟨n, (m, .lst 0 [.int (.ofNat a), .int (.ofNat b), .int (.ofNat (c + 1))]) :: rest⟩ by
      obtain ⟨z, q⟩ := q
      exact ⟨z % k, a, c + 1, Nat.mod_lt _ k0, by omega, q⟩
    unfold takeB
    simp only [denB_cons, denB_nil, denS_asg, denS_set, denS_ret, denS_ife, den_o1, den_o2, den_var, den_con, xSeq, xAsg, xSet, xIf, xRet, e1, e2, eVar, eCon, p1, pInt, p2_bin, p2_cmp, p2_idx, b_mod, b_div, b_add, b_mul, c_gt, pLt, cond_true, cond_false, hlt, blR, Bool.false_xor, tru, pMod, pDiv, pAdd, pMul, onI2, bnd_ok, bnf_ok, seq_nx, seq_rt, pIdx, sqv, fnd, hb, a0, a1, a2, x0, x2, optR, obnd_some, g0, g1, g2, g3, g4, g5, s2, s3, s4, s5, hz, hs, q1, q2, q3, z1, z2, z3, z4, z5, z6, y5, y6, Bool.or_true, Bool.true_or, i_add, i_mul, i_mod, i_div, sSet, bndT, lstv, put, z0, Mv.z2, xPas, fin]
    exact ⟨_, rfl⟩
/-- the source of draws -/
theorem box_ok {P : Nat → Option Fd} {lv f n c : Nat} (h : P f = some ⟨2, 3, false, 0, false, false, fun cl => denB cb cl (boxB c), fun _ _ => none⟩) (x : Int) :
    ∃ a b : Nat, callN P (lv + 1) f [.lst [.int x], .int (.ofNat 0)] ⟨n, []⟩ = .ok (.loc n) ⟨n + 1, [(n, .lst 0 [.int (.ofNat a), .int (.ofNat b), .int (.ofNat 0)])]⟩ := by
  rw [callN_succ h]
  have a0 : at_ [.int x] (.ofNat 0) = some (.int x) := rfl
  have hlt : iltb (.ofNat 0) (.ofNat 1) = true := rfl
  have q0 : small64 (.ofNat 39373) = true := by decide +kernel
  have q1 : ∀ b, small64 (b2n b) = true := fun b => by cases b <;> rfl
  have z1 : ieqb (.ofNat 2305843009213693951) (.ofNat 0) = false := by decide +kernel
  have hp : ((.ofNat 10 : Int) ^ 18) = .ofNat 1000000000000000000 := by decide +kernel
  have hp2 : (Nat.ble 18 1000000 && small64 (.ofNat 10)) = true := by decide +kernel
  have hm : ∃ b : Nat, Int.fmod x (.ofNat 2305843009213693951) = .ofNat b := by
    have := Int.fmod_nonneg_of_pos x (b := 2305843009213693951) (by decide +kernel)
    exact ⟨(Int.fmod x 2305843009213693951).toNat, (Int.toNat_of_nonneg this).symm⟩
  obtain ⟨b, hm⟩ := hm
  have h3 : ∀ z w v : D, Nat.ble [z, w, v].length 16777216 = true := fun _ _ _ => rfl
  have hle : ∀ z : D, [z].length = 1 := fun _ => rfl
  have hml : ∀ (w : Nat) b, ∃ a, Int.mul (.ofNat w) (b2n b) = .ofNat a := fun w b => by cases b <;> exact ⟨_, rfl⟩
  obtain ⟨a, hml⟩ := hml x.natAbs (Bool.xor true (iltb (.ofNat x.natAbs) (.ofNat 1000000000000000000)))
  refine ⟨a, b + 39373 * 0 + c, ?_⟩
  show retF false 0 n (denB cb (callN P lv) (boxB c) [some (.lst [.int x]), some (.int (.ofNat 0)), none] ⟨n, []⟩) = _
  unfold boxB
  simp only [denB_cons, denB_nil, denS_asg, denS_ret, den_ife, den_o1, den_o2, den_on, dens_cons, dens_nil, den_var, den_con, xSeq, xAsg, xRet, eIf, e1, e2, en, isDsp, esC, esN, eVar, eCon, p1, pInt, pLen, pAbs, p2_bin, p2_cmp, p2_idx, b_add, b_mul, b_mod, b_pow, c_lt, c_ge, pLt, cond_true, cond_false, hle, hlt, blR, Bool.false_xor, truR, tru, pAdd, pMul, pMod, pPow, hp2, hp, onI2, bnd_ok, bns_ok, rbnd_ok, rbns_ok, bnf_ok, seq_nx, seq_rt, pIdx, sqv, a0, optR, obnd_some, g0, g1, g2, s2, z1, q0, q1, Bool.or_true, Bool.true_or, hm, i_add, i_mul, bndT, lstv, pn, newL, h3, xPas]
  rw [hml]; rfl
end
end Mv
end
end

section
set_option Elab.async false
set_option linter.all false
set_option maxRecDepth 100000
set_option maxHeartbeats 4000000
/-! Top: the law's own def, put together. -/
noncomputable section
namespace Mv
variable {cb : Nat → Nat} {cl : Cl}
theorem denS_try {b : List Sm} {hs : Hs} {e e' : Env} {s s' : St} (h : denB cb cl b e s = .nx e' s') : denS cb cl (.try_ b hs) e s = .nx e' s' := by
  rw [← denBr_eq] at h
  show xTry (denBr cb cl b) _ e s = _
  unfold xTry
  rw [h]
theorem denS_tryR {b : List Sm} {hs : Hs} {e : Env} {s s' : St} {d : D} (h : denB cb cl b e s = .rt d s') : denS cb cl (.try_ b hs) e s = .rt d s' := by
  rw [← denBr_eq] at h
  show xTry (denBr cb cl b) _ e s = _
  unfold xTry
  rw [h]
theorem callF_ok {fd : Fd} {ds : List D} {s : St} (h : Nat.beq ds.length fd.ps = true) (hi : fd.iso = false) (hz : fd.zer = false) : callF fd cl ds s = retF fd.pure fd.bud s.nx (fd.body cl (padE fd.n ds) s) := by
  unfold callF
  rw [h, hi, hz]; rfl
theorem isTrue_ex {r : Rv} (h : isTrue' r = true) : ∃ s, r = .ok (.bl true) s := by
  unfold isTrue' at h
  split at h
  · subst h; exact ⟨_, rfl⟩
  · cases h
theorem isTrue_ok {s : St} : isTrue' (.ok (.bl true) s) = true := rfl
theorem retF_rt {pu : Bool} {bud n0 : Nat} {d : D} {s : St} : retF pu bud n0 (.rt d s) = .ok d (finC pu bud n0 s) := rfl
theorem tru_bl {s : St} {b : Bool} : tru s (.bl b) = some b := rfl
theorem p1_not : p1 .not = pNot := rfl
theorem pNot_bl {s : St} {b : Bool} : pNot (.bl b) s = blR s (!b) := rfl
/-- a call that sees no cell: what it does where there are none, it does -/
theorem zer_ok {P : Nat → Option Fd} {lv f : Nat} {ds : List D} {d : D} {fd : Fd} (h : P f = some fd) (hz : fd.zer = true) (hn : nols ds = true) (e : callN P (lv + 1) f ds ⟨0, []⟩ = .ok d ⟨0, []⟩) (s : St) : callN P (lv + 1) f ds s = .ok d s := by
  have ev : ∀ s, callN P (lv + 1) f ds s = obnd (fd.mem lv ds) (callF fd (callN P lv) ds s) fun d => .ok d s := fun s => by
    show obnd (P f) (.bad 123) (fun fd => obnd (fd.mem lv ds) (callF fd (callN P lv) ds s) fun d => .ok d s) = _
    rw [h]; rfl
  rw [ev] at e ⊢
  cases hm : fd.mem lv ds with
  | some d' =>
    rw [hm] at e
    have e : Rv.ok d' ⟨0, []⟩ = .ok d ⟨0, []⟩ := e
    cases e; rfl
  | none =>
    rw [hm] at e
    have e : callF fd (callN P lv) ds ⟨0, []⟩ = .ok d ⟨0, []⟩ := e
    show callF fd (callN P lv) ds s = .ok d s
    unfold callF at e ⊢
    rw [hz, hn] at e ⊢
    cases hb : Nat.beq ds.length fd.ps with
    | false => rw [hb] at e; cases e
    | true =>
      rw [hb] at e
      have e : retZ ⟨0, []⟩ (fd.body (callN P lv) (padE fd.n ds) ⟨0, []⟩) = .ok d ⟨0, []⟩ := e
      show retZ s (fd.body (callN P lv) (padE fd.n ds) ⟨0, []⟩) = .ok d s
      generalize fd.body (callN P lv) (padE fd.n ds) ⟨0, []⟩ = r at e ⊢
      cases r with
      | nx e' s' =>
        have e : Rv.ok D.non ⟨0, []⟩ = .ok d ⟨0, []⟩ := e
        cases e; rfl
      | rt d' s' =>
        have e : cond (nol d') (Rv.ok d' ⟨0, []⟩) (.bad 125) = .ok d ⟨0, []⟩ := e
        cases hd : nol d' with
        | true =>
          rw [hd] at e
          have e : Rv.ok d' ⟨0, []⟩ = .ok d ⟨0, []⟩ := e
          cases e
          show cond (nol d) (Rv.ok d s) (.bad 125) = _
          rw [hd]; rfl
        | false => rw [hd] at e; cases e
      | bk e' s' => cases e
      | exc c p e' s' =>
        have e : cond (nols p) (Rv.exc c p ⟨0, []⟩) (.bad 125) = .ok d ⟨0, []⟩ := e
        cases hd : nols p with
        | true => rw [hd] at e; cases e
        | false => rw [hd] at e; cases e
      | bad k => cases e
def okZ (d : D) (r : Rv) : Bool := match r with
  | .ok d' s => cond (Nat.beq s.nx 0) (cond s.cs.isEmpty (sqd d' d) false) false
  | _ => false
theorem okZ_ok {d : D} {r : Rv} (h : okZ d r = true) : r = .ok d ⟨0, []⟩ := by
  unfold okZ at h
  split at h
  · rename_i d' s
    cases h1 : Nat.beq s.nx 0 with
    | false => rw [h1] at h; cases h
    | true =>
      cases h2 : s.cs.isEmpty with
      | false => rw [h1, h2] at h; cases h
      | true =>
        rw [h1, h2] at h
        have e := sqd_ok (show sqd d' d = true from h)
        obtain ⟨nx, cs⟩ := s
        have e1 : nx = 0 := Nat.eq_of_beq_eq_true h1
        have e2 : cs = [] := by simpa using h2
        rw [e, e1, e2]
  · cases h
/-- all that a stage tells: each call ends so where no cell stands -/
def mokB (P : Nat → Option Fd) (f : Nat) (l : MemL) : Bool := l.all fun e => match e.1 with
  | 0 => false
  | n + 1 => (match P f with | some fd => fd.zer | none => false) && nols e.2.1 && okZ e.2.2 (callN P (n + 1) f e.2.1 ⟨0, []⟩)
theorem mokB_ok {P : Nat → Option Fd} {f : Nat} {l : MemL} (h : mokB P f l = true) : ∀ e ∈ l, ∀ s, callN P e.1 f e.2.1 s = .ok e.2.2 s := fun e he s => by
  have h := List.all_eq_true.mp h e he
  obtain ⟨k, ds, d⟩ := e
  cases k with
  | zero => cases h
  | succ n =>
    simp only [Bool.and_eq_true] at h
    obtain ⟨⟨h1, h2⟩, h3⟩ := h
    cases hp : P f with
    | none => rw [hp] at h1; cases h1
    | some fd =>
      rw [hp] at h1
      exact zer_ok hp h1 h2 (okZ_ok h3) s
theorem mok1 {P : Nat → Option Fd} {f : Nat} {e : Nat × List D × D} (h : mokB P f [e] = true) : ∀ s, callN P e.1 f e.2.1 s = .ok e.2.2 s := mokB_ok h e List.mem_cons_self
theorem selM_mem : ∀ {l : List (Nat × MemL)} {f : Nat} {e : Nat × List D × D}, e ∈ selM l f → ∃ g ∈ l, g.1 = f ∧ e ∈ g.2
  | [], _, _, h => by cases h
  | g :: r, f, e, h => by
    have h : e ∈ cond (Nat.beq g.1 f) g.2 (selM r f) := h
    cases z : Nat.beq g.1 f with
    | true => rw [z] at h; exact ⟨g, List.mem_cons_self, Nat.eq_of_beq_eq_true z, h⟩
    | false =>
      rw [z] at h
      obtain ⟨g', h1, h2⟩ := selM_mem (show e ∈ selM r f from h)
      exact ⟨g', List.mem_cons_of_mem _ h1, h2⟩
theorem stg_next {P Q : Nat → Option Fd} {l : List (Nat × MemL)} (hQ : Stg P Q) (hl : ∀ g ∈ l, ∀ e ∈ g.2, ∀ s, callN Q e.1 g.1 e.2.1 s = .ok e.2.2 s) : Stg P (memP P l) :=
  .next Q l hQ fun f e he s => by
    obtain ⟨g, h1, h2, h3⟩ := selM_mem he
    subst h2
    exact hl g h1 e h3 s
def okT (m : Nat) (r : Rv) : Bool := match r with
  | .ok (.bl true) ⟨k, []⟩ => Nat.beq k m
  | _ => false
theorem okT_ok {m : Nat} {r : Rv} (h : okT m r = true) : r = .ok (.bl true) ⟨m, []⟩ := by
  unfold okT at h
  split at h
  · rename_i k
    have := Nat.eq_of_beq_eq_true h
    rw [this]
  · cases h
end Mv
end
end

section
set_option maxRecDepth 1000000
noncomputable section
namespace Mv.k74
def cb : Nat → Nat := fun c => cond (Nat.beq c (nat_lit 10)) (nat_lit 6) ( cond (Nat.beq c (nat_lit 11)) (nat_lit 6) ((nat_lit 0)))
def fld : Nat → PySem.Str := fun c => (PySem.Str.ofString "__no_field__")
def ar : Nat → Nat := fun c => cond (Nat.beq c (nat_lit 10)) (nat_lit 0) ( cond (Nat.beq c (nat_lit 11)) (nat_lit 0) ((nat_lit 0)))
def b0 : List Sm := [.ret (.and (.o2 .isi (.var (nat_lit 0)) (.con (.ty (nat_lit 0)))) (.o1 .not (.o2 .isi (.var (nat_lit 0)) (.con (.ty (nat_lit 1))))))]
def e0 : Ent := ⟨(PySem.Str.ofString "is_number"), (nat_lit 0), [(PySem.Str.ofString "thing")], [(PySem.Str.ofString "thing")], (nat_lit 1), (nat_lit 1), true, (nat_lit 0), false, false, b0⟩
def b1 : List Sm := [.ret (.and (.o2 .isi (.var (nat_lit 0)) (.con (.ty (nat_lit 3)))) (.o2 (.cmp .eq) (.o1 .len (.var (nat_lit 0))) (.var (nat_lit 1))))]
def e1 : Ent := ⟨(PySem.Str.ofString "is_long"), (nat_lit 1), [(PySem.Str.ofString "thing"), (PySem.Str.ofString "length")], [(PySem.Str.ofString "thing"), (PySem.Str.ofString "length")], (nat_lit 2), (nat_lit 2), true, (nat_lit 0), false, false, b1⟩
def b2 : List Sm := [.ret (.ife (.o2 .isi (.var (nat_lit 0)) (.on .tup [(.con (.ty (nat_lit 4))), (.con (.ty (nat_lit 3)))])) (.o1 .tup (.lc false [(nat_lit 1)] (.nm (nat_lit 1)) .val [(.var (nat_lit 0))] (.con (.bl true)) (.call (nat_lit 2) [(.var (nat_lit 1))]))) (.var (nat_lit 0)))]
def e2 : Ent := ⟨(PySem.Str.ofString "tupled"), (nat_lit 2), [(PySem.Str.ofString "value")], [(PySem.Str.ofString "value"), (PySem.Str.ofString "own")], (nat_lit 1), (nat_lit 2), true, (nat_lit 0), false, false, b2⟩
def b3 : List Sm := [.ret (.o1 .all (.lc false [(nat_lit 1)] (.nm (nat_lit 1)) .rng [(.o2 (.bin .sub false) (.o1 .len (.var (nat_lit 0))) (.con (.int (.ofNat (nat_lit 1)))))] (.con (.bl true)) (.o2 (.cmp .lt) (.o2 .idx (.var (nat_lit 0)) (.var (nat_lit 1))) (.o2 .idx (.var (nat_lit 0)) (.o2 (.bin .add false) (.var (nat_lit 1)) (.con (.int (.ofNat (nat_lit 1)))))))))]
def e3 : Ent := ⟨(PySem.Str.ofString "ascends"), (nat_lit 3), [(PySem.Str.ofString "row")], [(PySem.Str.ofString "row"), (PySem.Str.ofString "k")], (nat_lit 1), (nat_lit 2), true, (nat_lit 0), false, false, b3⟩
def b4 : List Sm := [.ret (.o1 .tup (.o1 (.sset false) (.var (nat_lit 0))))]
def e4 : Ent := ⟨(PySem.Str.ofString "set_of"), (nat_lit 4), [(PySem.Str.ofString "row")], [(PySem.Str.ofString "row")], (nat_lit 1), (nat_lit 1), true, (nat_lit 0), false, false, b4⟩
def b5 : List Sm := [.ret (.and (.o2 .isi (.var (nat_lit 0)) (.con (.ty (nat_lit 3)))) (.o1 .all (.lc false [(nat_lit 1)] (.nm (nat_lit 1)) .val [(.var (nat_lit 0))] (.con (.bl true)) (.call (nat_lit 0) [(.var (nat_lit 1))]))))]
def e5 : Ent := ⟨(PySem.Str.ofString "are_numbers"), (nat_lit 5), [(PySem.Str.ofString "thing")], [(PySem.Str.ofString "thing"), (PySem.Str.ofString "own")], (nat_lit 1), (nat_lit 2), true, (nat_lit 0), false, false, b5⟩
def b6 : List Sm := [.ret (.and (.call (nat_lit 1) [(.var (nat_lit 0)), (.con (.int (.ofNat (nat_lit 2))))]) (.and (.call (nat_lit 5) [(.var (nat_lit 0))]) (.and (.o2 (.cmp .ge) (.o2 .idx (.var (nat_lit 0)) (.con (.int (.ofNat (nat_lit 1))))) (.con (.int (.ofNat (nat_lit 1))))) (.o2 (.cmp .gt) (.o2 .idx (.var (nat_lit 0)) (.con (.int (.ofNat (nat_lit 0))))) (.o2 (.bin .mul false) (.con (.int (.ofNat (nat_lit 2)))) (.o2 .idx (.var (nat_lit 0)) (.con (.int (.ofNat (nat_lit 1))))))))))]
def e6 : Ent := ⟨(PySem.Str.ofString "is_ring"), (nat_lit 6), [(PySem.Str.ofString "thing")], [(PySem.Str.ofString "thing")], (nat_lit 1), (nat_lit 1), true, (nat_lit 0), false, false, b6⟩
def b7 : List Sm := [.ret (.and (.call (nat_lit 1) [(.var (nat_lit 1)), (.con (.int (.ofNat (nat_lit 2))))]) (.and (.call (nat_lit 5) [(.var (nat_lit 1))]) (.ch3 .le .lt .lt (.con (.int (.ofNat (nat_lit 0)))) (.o2 .idx (.var (nat_lit 1)) (.con (.int (.ofNat (nat_lit 0))))) (.o2 .idx (.var (nat_lit 1)) (.con (.int (.ofNat (nat_lit 1))))) (.o2 .idx (.var (nat_lit 0)) (.con (.int (.ofNat (nat_lit 0))))))))]
def e7 : Ent := ⟨(PySem.Str.ofString "is_line_in"), (nat_lit 7), [(PySem.Str.ofString "ring"), (PySem.Str.ofString "thing")], [(PySem.Str.ofString "ring"), (PySem.Str.ofString "thing")], (nat_lit 2), (nat_lit 2), true, (nat_lit 0), false, false, b7⟩
def b8 : List Sm := [.ret (.and (.o2 .isi (.var (nat_lit 1)) (.con (.ty (nat_lit 3)))) (.and (.o1 .all (.lc false [(nat_lit 2)] (.nm (nat_lit 2)) .val [(.var (nat_lit 1))] (.con (.bl true)) (.call (nat_lit 7) [(.var (nat_lit 0)), (.var (nat_lit 2))]))) (.call (nat_lit 3) [(.var (nat_lit 1))])))]
def e8 : Ent := ⟨(PySem.Str.ofString "are_lines_in"), (nat_lit 8), [(PySem.Str.ofString "ring"), (PySem.Str.ofString "thing")], [(PySem.Str.ofString "ring"), (PySem.Str.ofString "thing"), (PySem.Str.ofString "own")], (nat_lit 2), (nat_lit 3), true, (nat_lit 0), false, false, b8⟩
def b9 : List Sm := [.asg (.nm (nat_lit 1)) (.call (nat_lit 2) [(.var (nat_lit 0))]), .ife (.o1 .not (.call (nat_lit 6) [(.var (nat_lit 1))])) [.rse (nat_lit 11) []] [], .ret (.var (nat_lit 1))]
def e9 : Ent := ⟨(PySem.Str.ofString "sure_ring"), (nat_lit 9), [(PySem.Str.ofString "value")], [(PySem.Str.ofString "value"), (PySem.Str.ofString "own")], (nat_lit 1), (nat_lit 2), true, (nat_lit 0), false, false, b9⟩
def b10 : List Sm := [.asg (.nm (nat_lit 2)) (.call (nat_lit 2) [(.var (nat_lit 1))]), .ife (.o1 .not (.call (nat_lit 8) [(.var (nat_lit 0)), (.var (nat_lit 2))])) [.rse (nat_lit 11) []] [], .ret (.var (nat_lit 2))]
def e10 : Ent := ⟨(PySem.Str.ofString "sure_lines"), (nat_lit 10), [(PySem.Str.ofString "ring"), (PySem.Str.ofString "value")], [(PySem.Str.ofString "ring"), (PySem.Str.ofString "value"), (PySem.Str.ofString "own")], (nat_lit 2), (nat_lit 3), true, (nat_lit 0), false, false, b10⟩
def b11 : List Sm := [.ife (.o1 .not (.call (nat_lit 0) [(.var (nat_lit 0))])) [.rse (nat_lit 11) []] [], .ret (.var (nat_lit 0))]
def e11 : Ent := ⟨(PySem.Str.ofString "sure_number"), (nat_lit 11), [(PySem.Str.ofString "value")], [(PySem.Str.ofString "value")], (nat_lit 1), (nat_lit 1), true, (nat_lit 0), false, false, b11⟩
def b12 : List Sm := [.ret (.ife (.o2 (.cmp .lt) (.var (nat_lit 0)) (.var (nat_lit 1))) (.on .tup [(.var (nat_lit 0)), (.var (nat_lit 1))]) (.on .tup [(.var (nat_lit 1)), (.var (nat_lit 0))]))]
def e12 : Ent := ⟨(PySem.Str.ofString "line_of"), (nat_lit 12), [(PySem.Str.ofString "one"), (PySem.Str.ofString "other")], [(PySem.Str.ofString "one"), (PySem.Str.ofString "other")], (nat_lit 2), (nat_lit 2), true, (nat_lit 0), false, false, b12⟩
def b13 : List Sm := [.asg (.nm (nat_lit 2)) (.ife (.o2 (.cmp .le) (.var (nat_lit 1)) (.var (nat_lit 0))) (.con (.int (.ofNat (nat_lit 1)))) (.con (.int (.ofNat (nat_lit 0))))), .for_ (.nm (nat_lit 3)) .rng [(.ife (.o2 (.cmp .le) (.var (nat_lit 1)) (.var (nat_lit 0))) (.var (nat_lit 1)) (.con (.int (.ofNat (nat_lit 0)))))] [.asg (.nm (nat_lit 2)) (.o2 (.bin .fdiv false) (.o2 (.bin .mul false) (.var (nat_lit 2)) (.o2 (.bin .sub false) (.var (nat_lit 0)) (.var (nat_lit 3)))) (.o2 (.bin .add false) (.var (nat_lit 3)) (.con (.int (.ofNat (nat_lit 1))))))], .ret (.var (nat_lit 2))]
def e13 : Ent := ⟨(PySem.Str.ofString "chosen"), (nat_lit 13), [(PySem.Str.ofString "many"), (PySem.Str.ofString "few")], [(PySem.Str.ofString "many"), (PySem.Str.ofString "few"), (PySem.Str.ofString "found"), (PySem.Str.ofString "step")], (nat_lit 2), (nat_lit 4), true, (nat_lit 0), false, false, b13⟩
def b14 : List Sm := [.ret (.o2 (.bin .fdiv false) (.call (nat_lit 13) [(.o2 (.bin .mul false) (.con (.int (.ofNat (nat_lit 2)))) (.var (nat_lit 0))), (.var (nat_lit 0))]) (.o2 (.bin .add false) (.var (nat_lit 0)) (.con (.int (.ofNat (nat_lit 1))))))]
def e14 : Ent := ⟨(PySem.Str.ofString "catalan"), (nat_lit 14), [(PySem.Str.ofString "number")], [(PySem.Str.ofString "number")], (nat_lit 1), (nat_lit 1), true, (nat_lit 0), false, false, b14⟩
def b15 : List Sm := [.ret (.lc false [(nat_lit 5), (nat_lit 6)] (.tp [(.nm (nat_lit 5)), (.nm (nat_lit 6))]) .zip [(.var (nat_lit 0)), (.var (nat_lit 1))] (.con (.bl true)) (.o2 (.bin .fdiv false) (.o2 (.bin .sub false) (.o2 (.bin .mul false) (.var (nat_lit 2)) (.var (nat_lit 6))) (.o2 (.bin .mul false) (.var (nat_lit 3)) (.var (nat_lit 5)))) (.var (nat_lit 4))))]
def e15 : Ent := ⟨(PySem.Str.ofString "times_less"), (nat_lit 15), [(PySem.Str.ofString "one"), (PySem.Str.ofString "other"), (PySem.Str.ofString "first"), (PySem.Str.ofString "row"), (PySem.Str.ofString "ahead")], [(PySem.Str.ofString "one"), (PySem.Str.ofString "other"), (PySem.Str.ofString "first"), (PySem.Str.ofString "row"), (PySem.Str.ofString "ahead"), (PySem.Str.ofString "near"), (PySem.Str.ofString "far")], (nat_lit 5), (nat_lit 7), true, (nat_lit 0), false, false, b15⟩
def b16 : List Sm := [.asg (.tp [(.nm (nat_lit 2)), (.nm (nat_lit 3)), (.nm (nat_lit 4))]) (.on .tup [(.lc true [(nat_lit 8)] (.nm (nat_lit 8)) .val [(.var (nat_lit 0))] (.con (.bl true)) (.o1 (.lst false) (.var (nat_lit 8)))), (.con (.int (.ofNat (nat_lit 1)))), (.con (.int (.ofNat (nat_lit 1))))]), .for_ (.nm (nat_lit 1)) .rng [(.o1 .len (.var (nat_lit 2)))] [.asg (.nm (nat_lit 5)) (.lc false [(nat_lit 7)] (.nm (nat_lit 7)) .rng [(.var (nat_lit 1)), (.o1 .len (.var (nat_lit 2)))] (.o2 (.cmp .ne) (.o2 .idx (.o2 .idx (.var (nat_lit 2)) (.var (nat_lit 7))) (.var (nat_lit 1))) (.con (.int (.ofNat (nat_lit 0))))) (.var (nat_lit 7))), .ife (.o2 (.cmp .eq) (.var (nat_lit 5)) (.on (.lst false) [])) [.ret (.con (.int (.ofNat (nat_lit 0))))] [], .ife (.o2 (.cmp .ne) (.o2 .idx (.var (nat_lit 5)) (.con (.int (.ofNat (nat_lit 0))))) (.var (nat_lit 1))) [.set3 (.var (nat_lit 2)) (.var (nat_lit 1)) (.var (nat_lit 2)) (.o2 .idx (.var (nat_lit 5)) (.con (.int (.ofNat (nat_lit 0))))) (.nm (nat_lit 3)) (.on .tup [(.o2 .idx (.var (nat_lit 2)) (.o2 .idx (.var (nat_lit 5)) (.con (.int (.ofNat (nat_lit 0)))))), (.o2 .idx (.var (nat_lit 2)) (.var (nat_lit 1))), (.o1 .neg (.var (nat_lit 3)))])] [], .asg (.nm (nat_lit 6)) (.o2 .idx (.var (nat_lit 2)) (.var (nat_lit 1))), .for_ (.nm (nat_lit 7)) .rng [(.o2 (.bin .add false) (.var (nat_lit 1)) (.con (.int (.ofNat (nat_lit 1))))), (.o1 .len (.var (nat_lit 2)))] [.set (.var (nat_lit 2)) (.var (nat_lit 7)) (.call (nat_lit 15) [(.var (nat_lit 6)), (.o2 .idx (.var (nat_lit 2)) (.var (nat_lit 7))), (.o2 .idx (.var (nat_lit 6)) (.var (nat_lit 1))), (.o2 .idx (.o2 .idx (.var (nat_lit 2)) (.var (nat_lit 7))) (.var (nat_lit 1))), (.var (nat_lit 4))])], .asg (.nm (nat_lit 4)) (.o2 .idx (.var (nat_lit 6)) (.var (nat_lit 1)))], .ret (.o2 (.bin .mul false) (.var (nat_lit 3)) (.var (nat_lit 4)))]
def e16 : Ent := ⟨(PySem.Str.ofString "determinant"), (nat_lit 16), [(PySem.Str.ofString "table")], [(PySem.Str.ofString "table"), (PySem.Str.ofString "place"), (PySem.Str.ofString "rows"), (PySem.Str.ofString "sign"), (PySem.Str.ofString "ahead"), (PySem.Str.ofString "hits"), (PySem.Str.ofString "head"), (PySem.Str.ofString "number"), (PySem.Str.ofString "row")], (nat_lit 1), (nat_lit 9), true, (nat_lit 0), false, false, b16⟩
def b17 : List Sm := [.asg (.tp [(.nm (nat_lit 2)), (.nm (nat_lit 3))]) (.var (nat_lit 0)), .asg (.nm (nat_lit 1)) (.on .rgv [(.con (.int (.ofNat (nat_lit 1)))), (.o2 (.bin .add false) (.var (nat_lit 3)) (.con (.int (.ofNat (nat_lit 1)))))]), .ret (.call (nat_lit 16) [(.lc false [(nat_lit 4)] (.nm (nat_lit 4)) .val [(.var (nat_lit 1))] (.con (.bl true)) (.lc false [(nat_lit 5)] (.nm (nat_lit 5)) .val [(.var (nat_lit 1))] (.con (.bl true)) (.call (nat_lit 14) [(.o2 (.bin .sub false) (.o2 (.bin .sub false) (.var (nat_lit 2)) (.var (nat_lit 4))) (.var (nat_lit 5)))])))])]
def e17 : Ent := ⟨(PySem.Str.ofString "full_count"), (nat_lit 17), [(PySem.Str.ofString "ring")], [(PySem.Str.ofString "ring"), (PySem.Str.ofString "steps"), (PySem.Str.ofString "many"), (PySem.Str.ofString "least"), (PySem.Str.ofString "one"), (PySem.Str.ofString "other")], (nat_lit 1), (nat_lit 6), true, (nat_lit 0), false, false, b17⟩
def b18 : List Sm := [.ret (.o2 (.bin .sub false) (.o2 .idx (.var (nat_lit 0)) (.con (.int (.ofNat (nat_lit 0))))) (.o2 (.bin .mul false) (.con (.int (.ofNat (nat_lit 2)))) (.o2 .idx (.var (nat_lit 0)) (.con (.int (.ofNat (nat_lit 1)))))))]
def e18 : Ent := ⟨(PySem.Str.ofString "lanes_in"), (nat_lit 18), [(PySem.Str.ofString "ring")], [(PySem.Str.ofString "ring")], (nat_lit 1), (nat_lit 1), true, (nat_lit 0), false, false, b18⟩
def b19 : List Sm := [.ret (.o2 (.bin .sub false) (.o2 (.bin .sub false) (.o2 .idx (.var (nat_lit 0)) (.con (.int (.ofNat (nat_lit 0))))) (.o2 .idx (.var (nat_lit 0)) (.con (.int (.ofNat (nat_lit 1)))))) (.con (.int (.ofNat (nat_lit 1)))))]
def e19 : Ent := ⟨(PySem.Str.ofString "many_runs"), (nat_lit 19), [(PySem.Str.ofString "ring")], [(PySem.Str.ofString "ring")], (nat_lit 1), (nat_lit 1), true, (nat_lit 0), false, false, b19⟩
def b20 : List Sm := [.ret (.o2 (.bin .sub false) (.call (nat_lit 18) [(.var (nat_lit 0))]) (.o2 .max (.o2 (.bin .sub false) (.var (nat_lit 1)) (.o2 .idx (.var (nat_lit 0)) (.con (.int (.ofNat (nat_lit 1)))))) (.con (.int (.ofNat (nat_lit 0))))))]
def e20 : Ent := ⟨(PySem.Str.ofString "end_in"), (nat_lit 20), [(PySem.Str.ofString "ring"), (PySem.Str.ofString "run")], [(PySem.Str.ofString "ring"), (PySem.Str.ofString "run")], (nat_lit 2), (nat_lit 2), true, (nat_lit 0), false, false, b20⟩
def b21 : List Sm := [.ret (.o1 .tup (.lc false [(nat_lit 2)] (.nm (nat_lit 2)) .rng [(.con (.int (.ofNat (nat_lit 1)))), (.call (nat_lit 20) [(.var (nat_lit 0)), (.var (nat_lit 1))])] (.con (.bl true)) (.on .tup [(.var (nat_lit 1)), (.o2 (.bin .add false) (.o2 (.bin .add false) (.var (nat_lit 1)) (.o2 .idx (.var (nat_lit 0)) (.con (.int (.ofNat (nat_lit 1)))))) (.var (nat_lit 2)))])))]
def e21 : Ent := ⟨(PySem.Str.ofString "run_in"), (nat_lit 21), [(PySem.Str.ofString "ring"), (PySem.Str.ofString "run")], [(PySem.Str.ofString "ring"), (PySem.Str.ofString "run"), (PySem.Str.ofString "lane")], (nat_lit 2), (nat_lit 3), true, (nat_lit 0), false, false, b21⟩
def b22 : List Sm := [.ret (.lc false [(nat_lit 1)] (.nm (nat_lit 1)) .rng [(.call (nat_lit 19) [(.var (nat_lit 0))])] (.con (.bl true)) (.call (nat_lit 21) [(.var (nat_lit 0)), (.var (nat_lit 1))]))]
def e22 : Ent := ⟨(PySem.Str.ofString "runs_in"), (nat_lit 22), [(PySem.Str.ofString "ring")], [(PySem.Str.ofString "ring"), (PySem.Str.ofString "run")], (nat_lit 1), (nat_lit 2), true, (nat_lit 0), false, false, b22⟩
def b23 : List Sm := [.asg (.nm (nat_lit 1)) (.on (.lst true) []), .for_ (.nm (nat_lit 2)) .val [(.call (nat_lit 22) [(.var (nat_lit 0))])] [.exp (.o2 .ext (.o1 .isl (.var (nat_lit 1))) (.var (nat_lit 2)))], .ret (.o1 .frz (.var (nat_lit 1)))]
def e23 : Ent := ⟨(PySem.Str.ofString "ties_in"), (nat_lit 23), [(PySem.Str.ofString "ring")], [(PySem.Str.ofString "ring"), (PySem.Str.ofString "found"), (PySem.Str.ofString "run")], (nat_lit 1), (nat_lit 3), true, (nat_lit 0), false, false, b23⟩
def b24 : List Sm := [.asg (.nm (nat_lit 3)) (.o1 .dict (.lc false [(nat_lit 4)] (.nm (nat_lit 4)) .val [(.var (nat_lit 1))] (.con (.bl true)) (.on .tup [(.var (nat_lit 4)), (.con (.bl true))]))), .asg (.tp [(.nm (nat_lit 5)), (.nm (nat_lit 6)), (.nm (nat_lit 7))]) (.on .tup [(.o2 (.lrg true) (.con (.int (.ofNat (nat_lit 1)))) (.o2 (.bin .add false) (.call (nat_lit 18) [(.var (nat_lit 0))]) (.con (.int (.ofNat (nat_lit 1)))))), (.on .dct []), (.on (.lst true) [])]), .for_ (.nm (nat_lit 4)) .val [(.on (.sls false false false) [(.call (nat_lit 23) [(.var (nat_lit 0))]), (.con .non), (.con .non), (.ife (.var (nat_lit 2)) (.o1 .neg (.con (.int (.ofNat (nat_lit 1))))) (.con (.int (.ofNat (nat_lit 1)))))])] [.asg (.nm (nat_lit 8)) (.o2 (.bin .sub false) (.o2 (.bin .sub false) (.o2 (.bin .sub false) (.o2 .idx (.var (nat_lit 4)) (.con (.int (.ofNat (nat_lit 1))))) (.o2 .idx (.var (nat_lit 4)) (.con (.int (.ofNat (nat_lit 0)))))) (.o2 .idx (.var (nat_lit 0)) (.con (.int (.ofNat (nat_lit 1)))))) (.con (.int (.ofNat (nat_lit 1))))), .asg (.nm (nat_lit 9)) (.call (nat_lit 4) [(.on (.slc false true true) [(.var (nat_lit 5)), (.o1 .ich (.var (nat_lit 8))), (.o1 .ich (.o2 (.bin .add false) (.var (nat_lit 8)) (.con (.int (.ofNat (nat_lit 2))))))])]), .ife (.or (.o2 (.cmp .in_) (.var (nat_lit 4)) (.var (nat_lit 3))) (.o2 (.cmp .in_) (.var (nat_lit 9)) (.var (nat_lit 6)))) [.exp (.o2 .app (.o1 .isl (.var (nat_lit 7))) (.var (nat_lit 4)))] [.set (.var (nat_lit 6)) (.var (nat_lit 9)) (.con (.bl true)), .set2 (.var (nat_lit 5)) (.var (nat_lit 8)) (.var (nat_lit 5)) (.o2 (.bin .add false) (.var (nat_lit 8)) (.con (.int (.ofNat (nat_lit 1))))) (.on .tup [(.o2 .idx (.var (nat_lit 5)) (.o2 (.bin .add false) (.var (nat_lit 8)) (.con (.int (.ofNat (nat_lit 1)))))), (.o2 .idx (.var (nat_lit 5)) (.var (nat_lit 8)))])]], .ret (.call (nat_lit 4) [(.var (nat_lit 7))])]
def e24 : Ent := ⟨(PySem.Str.ofString "touches_in"), (nat_lit 24), [(PySem.Str.ofString "ring"), (PySem.Str.ofString "drawing"), (PySem.Str.ofString "back")], [(PySem.Str.ofString "ring"), (PySem.Str.ofString "drawing"), (PySem.Str.ofString "back"), (PySem.Str.ofString "held"), (PySem.Str.ofString "line"), (PySem.Str.ofString "wires"), (PySem.Str.ofString "crossed"), (PySem.Str.ofString "found"), (PySem.Str.ofString "place"), (PySem.Str.ofString "both")], (nat_lit 3), (nat_lit 10), true, (nat_lit 0), false, false, b24⟩
def b25 : List Sm := [.asg (.nm (nat_lit 2)) (.o1 .dict (.lc false [(nat_lit 3)] (.nm (nat_lit 3)) .val [(.var (nat_lit 1))] (.con (.bl true)) (.on .tup [(.var (nat_lit 3)), (.con (.bl true))]))), .asg (.tp [(.nm (nat_lit 4)), (.nm (nat_lit 5))]) (.on .tup [(.o2 (.lrg true) (.con (.int (.ofNat (nat_lit 1)))) (.o2 (.bin .add false) (.call (nat_lit 18) [(.var (nat_lit 0))]) (.con (.int (.ofNat (nat_lit 1)))))), (.on (.lst true) [])]), .for_ (.nm (nat_lit 3)) .val [(.call (nat_lit 23) [(.var (nat_lit 0))])] [.asg (.nm (nat_lit 6)) (.o2 (.bin .sub false) (.o2 (.bin .sub false) (.o2 (.bin .sub false) (.o2 .idx (.var (nat_lit 3)) (.con (.int (.ofNat (nat_lit 1))))) (.o2 .idx (.var (nat_lit 3)) (.con (.int (.ofNat (nat_lit 0)))))) (.o2 .idx (.var (nat_lit 0)) (.con (.int (.ofNat (nat_lit 1)))))) (.con (.int (.ofNat (nat_lit 1))))), .exp (.o2 .app (.o1 .isl (.var (nat_lit 5))) (.on .tup [(.var (nat_lit 3)), (.o2 .idx (.var (nat_lit 4)) (.var (nat_lit 6))), (.o2 .idx (.var (nat_lit 4)) (.o2 (.bin .add false) (.var (nat_lit 6)) (.con (.int (.ofNat (nat_lit 1)))))), (.o2 (.cmp .nin) (.var (nat_lit 3)) (.var (nat_lit 2)))])), .ife (.o2 (.cmp .nin) (.var (nat_lit 3)) (.var (nat_lit 2))) [.set2 (.var (nat_lit 4)) (.var (nat_lit 6)) (.var (nat_lit 4)) (.o2 (.bin .add false) (.var (nat_lit 6)) (.con (.int (.ofNat (nat_lit 1))))) (.on .tup [(.o2 .idx (.var (nat_lit 4)) (.o2 (.bin .add false) (.var (nat_lit 6)) (.con (.int (.ofNat (nat_lit 1)))))), (.o2 .idx (.var (nat_lit 4)) (.var (nat_lit 6)))])] []], .ret (.o1 .frz (.var (nat_lit 5)))]
def e25 : Ent := ⟨(PySem.Str.ofString "plain_in"), (nat_lit 25), [(PySem.Str.ofString "ring"), (PySem.Str.ofString "drawing")], [(PySem.Str.ofString "ring"), (PySem.Str.ofString "drawing"), (PySem.Str.ofString "held"), (PySem.Str.ofString "line"), (PySem.Str.ofString "wires"), (PySem.Str.ofString "found"), (PySem.Str.ofString "place")], (nat_lit 2), (nat_lit 7), true, (nat_lit 0), false, false, b25⟩
def b26 : List Sm := [.asg (.nm (nat_lit 2)) (.on .dct []), .for_ (.tp [(.nm (nat_lit 3)), (.nm (nat_lit 4)), (.nm (nat_lit 5)), (.nm (nat_lit 6))]) .val [(.call (nat_lit 25) [(.var (nat_lit 0)), (.var (nat_lit 1))])] [.ife (.var (nat_lit 6)) [.set (.var (nat_lit 2)) (.on .tup [(.var (nat_lit 4)), (.var (nat_lit 5))]) (.var (nat_lit 3)), .set (.var (nat_lit 2)) (.on .tup [(.var (nat_lit 5)), (.var (nat_lit 4))]) (.var (nat_lit 3))] []], .ret (.var (nat_lit 2))]
def e26 : Ent := ⟨(PySem.Str.ofString "crosses_in"), (nat_lit 26), [(PySem.Str.ofString "ring"), (PySem.Str.ofString "lot")], [(PySem.Str.ofString "ring"), (PySem.Str.ofString "lot"), (PySem.Str.ofString "found"), (PySem.Str.ofString "line"), (PySem.Str.ofString "lower"), (PySem.Str.ofString "upper"), (PySem.Str.ofString "crosses")], (nat_lit 2), (nat_lit 7), false, (nat_lit 0), false, false, b26⟩
def b27 : List Sm := [.ret (.o1 .dict (.lc false [(nat_lit 2), (nat_lit 3), (nat_lit 4), (nat_lit 5)] (.tp [(.nm (nat_lit 2)), (.nm (nat_lit 3)), (.nm (nat_lit 4)), (.nm (nat_lit 5))]) .val [(.call (nat_lit 25) [(.var (nat_lit 0)), (.var (nat_lit 1))])] (.con (.bl true)) (.on .tup [(.var (nat_lit 2)), (.on .tup [(.o2 .min (.var (nat_lit 3)) (.var (nat_lit 4))), (.o2 .max (.var (nat_lit 3)) (.var (nat_lit 4)))])])))]
def e27 : Ent := ⟨(PySem.Str.ofString "pairs_in"), (nat_lit 27), [(PySem.Str.ofString "ring"), (PySem.Str.ofString "lot")], [(PySem.Str.ofString "ring"), (PySem.Str.ofString "lot"), (PySem.Str.ofString "line"), (PySem.Str.ofString "lower"), (PySem.Str.ofString "upper"), (PySem.Str.ofString "crosses")], (nat_lit 2), (nat_lit 6), false, (nat_lit 0), false, false, b27⟩
def b28 : List Sm := [.asg (.tp [(.nm (nat_lit 2)), (.nm (nat_lit 3))]) (.on .tup [(.call (nat_lit 27) [(.var (nat_lit 0)), (.var (nat_lit 1))]), (.call (nat_lit 26) [(.var (nat_lit 0)), (.var (nat_lit 1))])]), .ret (.lc false [(nat_lit 4)] (.nm (nat_lit 4)) .val [(.var (nat_lit 1))] (.con (.bl true)) (.on .tup [(.var (nat_lit 4)), (.o2 .idx (.var (nat_lit 3)) (.o2 .idx (.var (nat_lit 2)) (.var (nat_lit 4))))]))]
def e28 : Ent := ⟨(PySem.Str.ofString "exchanges_in"), (nat_lit 28), [(PySem.Str.ofString "ring"), (PySem.Str.ofString "lot")], [(PySem.Str.ofString "ring"), (PySem.Str.ofString "lot"), (PySem.Str.ofString "pairs"), (PySem.Str.ofString "crosses"), (PySem.Str.ofString "line")], (nat_lit 2), (nat_lit 5), true, (nat_lit 0), false, false, b28⟩
def b29 : List Sm := [.ret (.call (nat_lit 4) [(.o2 (.bin .add false) (.lc false [(nat_lit 2)] (.nm (nat_lit 2)) .val [(.var (nat_lit 0))] (.o2 (.cmp .ne) (.var (nat_lit 2)) (.o2 .idx (.var (nat_lit 1)) (.con (.int (.ofNat (nat_lit 0)))))) (.var (nat_lit 2))) (.on (.lst false) [(.o2 .idx (.var (nat_lit 1)) (.con (.int (.ofNat (nat_lit 1)))))]))])]
def e29 : Ent := ⟨(PySem.Str.ofString "led_in"), (nat_lit 29), [(PySem.Str.ofString "lot"), (PySem.Str.ofString "pair")], [(PySem.Str.ofString "lot"), (PySem.Str.ofString "pair"), (PySem.Str.ofString "line")], (nat_lit 2), (nat_lit 3), true, (nat_lit 0), false, false, b29⟩
def b30 : List Sm := [.ret (.lc false [(nat_lit 3), (nat_lit 4)] (.tp [(.nm (nat_lit 3)), (.nm (nat_lit 4))]) .val [(.call (nat_lit 28) [(.var (nat_lit 0)), (.var (nat_lit 2))])] (.o2 (.cmp .nin) (.var (nat_lit 3)) (.var (nat_lit 1))) (.on .tup [(.var (nat_lit 3)), (.var (nat_lit 4))]))]
def e30 : Ent := ⟨(PySem.Str.ofString "free_in"), (nat_lit 30), [(PySem.Str.ofString "ring"), (PySem.Str.ofString "lot"), (PySem.Str.ofString "full")], [(PySem.Str.ofString "ring"), (PySem.Str.ofString "lot"), (PySem.Str.ofString "full"), (PySem.Str.ofString "gone"), (PySem.Str.ofString "come")], (nat_lit 3), (nat_lit 5), true, (nat_lit 0), false, false, b30⟩
def b31 : List Sm := [.asg (.nm (nat_lit 2)) (.call (nat_lit 24) [(.var (nat_lit 0)), (.var (nat_lit 1)), (.con (.bl true))]), .asg (.tp [(.nm (nat_lit 3)), (.nm (nat_lit 4))]) (.on .tup [(.on .dsp [(.var (nat_lit 2)), (.con (.bl true))]), (.on (.lst true) [(.var (nat_lit 2))])]), .whl (.o2 (.cmp .ne) (.var (nat_lit 4)) (.on (.lst false) [])) [.asg (.nm (nat_lit 5)) (.o1 .pop (.o1 .isl (.var (nat_lit 4)))), .for_ (.tp [(.nm (nat_lit 6)), (.nm (nat_lit 7))]) .val [(.call (nat_lit 30) [(.var (nat_lit 0)), (.var (nat_lit 1)), (.var (nat_lit 5))])] [.asg (.nm (nat_lit 8)) (.call (nat_lit 29) [(.var (nat_lit 5)), (.on .tup [(.var (nat_lit 6)), (.var (nat_lit 7))])]), .ife (.o2 (.cmp .nin) (.var (nat_lit 8)) (.var (nat_lit 3))) [.set (.var (nat_lit 3)) (.var (nat_lit 8)) (.con (.bl true)), .exp (.o2 .app (.o1 .isl (.var (nat_lit 4))) (.var (nat_lit 8)))] [], .ife (.o2 (.cmp .gt) (.o1 .len (.var (nat_lit 3))) (.con (.int (.ofNat (nat_lit 2000))))) [.rse (nat_lit 10) []] []]], .ret (.o1 (.srt false) (.var (nat_lit 3)))]
def e31 : Ent := ⟨(PySem.Str.ofString "every_with"), (nat_lit 31), [(PySem.Str.ofString "ring"), (PySem.Str.ofString "lot")], [(PySem.Str.ofString "ring"), (PySem.Str.ofString "lot"), (PySem.Str.ofString "least"), (PySem.Str.ofString "known"), (PySem.Str.ofString "fresh"), (PySem.Str.ofString "full"), (PySem.Str.ofString "gone"), (PySem.Str.ofString "come"), (PySem.Str.ofString "other")], (nat_lit 2), (nat_lit 9), true, (nat_lit 0), false, false, b31⟩
def b32 : List Sm := [.ife (.o2 (.cmp .gt) (.call (nat_lit 17) [(.var (nat_lit 0))]) (.con (.int (.ofNat (nat_lit 2000))))) [.rse (nat_lit 10) []] []]
def e32 : Ent := ⟨(PySem.Str.ofString "sure_few"), (nat_lit 32), [(PySem.Str.ofString "ring")], [(PySem.Str.ofString "ring")], (nat_lit 1), (nat_lit 1), true, (nat_lit 0), false, false, b32⟩
def b33 : List Sm := [.ret (.call (nat_lit 4) [(.lc false [(nat_lit 3), (nat_lit 4)] (.tp [(.nm (nat_lit 3)), (.nm (nat_lit 4))]) .val [(.var (nat_lit 1))] (.con (.bl true)) (.call (nat_lit 12) [(.o2 (.bin .mod false) (.o2 (.bin .add false) (.var (nat_lit 3)) (.var (nat_lit 2))) (.o2 .idx (.var (nat_lit 0)) (.con (.int (.ofNat (nat_lit 0)))))), (.o2 (.bin .mod false) (.o2 (.bin .add false) (.var (nat_lit 4)) (.var (nat_lit 2))) (.o2 .idx (.var (nat_lit 0)) (.con (.int (.ofNat (nat_lit 0))))))]))])]
def e33 : Ent := ⟨(PySem.Str.ofString "turned_in"), (nat_lit 33), [(PySem.Str.ofString "ring"), (PySem.Str.ofString "lot"), (PySem.Str.ofString "many")], [(PySem.Str.ofString "ring"), (PySem.Str.ofString "lot"), (PySem.Str.ofString "many"), (PySem.Str.ofString "one"), (PySem.Str.ofString "other")], (nat_lit 3), (nat_lit 5), true, (nat_lit 0), false, false, b33⟩
def b34 : List Sm := [.asg (.nm (nat_lit 2)) (.call (nat_lit 2) [(.var (nat_lit 1))]), .ife (.or (.o1 .not (.call (nat_lit 5) [(.var (nat_lit 2))])) (.or (.o1 .not (.call (nat_lit 3) [(.var (nat_lit 2))])) (.o1 .not (.o1 .all (.lc false [(nat_lit 3)] (.nm (nat_lit 3)) .val [(.var (nat_lit 2))] (.con (.bl true)) (.ch2 .le .lt (.con (.int (.ofNat (nat_lit 0)))) (.var (nat_lit 3)) (.o2 .idx (.var (nat_lit 0)) (.con (.int (.ofNat (nat_lit 0))))))))))) [.rse (nat_lit 11) []] [], .ret (.var (nat_lit 2))]
def e34 : Ent := ⟨(PySem.Str.ofString "sure_points"), (nat_lit 34), [(PySem.Str.ofString "ring"), (PySem.Str.ofString "value")], [(PySem.Str.ofString "ring"), (PySem.Str.ofString "value"), (PySem.Str.ofString "own"), (PySem.Str.ofString "point")], (nat_lit 2), (nat_lit 4), true, (nat_lit 0), false, false, b34⟩
def b35 : List Sm := [.ret (.call (nat_lit 4) [(.lc false [(nat_lit 2), (nat_lit 3)] (.tp [(.nm (nat_lit 2)), (.nm (nat_lit 3))]) .val [(.var (nat_lit 1))] (.con (.bl true)) (.on .tup [(.o2 (.bin .sub false) (.o2 (.bin .sub false) (.o2 .idx (.var (nat_lit 0)) (.con (.int (.ofNat (nat_lit 0))))) (.con (.int (.ofNat (nat_lit 1))))) (.var (nat_lit 3))), (.o2 (.bin .sub false) (.o2 (.bin .sub false) (.o2 .idx (.var (nat_lit 0)) (.con (.int (.ofNat (nat_lit 0))))) (.con (.int (.ofNat (nat_lit 1))))) (.var (nat_lit 2)))]))])]
def e35 : Ent := ⟨(PySem.Str.ofString "mirrored_in"), (nat_lit 35), [(PySem.Str.ofString "ring"), (PySem.Str.ofString "lines")], [(PySem.Str.ofString "ring"), (PySem.Str.ofString "lines"), (PySem.Str.ofString "near"), (PySem.Str.ofString "far")], (nat_lit 2), (nat_lit 4), true, (nat_lit 0), false, false, b35⟩
def b36 : List Sm := [.ret (.o1 .tup (.lc false [(nat_lit 3)] (.nm (nat_lit 3)) .rng [(.o2 .idx (.var (nat_lit 0)) (.con (.int (.ofNat (nat_lit 0)))))] (.o2 (.cmp .eq) (.call (nat_lit 33) [(.var (nat_lit 0)), (.var (nat_lit 1)), (.var (nat_lit 3))]) (.var (nat_lit 2))) (.var (nat_lit 3))))]
def e36 : Ent := ⟨(PySem.Str.ofString "leading_in"), (nat_lit 36), [(PySem.Str.ofString "ring"), (PySem.Str.ofString "lines"), (PySem.Str.ofString "other")], [(PySem.Str.ofString "ring"), (PySem.Str.ofString "lines"), (PySem.Str.ofString "other"), (PySem.Str.ofString "number")], (nat_lit 3), (nat_lit 4), true, (nat_lit 0), false, false, b36⟩
def b37 : List Sm := [.asg (.nm (nat_lit 3)) (.call (nat_lit 9) [(.var (nat_lit 0))]), .asg (.nm (nat_lit 4)) (.call (nat_lit 10) [(.var (nat_lit 3)), (.var (nat_lit 1))]), .ret (.on .tup [(.var (nat_lit 3)), (.var (nat_lit 4)), (.call (nat_lit 10) [(.var (nat_lit 3)), (.var (nat_lit 2))])])]
def e37 : Ent := ⟨(PySem.Str.ofString "sure_pair"), (nat_lit 37), [(PySem.Str.ofString "ring"), (PySem.Str.ofString "lines"), (PySem.Str.ofString "other")], [(PySem.Str.ofString "ring"), (PySem.Str.ofString "lines"), (PySem.Str.ofString "other"), (PySem.Str.ofString "own"), (PySem.Str.ofString "told")], (nat_lit 3), (nat_lit 5), true, (nat_lit 0), false, false, b37⟩
def b38 : List Sm := [.asg (.nm (nat_lit 3)) (.call (nat_lit 9) [(.var (nat_lit 0))]), .asg (.nm (nat_lit 4)) (.call (nat_lit 10) [(.var (nat_lit 3)), (.var (nat_lit 1))]), .ret (.call (nat_lit 33) [(.var (nat_lit 3)), (.var (nat_lit 4)), (.call (nat_lit 11) [(.var (nat_lit 2))])])]
def e38 : Ent := ⟨(PySem.Str.ofString "turned"), (nat_lit 38), [(PySem.Str.ofString "ring"), (PySem.Str.ofString "lines"), (PySem.Str.ofString "number")], [(PySem.Str.ofString "ring"), (PySem.Str.ofString "lines"), (PySem.Str.ofString "number"), (PySem.Str.ofString "own"), (PySem.Str.ofString "told")], (nat_lit 3), (nat_lit 5), true, (nat_lit 0), false, false, b38⟩
def b39 : List Sm := [.asg (.nm (nat_lit 2)) (.call (nat_lit 9) [(.var (nat_lit 0))]), .ret (.call (nat_lit 35) [(.var (nat_lit 2)), (.call (nat_lit 10) [(.var (nat_lit 2)), (.var (nat_lit 1))])])]
def e39 : Ent := ⟨(PySem.Str.ofString "mirrored"), (nat_lit 39), [(PySem.Str.ofString "ring"), (PySem.Str.ofString "lines")], [(PySem.Str.ofString "ring"), (PySem.Str.ofString "lines"), (PySem.Str.ofString "own")], (nat_lit 2), (nat_lit 3), true, (nat_lit 0), false, false, b39⟩
def b40 : List Sm := [.asg (.nm (nat_lit 3)) (.call (nat_lit 9) [(.var (nat_lit 0))]), .asg (.nm (nat_lit 4)) (.call (nat_lit 34) [(.var (nat_lit 3)), (.var (nat_lit 1))]), .asg (.nm (nat_lit 5)) (.call (nat_lit 11) [(.var (nat_lit 2))]), .ret (.call (nat_lit 4) [(.lc false [(nat_lit 6)] (.nm (nat_lit 6)) .val [(.var (nat_lit 4))] (.con (.bl true)) (.o2 (.bin .mod false) (.o2 (.bin .add false) (.var (nat_lit 6)) (.var (nat_lit 5))) (.o2 .idx (.var (nat_lit 3)) (.con (.int (.ofNat (nat_lit 0)))))))])]
def e40 : Ent := ⟨(PySem.Str.ofString "points_turned"), (nat_lit 40), [(PySem.Str.ofString "ring"), (PySem.Str.ofString "points"), (PySem.Str.ofString "number")], [(PySem.Str.ofString "ring"), (PySem.Str.ofString "points"), (PySem.Str.ofString "number"), (PySem.Str.ofString "own"), (PySem.Str.ofString "told"), (PySem.Str.ofString "many"), (PySem.Str.ofString "point")], (nat_lit 3), (nat_lit 7), true, (nat_lit 0), false, false, b40⟩
def b41 : List Sm := [.asg (.nm (nat_lit 2)) (.call (nat_lit 9) [(.var (nat_lit 0))]), .ret (.call (nat_lit 4) [(.lc false [(nat_lit 3)] (.nm (nat_lit 3)) .val [(.call (nat_lit 34) [(.var (nat_lit 2)), (.var (nat_lit 1))])] (.con (.bl true)) (.o2 (.bin .sub false) (.o2 (.bin .sub false) (.o2 .idx (.var (nat_lit 2)) (.con (.int (.ofNat (nat_lit 0))))) (.con (.int (.ofNat (nat_lit 1))))) (.var (nat_lit 3))))])]
def e41 : Ent := ⟨(PySem.Str.ofString "points_mirrored"), (nat_lit 41), [(PySem.Str.ofString "ring"), (PySem.Str.ofString "points")], [(PySem.Str.ofString "ring"), (PySem.Str.ofString "points"), (PySem.Str.ofString "own"), (PySem.Str.ofString "point")], (nat_lit 2), (nat_lit 4), true, (nat_lit 0), false, false, b41⟩
def b42 : List Sm := [.asg (.tp [(.nm (nat_lit 3)), (.nm (nat_lit 4)), (.nm (nat_lit 5))]) (.call (nat_lit 37) [(.var (nat_lit 0)), (.var (nat_lit 1)), (.var (nat_lit 2))]), .ret (.call (nat_lit 36) [(.var (nat_lit 3)), (.var (nat_lit 4)), (.var (nat_lit 5))])]
def e42 : Ent := ⟨(PySem.Str.ofString "turns_to"), (nat_lit 42), [(PySem.Str.ofString "ring"), (PySem.Str.ofString "lines"), (PySem.Str.ofString "other")], [(PySem.Str.ofString "ring"), (PySem.Str.ofString "lines"), (PySem.Str.ofString "other"), (PySem.Str.ofString "own"), (PySem.Str.ofString "one"), (PySem.Str.ofString "two")], (nat_lit 3), (nat_lit 6), true, (nat_lit 0), false, false, b42⟩
def b43 : List Sm := [.asg (.tp [(.nm (nat_lit 3)), (.nm (nat_lit 4)), (.nm (nat_lit 5))]) (.call (nat_lit 37) [(.var (nat_lit 0)), (.var (nat_lit 1)), (.var (nat_lit 2))]), .ret (.call (nat_lit 36) [(.var (nat_lit 3)), (.call (nat_lit 35) [(.var (nat_lit 3)), (.var (nat_lit 4))]), (.var (nat_lit 5))])]
def e43 : Ent := ⟨(PySem.Str.ofString "mirrors_to"), (nat_lit 43), [(PySem.Str.ofString "ring"), (PySem.Str.ofString "lines"), (PySem.Str.ofString "other")], [(PySem.Str.ofString "ring"), (PySem.Str.ofString "lines"), (PySem.Str.ofString "other"), (PySem.Str.ofString "own"), (PySem.Str.ofString "one"), (PySem.Str.ofString "two")], (nat_lit 3), (nat_lit 6), true, (nat_lit 0), false, false, b43⟩
def b44 : List Sm := [.asg (.tp [(.nm (nat_lit 3)), (.nm (nat_lit 4)), (.nm (nat_lit 5))]) (.call (nat_lit 37) [(.var (nat_lit 0)), (.var (nat_lit 1)), (.var (nat_lit 2))]), .ret (.or (.o2 (.cmp .ne) (.call (nat_lit 36) [(.var (nat_lit 3)), (.var (nat_lit 4)), (.var (nat_lit 5))]) (.on .tup [])) (.o2 (.cmp .ne) (.call (nat_lit 36) [(.var (nat_lit 3)), (.call (nat_lit 35) [(.var (nat_lit 3)), (.var (nat_lit 4))]), (.var (nat_lit 5))]) (.on .tup [])))]
def e44 : Ent := ⟨(PySem.Str.ofString "are_alike"), (nat_lit 44), [(PySem.Str.ofString "ring"), (PySem.Str.ofString "lines"), (PySem.Str.ofString "other")], [(PySem.Str.ofString "ring"), (PySem.Str.ofString "lines"), (PySem.Str.ofString "other"), (PySem.Str.ofString "own"), (PySem.Str.ofString "one"), (PySem.Str.ofString "two")], (nat_lit 3), (nat_lit 6), true, (nat_lit 0), false, false, b44⟩
def b45 : List Sm := [.asg (.nm (nat_lit 2)) (.call (nat_lit 9) [(.var (nat_lit 0))]), .asg (.nm (nat_lit 3)) (.call (nat_lit 10) [(.var (nat_lit 2)), (.var (nat_lit 1))]), .ret (.call (nat_lit 36) [(.var (nat_lit 2)), (.var (nat_lit 3)), (.var (nat_lit 3))])]
def e45 : Ent := ⟨(PySem.Str.ofString "like_itself"), (nat_lit 45), [(PySem.Str.ofString "ring"), (PySem.Str.ofString "lines")], [(PySem.Str.ofString "ring"), (PySem.Str.ofString "lines"), (PySem.Str.ofString "own"), (PySem.Str.ofString "told")], (nat_lit 2), (nat_lit 4), true, (nat_lit 0), false, false, b45⟩
def b46 : List Sm := [.ret (.o1 .min1 (.lc false [(nat_lit 2)] (.nm (nat_lit 2)) .rng [(.o2 .idx (.var (nat_lit 0)) (.con (.int (.ofNat (nat_lit 0)))))] (.con (.bl true)) (.call (nat_lit 33) [(.var (nat_lit 0)), (.var (nat_lit 1)), (.var (nat_lit 2))])))]
def e46 : Ent := ⟨(PySem.Str.ofString "least_turned"), (nat_lit 46), [(PySem.Str.ofString "ring"), (PySem.Str.ofString "lines")], [(PySem.Str.ofString "ring"), (PySem.Str.ofString "lines"), (PySem.Str.ofString "number")], (nat_lit 2), (nat_lit 3), true, (nat_lit 0), false, false, b46⟩
def b47 : List Sm := [.asg (.nm (nat_lit 2)) (.call (nat_lit 9) [(.var (nat_lit 0))]), .asg (.nm (nat_lit 3)) (.call (nat_lit 10) [(.var (nat_lit 2)), (.var (nat_lit 1))]), .ret (.o1 .min1 (.on (.lst false) [(.call (nat_lit 46) [(.var (nat_lit 2)), (.var (nat_lit 3))]), (.call (nat_lit 46) [(.var (nat_lit 2)), (.call (nat_lit 35) [(.var (nat_lit 2)), (.var (nat_lit 3))])])]))]
def e47 : Ent := ⟨(PySem.Str.ofString "least_alike"), (nat_lit 47), [(PySem.Str.ofString "ring"), (PySem.Str.ofString "lines")], [(PySem.Str.ofString "ring"), (PySem.Str.ofString "lines"), (PySem.Str.ofString "own"), (PySem.Str.ofString "told")], (nat_lit 2), (nat_lit 4), true, (nat_lit 0), false, false, b47⟩
def b48 : List Sm := [.asg (.nm (nat_lit 1)) (.call (nat_lit 9) [(.var (nat_lit 0))]), .exp (.call (nat_lit 32) [(.var (nat_lit 1))]), .ret (.lc false [(nat_lit 2)] (.nm (nat_lit 2)) .val [(.call (nat_lit 31) [(.var (nat_lit 1)), (.on .tup [])])] (.o2 (.cmp .eq) (.call (nat_lit 46) [(.var (nat_lit 1)), (.var (nat_lit 2))]) (.var (nat_lit 2))) (.var (nat_lit 2)))]
def e48 : Ent := ⟨(PySem.Str.ofString "kinds"), (nat_lit 48), [(PySem.Str.ofString "ring")], [(PySem.Str.ofString "ring"), (PySem.Str.ofString "own"), (PySem.Str.ofString "full")], (nat_lit 1), (nat_lit 3), true, (nat_lit 0), false, false, b48⟩
def b49 : List Sm := [.ret (.o1 .len (.call (nat_lit 48) [(.var (nat_lit 0))]))]
def e49 : Ent := ⟨(PySem.Str.ofString "how_many_kinds"), (nat_lit 49), [(PySem.Str.ofString "ring")], [(PySem.Str.ofString "ring")], (nat_lit 1), (nat_lit 1), true, (nat_lit 0), false, false, b49⟩
def b50 : List Sm := [.asg (.nm (nat_lit 2)) (.ife (.o2 (.cmp .lt) (.var (nat_lit 1)) (.o1 .len (.var (nat_lit 0)))) (.o2 .idx (.var (nat_lit 0)) (.var (nat_lit 1))) (.con (.int (.ofNat (nat_lit 0))))), .ret (.on (.lst true) [(.o2 (.bin .mul false) (.o1 .abs (.var (nat_lit 2))) (.o1 .int_ (.o2 (.cmp .ge) (.o1 .abs (.var (nat_lit 2))) (.o2 (.bin .pow false) (.con (.int (.ofNat (nat_lit 10)))) (.con (.int (.ofNat (nat_lit 18)))))))), (.o2 (.bin .add false) (.o2 (.bin .add false) (.o2 (.bin .mod false) (.o1 .int_ (.var (nat_lit 2))) (.con (.int (.ofNat (nat_lit 2305843009213693951))))) (.o2 (.bin .mul false) (.con (.int (.ofNat (nat_lit 39373)))) (.var (nat_lit 1)))) (.con (.int (.ofNat (nat_lit 5329074))))), (.con (.int (.ofNat (nat_lit 0))))])]
def e50 : Ent := ⟨(PySem.Str.ofString "_law_box"), (nat_lit 50), [(PySem.Str.ofString "script"), (PySem.Str.ofString "k")], [(PySem.Str.ofString "script"), (PySem.Str.ofString "k"), (PySem.Str.ofString "bit_so")], (nat_lit 2), (nat_lit 3), false, (nat_lit 0), false, false, b50⟩
def b51 : List Sm := [.ife (.o2 (.cmp .gt) (.o2 .idx (.var (nat_lit 0)) (.con (.int (.ofNat (nat_lit 0))))) (.con (.int (.ofNat (nat_lit 0))))) [.asg (.nm (nat_lit 5)) (.o2 (.bin .mod false) (.o1 .int_ (.o2 .idx (.var (nat_lit 0)) (.con (.int (.ofNat (nat_lit 0)))))) (.var (nat_lit 1))), .set (.var (nat_lit 0)) (.con (.int (.ofNat (nat_lit 0)))) (.o2 (.bin .fdiv false) (.o2 .idx (.var (nat_lit 0)) (.con (.int (.ofNat (nat_lit 0))))) (.var (nat_lit 1))), .ret (.var (nat_lit 5))] [], .set (.var (nat_lit 0)) (.con (.int (.ofNat (nat_lit 2)))) (.o2 (.bin .add false) (.o2 .idx (.var (nat_lit 0)) (.con (.int (.ofNat (nat_lit 2))))) (.con (.int (.ofNat (nat_lit 1))))), .asg (.nm (nat_lit 2)) (.o2 (.bin .mod false) (.o1 .int_ (.o2 (.bin .mul false) (.o2 (.bin .add false) (.o2 .idx (.var (nat_lit 0)) (.con (.int (.ofNat (nat_lit 1))))) (.o2 (.bin .mul false) (.con (.int (.ofNat (nat_lit 48271)))) (.o2 .idx (.var (nat_lit 0)) (.con (.int (.ofNat (nat_lit 2))))))) (.o2 (.bin .add false) (.con (.int (.ofNat (nat_lit 39373)))) (.o2 .idx (.var (nat_lit 0)) (.con (.int (.ofNat (nat_lit 2)))))))) (.con (.int (.ofNat (nat_lit 2147483647))))), .asg (.nm (nat_lit 3)) (.o2 (.bin .add false) (.o2 (.bin .mod false) (.o1 .int_ (.var (nat_lit 2))) (.con (.int (.ofNat (nat_lit 40009))))) (.con (.int (.ofNat (nat_lit 7))))), .asg (.nm (nat_lit 4)) (.o2 (.bin .mod false) (.o1 .int_ (.o2 (.bin .mul false) (.o2 (.bin .add false) (.o2 (.bin .add false) (.var (nat_lit 2)) (.o2 .idx (.var (nat_lit 0)) (.con (.int (.ofNat (nat_lit 2)))))) (.o2 (.bin .fdiv false) (.o2 .idx (.var (nat_lit 0)) (.con (.int (.ofNat (nat_lit 1))))) (.con (.int (.ofNat (nat_lit 1000003)))))) (.var (nat_lit 3)))) (.con (.int (.ofNat (nat_lit 2147483629))))), .ret (.o2 (.bin .mod false) (.o1 .int_ (.o2 (.bin .fdiv false) (.o2 (.bin .mod false) (.o1 .int_ (.o2 (.bin .add false) (.o2 (.bin .mul false) (.var (nat_lit 4)) (.con (.int (.ofNat (nat_lit 48271))))) (.var (nat_lit 2)))) (.con (.int (.ofNat (nat_lit 2147483587))))) (.con (.int (.ofNat (nat_lit 64)))))) (.var (nat_lit 1)))]
def e51 : Ent := ⟨(PySem.Str.ofString "_law_take"), (nat_lit 51), [(PySem.Str.ofString "tin"), (PySem.Str.ofString "below_so")], [(PySem.Str.ofString "tin"), (PySem.Str.ofString "below_so"), (PySem.Str.ofString "once_so"), (PySem.Str.ofString "wide_so"), (PySem.Str.ofString "twice_so"), (PySem.Str.ofString "drawn_so")], (nat_lit 2), (nat_lit 6), true, (nat_lit 0), false, false, b51⟩
def b52 : List Sm := [.asg (.nm (nat_lit 2)) (.or (.o1 (.lst true) (.on (.slc false false true) [(.var (nat_lit 0)), (.con .non), (.o1 .ich (.var (nat_lit 1)))])) (.on (.lst true) [(.con (.int (.ofNat (nat_lit 0))))])), .for_ (.tp [(.nm (nat_lit 3)), (.nm (nat_lit 4))]) .enum [(.on (.slc false true true) [(.var (nat_lit 0)), (.o1 .ich (.var (nat_lit 1))), (.o1 .ich (.con (.int (.ofNat (nat_lit 63)))))])] [.asg (.nm (nat_lit 5)) (.o2 (.bin .mod false) (.o1 .int_ (.var (nat_lit 3))) (.var (nat_lit 1))), .set (.var (nat_lit 2)) (.var (nat_lit 5)) (.o2 (.bin .add false) (.o2 .idx (.var (nat_lit 2)) (.var (nat_lit 5))) (.o2 (.bin .mul false) (.var (nat_lit 4)) (.o2 (.bin .add false) (.var (nat_lit 3)) (.con (.int (.ofNat (nat_lit 2)))))))], .ret (.o1 .frz (.var (nat_lit 2)))]
def e52 : Ent := ⟨(PySem.Str.ofString "_law_cells"), (nat_lit 52), [(PySem.Str.ofString "script"), (PySem.Str.ofString "most_so")], [(PySem.Str.ofString "script"), (PySem.Str.ofString "most_so"), (PySem.Str.ofString "cells_so"), (PySem.Str.ofString "k"), (PySem.Str.ofString "bit_so"), (PySem.Str.ofString "at_so")], (nat_lit 2), (nat_lit 6), true, (nat_lit 1024), false, false, b52⟩
def b53 : List Sm := [.ife (.o2 .isi (.var (nat_lit 1)) (.on .tup [(.con (.ty (nat_lit 4))), (.con (.ty (nat_lit 3)))])) [.ife (.or (.o2 (.cmp .ne) (.o2 .isi (.var (nat_lit 0)) (.con (.ty (nat_lit 4)))) (.o2 .isi (.var (nat_lit 1)) (.con (.ty (nat_lit 4))))) (.o2 (.cmp .ne) (.o2 .isi (.var (nat_lit 0)) (.con (.ty (nat_lit 3)))) (.o2 .isi (.var (nat_lit 1)) (.con (.ty (nat_lit 3)))))) [.ret (.con (.bl false))] [], .ret (.and (.o2 (.cmp .eq) (.o1 .len (.var (nat_lit 0))) (.o1 .len (.var (nat_lit 1)))) (.o1 .all (.lc false [(nat_lit 2), (nat_lit 3)] (.tp [(.nm (nat_lit 2)), (.nm (nat_lit 3))]) .zip [(.var (nat_lit 0)), (.var (nat_lit 1))] (.con (.bl true)) (.call (nat_lit 53) [(.var (nat_lit 2)), (.var (nat_lit 3))]))))] [], .ife (.or (.o2 (.cmp .is_) (.var (nat_lit 1)) (.con .non)) (.o2 .isi (.var (nat_lit 1)) (.on .tup [(.con (.ty (nat_lit 1))), (.con (.ty (nat_lit 2)))]))) [.ret (.and (.o2 (.cmp .eq) (.var (nat_lit 0)) (.var (nat_lit 1))) (.and (.o2 (.cmp .eq) (.o2 .isi (.var (nat_lit 0)) (.con (.ty (nat_lit 1)))) (.o2 .isi (.var (nat_lit 1)) (.con (.ty (nat_lit 1))))) (.o2 (.cmp .eq) (.o2 (.cmp .is_) (.var (nat_lit 0)) (.con .non)) (.o2 (.cmp .is_) (.var (nat_lit 1)) (.con .non)))))] [], .ret (.and (.o2 .isi (.var (nat_lit 0)) (.con (.ty (nat_lit 0)))) (.and (.o1 .not (.o2 .isi (.var (nat_lit 0)) (.con (.ty (nat_lit 1))))) (.o2 (.cmp .eq) (.var (nat_lit 0)) (.var (nat_lit 1)))))]
def e53 : Ent := ⟨(PySem.Str.ofString "_law_same"), (nat_lit 53), [(PySem.Str.ofString "got"), (PySem.Str.ofString "due")], [(PySem.Str.ofString "got"), (PySem.Str.ofString "due"), (PySem.Str.ofString "mine"), (PySem.Str.ofString "its")], (nat_lit 2), (nat_lit 4), true, (nat_lit 0), false, true, b53⟩
def b54 : List Sm := [.asg (.nm (nat_lit 2)) (.con .non), .try_ [.ife (.o2 (.cmp .eq) (.o1 .len (.var (nat_lit 1))) (.con (.int (.ofNat (nat_lit 1))))) [.asg (.nm (nat_lit 2)) (.callv (.var (nat_lit 0)) [(.o2 .idx (.var (nat_lit 1)) (.con (.int (.ofNat (nat_lit 0)))))])] [.ife (.o2 (.cmp .eq) (.o1 .len (.var (nat_lit 1))) (.con (.int (.ofNat (nat_lit 2))))) [.asg (.nm (nat_lit 2)) (.callv (.var (nat_lit 0)) [(.o2 .idx (.var (nat_lit 1)) (.con (.int (.ofNat (nat_lit 0))))), (.o2 .idx (.var (nat_lit 1)) (.con (.int (.ofNat (nat_lit 1)))))])] [.asg (.nm (nat_lit 2)) (.callv (.var (nat_lit 0)) [(.o2 .idx (.var (nat_lit 1)) (.con (.int (.ofNat (nat_lit 0))))), (.o2 .idx (.var (nat_lit 1)) (.con (.int (.ofNat (nat_lit 1))))), (.o2 .idx (.var (nat_lit 1)) (.con (.int (.ofNat (nat_lit 2)))))])]]] (.cons (nat_lit 11) (some (nat_lit 3)) [.asg (.nm (nat_lit 2)) (.on (.lst false) [(.con (.str [(nat_lit 117), (nat_lit 110), (nat_lit 102), (nat_lit 105), (nat_lit 116)])), (.isx (nat_lit 3) (nat_lit 6))])] (.cons (nat_lit 10) (some (nat_lit 4)) [.asg (.nm (nat_lit 2)) (.on (.lst false) [(.con (.str [(nat_lit 109), (nat_lit 97), (nat_lit 110), (nat_lit 121)])), (.isx (nat_lit 4) (nat_lit 6))])] .nil)), .ret (.var (nat_lit 2))]
def e54 : Ent := ⟨(PySem.Str.ofString "_law_heard"), (nat_lit 54), [(PySem.Str.ofString "door_so"), (PySem.Str.ofString "goods_so")], [(PySem.Str.ofString "door_so"), (PySem.Str.ofString "goods_so"), (PySem.Str.ofString "told_so"), (PySem.Str.ofString "error_a"), (PySem.Str.ofString "error_b")], (nat_lit 2), (nat_lit 5), true, (nat_lit 0), false, true, b54⟩
def b55 : List Sm := [.asg (.tp [(.nm (nat_lit 6)), (.nm (nat_lit 7)), (.nm (nat_lit 8))]) (.on .tup [(.on .tup [(.con (.int (.ofNat (nat_lit 6)))), (.con (.int (.ofNat (nat_lit 1))))]), (.on .tup [(.on .tup [(.con (.int (.ofNat (nat_lit 0)))), (.con (.int (.ofNat (nat_lit 2))))]), (.on .tup [(.con (.int (.ofNat (nat_lit 0)))), (.con (.int (.ofNat (nat_lit 3))))])]), (.call (nat_lit 50) [(.call (nat_lit 52) [(.var (nat_lit 0)), (.con (.int (.ofNat (nat_lit 1))))]), (.con (.int (.ofNat (nat_lit 0))))])]), .hid [(nat_lit 1), (nat_lit 2), (nat_lit 3), (nat_lit 4), (nat_lit 5), (nat_lit 6), (nat_lit 7), (nat_lit 8), (nat_lit 9), (nat_lit 10)] (.asg (.nm (nat_lit 1)) (.on (.lst false) [(.con .non), (.on .tup []), (.on .tup [(.con (.int (.ofNat (nat_lit 6))))]), (.on .tup [(.con (.int (.ofNat (nat_lit 6)))), (.con (.int (.ofNat (nat_lit 1)))), (.con (.int (.ofNat (nat_lit 1))))]), (.on .tup [(.con (.int (.ofNat (nat_lit 6)))), (.con (.int (.ofNat (nat_lit 0))))]), (.on .tup [(.con (.int (.ofNat (nat_lit 2)))), (.con (.int (.ofNat (nat_lit 1))))]), (.on .tup [(.con (.int (.ofNat (nat_lit 6)))), (.con (.int (.ofNat (nat_lit 3))))]), (.on .tup [(.con (.int (.ofNat (nat_lit 6)))), (.con (.bl true))]), (.on .tup [(.con (.int (.ofNat (nat_lit 6)))), (.con .non)]), (.con (.str [(nat_lit 54), (nat_lit 49)])), (.con (.int (.ofNat (nat_lit 6)))), (.on .tup [(.con (.str [(nat_lit 54)])), (.con (.int (.ofNat (nat_lit 1))))])])), .hid [(nat_lit 1), (nat_lit 2), (nat_lit 3), (nat_lit 4), (nat_lit 5), (nat_lit 6), (nat_lit 7), (nat_lit 8), (nat_lit 9), (nat_lit 10)] (.asg (.nm (nat_lit 1)) (.o2 (.bin .add false) (.var (nat_lit 1)) (.on (.lst false) [(.on .tup [(.o1 .neg (.con (.int (.ofNat (nat_lit 6))))), (.con (.int (.ofNat (nat_lit 1))))]), (.on .tup [(.on .tup [(.con (.int (.ofNat (nat_lit 6)))), (.con (.int (.ofNat (nat_lit 1))))])])]))), .hid [(nat_lit 1), (nat_lit 2), (nat_lit 3), (nat_lit 4), (nat_lit 5), (nat_lit 6), (nat_lit 7), (nat_lit 8), (nat_lit 9), (nat_lit 10)] (.asg (.nm (nat_lit 2)) (.on (.lst false) [(.on .tup [(.con (.fn (nat_lit 38))), (.on .tup [(.var (nat_lit 7)), (.con (.int (.ofNat (nat_lit 1))))])]), (.on .tup [(.con (.fn (nat_lit 39))), (.on .tup [(.var (nat_lit 7))])]), (.on .tup [(.con (.fn (nat_lit 40))), (.on .tup [(.on .tup [(.con (.int (.ofNat (nat_lit 0)))), (.con (.int (.ofNat (nat_lit 1))))]), (.con (.int (.ofNat (nat_lit 1))))])])])), .hid [(nat_lit 1), (nat_lit 2), (nat_lit 3), (nat_lit 4), (nat_lit 5), (nat_lit 6), (nat_lit 7), (nat_lit 8), (nat_lit 9), (nat_lit 10)] (.asg (.nm (nat_lit 2)) (.o2 (.bin .add false) (.var (nat_lit 2)) (.on (.lst false) [(.on .tup [(.con (.fn (nat_lit 41))), (.on .tup [(.on .tup [(.con (.int (.ofNat (nat_lit 0)))), (.con (.int (.ofNat (nat_lit 1))))])])])]))), .hid [(nat_lit 1), (nat_lit 2), (nat_lit 3), (nat_lit 4), (nat_lit 5), (nat_lit 6), (nat_lit 7), (nat_lit 8), (nat_lit 9), (nat_lit 10)] (.asg (.nm (nat_lit 2)) (.o2 (.bin .add false) (.var (nat_lit 2)) (.on (.lst false) [(.on .tup [(.con (.fn (nat_lit 42))), (.on .tup [(.var (nat_lit 7)), (.var (nat_lit 7))])]), (.on .tup [(.con (.fn (nat_lit 43))), (.on .tup [(.var (nat_lit 7)), (.var (nat_lit 7))])]), (.on .tup [(.con (.fn (nat_lit 44))), (.on .tup [(.var (nat_lit 7)), (.var (nat_lit 7))])])]))), .hid [(nat_lit 1), (nat_lit 2), (nat_lit 3), (nat_lit 4), (nat_lit 5), (nat_lit 6), (nat_lit 7), (nat_lit 8), (nat_lit 9), (nat_lit 10)] (.asg (.nm (nat_lit 2)) (.o2 (.bin .add false) (.var (nat_lit 2)) (.on (.lst false) [(.on .tup [(.con (.fn (nat_lit 45))), (.on .tup [(.var (nat_lit 7))])]), (.on .tup [(.con (.fn (nat_lit 47))), (.on .tup [(.var (nat_lit 7))])]), (.on .tup [(.con (.fn (nat_lit 48))), (.on .tup [])]), (.on .tup [(.con (.fn (nat_lit 49))), (.on .tup [])])]))), .for_ (.nm (nat_lit 3)) .val [(.on (.sls false true false) [(.var (nat_lit 1)), (.o1 .ich (.call (nat_lit 51) [(.var (nat_lit 8)), (.con (.int (.ofNat (nat_lit 3))))])), (.con .non), (.con (.int (.ofNat (nat_lit 3))))])] [.hid [(nat_lit 1), (nat_lit 2), (nat_lit 3), (nat_lit 4), (nat_lit 5), (nat_lit 6), (nat_lit 7), (nat_lit 8), (nat_lit 9), (nat_lit 10)] (.asg (.nm (nat_lit 5)) (.lc false [(nat_lit 9), (nat_lit 10)] (.tp [(.nm (nat_lit 9)), (.nm (nat_lit 10))]) .val [(.var (nat_lit 2))] (.con (.bl true)) (.call (nat_lit 54) [(.var (nat_lit 9)), (.o2 (.bin .add false) (.on .tup [(.var (nat_lit 3))]) (.var (nat_lit 10)))]))), .hid [(nat_lit 1), (nat_lit 2), (nat_lit 3), (nat_lit 4), (nat_lit 5), (nat_lit 6), (nat_lit 7), (nat_lit 8), (nat_lit 9), (nat_lit 10)] (.ife (.o1 .not (.call (nat_lit 53) [(.var (nat_lit 5)), (.o2 (.bin .mul false) (.on (.lst false) [(.on (.lst false) [(.con (.str [(nat_lit 117), (nat_lit 110), (nat_lit 102), (nat_lit 105), (nat_lit 116)])), (.con (.bl true))])]) (.con (.int (.ofNat (nat_lit 11)))))])) [.ret (.con (.bl false))] [])], .hid [(nat_lit 6), (nat_lit 7), (nat_lit 8)] (.asg (.nm (nat_lit 4)) (.on (.lst false) [(.con .non), (.con (.int (.ofNat (nat_lit 3)))), (.con (.str [(nat_lit 48), (nat_lit 50)])), (.on .tup [(.con (.int (.ofNat (nat_lit 0)))), (.con (.int (.ofNat (nat_lit 2))))]), (.on .tup [(.on .tup [(.con (.int (.ofNat (nat_lit 0)))), (.con (.int (.ofNat (nat_lit 2))))]), (.on .tup [(.con (.int (.ofNat (nat_lit 0)))), (.con (.int (.ofNat (nat_lit 2))))])]), (.on .tup [(.on .tup [(.con (.int (.ofNat (nat_lit 0)))), (.con (.int (.ofNat (nat_lit 3))))]), (.on .tup [(.con (.int (.ofNat (nat_lit 0)))), (.con (.int (.ofNat (nat_lit 2))))])]), (.on .tup [(.on .tup [(.con (.int (.ofNat (nat_lit 2)))), (.con (.int (.ofNat (nat_lit 0))))])]), (.on .tup [(.on .tup [(.con (.int (.ofNat (nat_lit 0)))), (.con (.int (.ofNat (nat_lit 6))))])])])), .hid [(nat_lit 1), (nat_lit 2), (nat_lit 3), (nat_lit 4), (nat_lit 5), (nat_lit 6), (nat_lit 7), (nat_lit 8), (nat_lit 9), (nat_lit 10)] (.asg (.nm (nat_lit 4)) (.o2 (.bin .add false) (.var (nat_lit 4)) (.on (.lst false) [(.on .tup [(.on .tup [(.o1 .neg (.con (.int (.ofNat (nat_lit 1))))), (.con (.int (.ofNat (nat_lit 2))))])]), (.on .tup [(.on .tup [(.con (.int (.ofNat (nat_lit 0)))), (.con (.bl true))])]), (.on .tup [(.on .tup [(.con (.bl false)), (.con (.int (.ofNat (nat_lit 2))))])])]))), .hid [(nat_lit 1), (nat_lit 2), (nat_lit 3), (nat_lit 4), (nat_lit 5), (nat_lit 6), (nat_lit 7), (nat_lit 8), (nat_lit 9), (nat_lit 10)] (.asg (.nm (nat_lit 4)) (.o2 (.bin .add false) (.var (nat_lit 4)) (.on (.lst false) [(.on .tup [(.on .tup [(.con (.int (.ofNat (nat_lit 0)))), (.con (.int (.ofNat (nat_lit 0))))])]), (.on .tup [(.on .tup [(.con (.int (.ofNat (nat_lit 0)))), (.con (.int (.ofNat (nat_lit 2)))), (.con (.int (.ofNat (nat_lit 4))))])]), (.on .tup [(.on .tup [(.con (.int (.ofNat (nat_lit 0))))])]), (.on .tup [(.on .tup [(.con (.int (.ofNat (nat_lit 0)))), (.con .non)])]), (.on .tup [(.con .non)]), (.on .tup [(.on .tup [(.con (.int (.ofNat (nat_lit 0)))), (.con (.str [(nat_lit 50)]))])])]))), .hid [(nat_lit 1), (nat_lit 2), (nat_lit 3), (nat_lit 4), (nat_lit 5), (nat_lit 6), (nat_lit 7), (nat_lit 8), (nat_lit 9), (nat_lit 10)] (.asg (.nm (nat_lit 4)) (.o2 (.bin .add false) (.var (nat_lit 4)) (.on (.lst false) [(.on .tup [(.on .tup [(.con (.int (.ofNat (nat_lit 0)))), (.con (.int (.ofNat (nat_lit 1))))]), (.on .tup [(.con (.int (.ofNat (nat_lit 0)))), (.con (.int (.ofNat (nat_lit 2))))]), (.on .tup [(.con (.int (.ofNat (nat_lit 0)))), (.con (.int (.ofNat (nat_lit 1))))])])]))), .hid [(nat_lit 1), (nat_lit 2), (nat_lit 3), (nat_lit 4), (nat_lit 5), (nat_lit 6), (nat_lit 7), (nat_lit 8), (nat_lit 9), (nat_lit 10)] (.asg (.nm (nat_lit 5)) (.on (.lst false) [])), .for_ (.nm (nat_lit 3)) .val [(.on (.sls false true false) [(.var (nat_lit 4)), (.o1 .ich (.call (nat_lit 51) [(.var (nat_lit 8)), (.con (.int (.ofNat (nat_lit 2))))])), (.con .non), (.con (.int (.ofNat (nat_lit 2))))])] [.hid [(nat_lit 1), (nat_lit 2), (nat_lit 3), (nat_lit 4), (nat_lit 5), (nat_lit 6), (nat_lit 7), (nat_lit 8), (nat_lit 9), (nat_lit 10)] (.asg (.nm (nat_lit 5)) (.o2 (.bin .add false) (.var (nat_lit 5)) (.on (.lst false) [(.call (nat_lit 54) [(.con (.fn (nat_lit 38))), (.on .tup [(.var (nat_lit 6)), (.var (nat_lit 3)), (.con (.int (.ofNat (nat_lit 1))))])]), (.call (nat_lit 54) [(.con (.fn (nat_lit 39))), (.on .tup [(.var (nat_lit 6)), (.var (nat_lit 3))])])]))), .hid [(nat_lit 1), (nat_lit 2), (nat_lit 3), (nat_lit 4), (nat_lit 5), (nat_lit 6), (nat_lit 7), (nat_lit 8), (nat_lit 9), (nat_lit 10)] (.asg (.nm (nat_lit 5)) (.o2 (.bin .add false) (.var (nat_lit 5)) (.on (.lst false) [(.call (nat_lit 54) [(.con (.fn (nat_lit 45))), (.on .tup [(.var (nat_lit 6)), (.var (nat_lit 3))])])]))), .hid [(nat_lit 1), (nat_lit 2), (nat_lit 3), (nat_lit 4), (nat_lit 5), (nat_lit 6), (nat_lit 7), (nat_lit 8), (nat_lit 9), (nat_lit 10)] (.asg (.nm (nat_lit 5)) (.o2 (.bin .add false) (.var (nat_lit 5)) (.lc false [(nat_lit 9)] (.nm (nat_lit 9)) .val [(.on .tup [(.con (.fn (nat_lit 42))), (.con (.fn (nat_lit 43))), (.con (.fn (nat_lit 44)))])] (.con (.bl true)) (.call (nat_lit 54) [(.var (nat_lit 9)), (.on .tup [(.var (nat_lit 6)), (.var (nat_lit 3)), (.var (nat_lit 7))])])))), .hid [(nat_lit 1), (nat_lit 2), (nat_lit 3), (nat_lit 4), (nat_lit 5), (nat_lit 6), (nat_lit 7), (nat_lit 8), (nat_lit 9), (nat_lit 10)] (.asg (.nm (nat_lit 5)) (.o2 (.bin .add false) (.var (nat_lit 5)) (.lc false [(nat_lit 9)] (.nm (nat_lit 9)) .val [(.on .tup [(.con (.fn (nat_lit 42))), (.con (.fn (nat_lit 43))), (.con (.fn (nat_lit 44)))])] (.con (.bl true)) (.call (nat_lit 54) [(.var (nat_lit 9)), (.on .tup [(.var (nat_lit 6)), (.var (nat_lit 7)), (.var (nat_lit 3))])])))), .hid [(nat_lit 1), (nat_lit 2), (nat_lit 3), (nat_lit 4), (nat_lit 5), (nat_lit 6), (nat_lit 7), (nat_lit 8), (nat_lit 9), (nat_lit 10)] (.asg (.nm (nat_lit 5)) (.o2 (.bin .add false) (.var (nat_lit 5)) (.on (.lst false) [(.call (nat_lit 54) [(.con (.fn (nat_lit 47))), (.on .tup [(.var (nat_lit 6)), (.var (nat_lit 3))])])])))], .hid [(nat_lit 1), (nat_lit 2), (nat_lit 3), (nat_lit 4), (nat_lit 5), (nat_lit 6), (nat_lit 7), (nat_lit 8), (nat_lit 9), (nat_lit 10)] (.for_ (.nm (nat_lit 3)) .val [(.on (.lst false) [(.con .non), (.con (.int (.ofNat (nat_lit 3)))), (.con (.str [(nat_lit 48), (nat_lit 49)])), (.on .tup [(.con (.int (.ofNat (nat_lit 1)))), (.con (.int (.ofNat (nat_lit 0))))]), (.on .tup [(.con (.int (.ofNat (nat_lit 1)))), (.con (.int (.ofNat (nat_lit 1))))]), (.on .tup [(.con (.int (.ofNat (nat_lit 6))))]), (.on .tup [(.o1 .neg (.con (.int (.ofNat (nat_lit 1))))), (.con (.int (.ofNat (nat_lit 0))))]), (.on .tup [(.con (.int (.ofNat (nat_lit 0)))), (.con (.bl true))]), (.on .tup [(.con (.int (.ofNat (nat_lit 0)))), (.con .non)]), (.on .tup [(.on .tup [(.con (.int (.ofNat (nat_lit 0)))), (.con (.int (.ofNat (nat_lit 1))))])])])] [.asg (.nm (nat_lit 5)) (.o2 (.bin .add false) (.var (nat_lit 5)) (.on (.lst false) [(.call (nat_lit 54) [(.con (.fn (nat_lit 40))), (.on .tup [(.var (nat_lit 6)), (.var (nat_lit 3)), (.con (.int (.ofNat (nat_lit 1))))])]), (.call (nat_lit 54) [(.con (.fn (nat_lit 41))), (.on .tup [(.var (nat_lit 6)), (.var (nat_lit 3))])])]))]), .hid [(nat_lit 1), (nat_lit 2), (nat_lit 3), (nat_lit 4), (nat_lit 5), (nat_lit 6), (nat_lit 7), (nat_lit 8), (nat_lit 9), (nat_lit 10)] (.for_ (.nm (nat_lit 3)) .val [(.on (.lst false) [(.con .non), (.con (.str [(nat_lit 49)])), (.con (.bl true)), (.on .tup [(.con (.int (.ofNat (nat_lit 1))))]), (.on .tup [])])] [.asg (.nm (nat_lit 5)) (.o2 (.bin .add false) (.var (nat_lit 5)) (.on (.lst false) [(.call (nat_lit 54) [(.con (.fn (nat_lit 38))), (.on .tup [(.var (nat_lit 6)), (.var (nat_lit 7)), (.var (nat_lit 3))])]), (.call (nat_lit 54) [(.con (.fn (nat_lit 40))), (.on .tup [(.var (nat_lit 6)), (.on .tup [(.con (.int (.ofNat (nat_lit 0)))), (.con (.int (.ofNat (nat_lit 1))))]), (.var (nat_lit 3))])])]))]), .hid [(nat_lit 1), (nat_lit 2), (nat_lit 3), (nat_lit 4), (nat_lit 5), (nat_lit 6), (nat_lit 7), (nat_lit 8), (nat_lit 9), (nat_lit 10)] (.ife (.o1 .not (.call (nat_lit 53) [(.var (nat_lit 5)), (.o2 (.bin .mul false) (.on (.lst false) [(.on (.lst false) [(.con (.str [(nat_lit 117), (nat_lit 110), (nat_lit 102), (nat_lit 105), (nat_lit 116)])), (.con (.bl true))])]) (.o1 .len (.var (nat_lit 5))))])) [.ret (.con (.bl false))] []), .hid [(nat_lit 1), (nat_lit 2), (nat_lit 3), (nat_lit 4), (nat_lit 5), (nat_lit 6), (nat_lit 7), (nat_lit 8), (nat_lit 9), (nat_lit 10)] (.asg (.nm (nat_lit 5)) (.on (.lst false) [(.call (nat_lit 54) [(.con (.fn (nat_lit 38))), (.on .tup [(.on (.lst false) [(.con (.int (.ofNat (nat_lit 6)))), (.con (.int (.ofNat (nat_lit 1))))]), (.on (.lst false) [(.on (.lst false) [(.con (.int (.ofNat (nat_lit 0)))), (.con (.int (.ofNat (nat_lit 2))))]), (.on (.lst false) [(.con (.int (.ofNat (nat_lit 0)))), (.con (.int (.ofNat (nat_lit 3))))])]), (.con (.int (.ofNat (nat_lit 1))))])]), (.call (nat_lit 54) [(.con (.fn (nat_lit 47))), (.on .tup [(.var (nat_lit 6)), (.on (.lst false) [(.on (.lst false) [(.con (.int (.ofNat (nat_lit 3)))), (.con (.int (.ofNat (nat_lit 5))))])])])])])), .hid [(nat_lit 1), (nat_lit 2), (nat_lit 3), (nat_lit 4), (nat_lit 5), (nat_lit 6), (nat_lit 7), (nat_lit 8), (nat_lit 9), (nat_lit 10)] (.asg (.nm (nat_lit 5)) (.o2 (.bin .add false) (.var (nat_lit 5)) (.on (.lst false) [(.call (nat_lit 54) [(.con (.fn (nat_lit 48))), (.on .tup [(.on (.lst false) [(.con (.int (.ofNat (nat_lit 3)))), (.con (.int (.ofNat (nat_lit 1))))])])])]))), .hid [(nat_lit 1), (nat_lit 2), (nat_lit 3), (nat_lit 4), (nat_lit 5), (nat_lit 6), (nat_lit 7), (nat_lit 8), (nat_lit 9), (nat_lit 10)] (.asg (.nm (nat_lit 5)) (.o2 (.bin .add false) (.var (nat_lit 5)) (.on (.lst false) [(.call (nat_lit 54) [(.con (.fn (nat_lit 40))), (.on .tup [(.on (.lst false) [(.con (.int (.ofNat (nat_lit 6)))), (.con (.int (.ofNat (nat_lit 1))))]), (.on (.lst false) [(.con (.int (.ofNat (nat_lit 0)))), (.con (.int (.ofNat (nat_lit 5))))]), (.o1 .neg (.con (.int (.ofNat (nat_lit 1)))))])])]))), .hid [(nat_lit 1), (nat_lit 2), (nat_lit 3), (nat_lit 4), (nat_lit 5), (nat_lit 6), (nat_lit 7), (nat_lit 8), (nat_lit 9), (nat_lit 10)] (.asg (.nm (nat_lit 5)) (.o2 (.bin .add false) (.var (nat_lit 5)) (.on (.lst false) [(.call (nat_lit 54) [(.con (.fn (nat_lit 44))), (.on .tup [(.var (nat_lit 6)), (.var (nat_lit 7)), (.on (.lst false) [(.on (.lst false) [(.con (.int (.ofNat (nat_lit 1)))), (.con (.int (.ofNat (nat_lit 3))))]), (.on (.lst false) [(.con (.int (.ofNat (nat_lit 1)))), (.con (.int (.ofNat (nat_lit 4))))])])])])]))), .hid [(nat_lit 1), (nat_lit 2), (nat_lit 3), (nat_lit 4), (nat_lit 5), (nat_lit 6), (nat_lit 7), (nat_lit 8), (nat_lit 9), (nat_lit 10)] (.ret (.call (nat_lit 53) [(.var (nat_lit 5)), (.on (.lst false) [(.on .tup [(.on .tup [(.con (.int (.ofNat (nat_lit 1)))), (.con (.int (.ofNat (nat_lit 3))))]), (.on .tup [(.con (.int (.ofNat (nat_lit 1)))), (.con (.int (.ofNat (nat_lit 4))))])]), (.on .tup [(.on .tup [(.con (.int (.ofNat (nat_lit 0)))), (.con (.int (.ofNat (nat_lit 2))))])]), (.on (.lst false) [(.on .tup [])]), (.on .tup [(.con (.int (.ofNat (nat_lit 4)))), (.con (.int (.ofNat (nat_lit 5))))]), (.con (.bl true))])]))]
def e55 : Ent := ⟨(PySem.Str.ofString "law"), (nat_lit 55), [(PySem.Str.ofString "script")], [(PySem.Str.ofString "script"), (PySem.Str.ofString "odd"), (PySem.Str.ofString "doors_so"), (PySem.Str.ofString "own"), (PySem.Str.ofString "lines_so"), (PySem.Str.ofString "got"), (PySem.Str.ofString "six_so"), (PySem.Str.ofString "fan_so"), (PySem.Str.ofString "tin"), (PySem.Str.ofString "door_so"), (PySem.Str.ofString "last_so")], (nat_lit 1), (nat_lit 11), true, (nat_lit 0), false, false, b55⟩
def tr : TrE := (.node (some e0) (.node (some e1) (.node (some e3) (.node (some e7) (.node (some e15) (.node (some e31) .nil .nil) (.node (some e47) .nil .nil)) (.node (some e23) (.node (some e39) .nil .nil) (.node (some e55) .nil .nil))) (.node (some e11) (.node (some e19) (.node (some e35) .nil .nil) (.node (some e51) .nil .nil)) (.node (some e27) (.node (some e43) .nil .nil) .nil))) (.node (some e5) (.node (some e9) (.node (some e17) (.node (some e33) .nil .nil) (.node (some e49) .nil .nil)) (.node (some e25) (.node (some e41) .nil .nil) .nil)) (.node (some e13) (.node (some e21) (.node (some e37) .nil .nil) (.node (some e53) .nil .nil)) (.node (some e29) (.node (some e45) .nil .nil) .nil)))) (.node (some e2) (.node (some e4) (.node (some e8) (.node (some e16) (.node (some e32) .nil .nil) (.node (some e48) .nil .nil)) (.node (some e24) (.node (some e40) .nil .nil) .nil)) (.node (some e12) (.node (some e20) (.node (some e36) .nil .nil) (.node (some e52) .nil .nil)) (.node (some e28) (.node (some e44) .nil .nil) .nil))) (.node (some e6) (.node (some e10) (.node (some e18) (.node (some e34) .nil .nil) (.node (some e50) .nil .nil)) (.node (some e26) (.node (some e42) .nil .nil) .nil)) (.node (some e14) (.node (some e22) (.node (some e38) .nil .nil) (.node (some e54) .nil .nil)) (.node (some e30) (.node (some e46) .nil .nil) .nil)))))
def M : Md := { fns := [((PySem.Str.ofString "is_number"), (nat_lit 0), [(PySem.Str.ofString "thing")]), ((PySem.Str.ofString "is_long"), (nat_lit 1), [(PySem.Str.ofString "thing"), (PySem.Str.ofString "length")]), ((PySem.Str.ofString "tupled"), (nat_lit 2), [(PySem.Str.ofString "value")]), ((PySem.Str.ofString "ascends"), (nat_lit 3), [(PySem.Str.ofString "row")]), ((PySem.Str.ofString "set_of"), (nat_lit 4), [(PySem.Str.ofString "row")]), ((PySem.Str.ofString "are_numbers"), (nat_lit 5), [(PySem.Str.ofString "thing")]), ((PySem.Str.ofString "is_ring"), (nat_lit 6), [(PySem.Str.ofString "thing")]), ((PySem.Str.ofString "is_line_in"), (nat_lit 7), [(PySem.Str.ofString "ring"), (PySem.Str.ofString "thing")]), ((PySem.Str.ofString "are_lines_in"), (nat_lit 8), [(PySem.Str.ofString "ring"), (PySem.Str.ofString "thing")]), ((PySem.Str.ofString "sure_ring"), (nat_lit 9), [(PySem.Str.ofString "value")]), ((PySem.Str.ofString "sure_lines"), (nat_lit 10), [(PySem.Str.ofString "ring"), (PySem.Str.ofString "value")]), ((PySem.Str.ofString "sure_number"), (nat_lit 11), [(PySem.Str.ofString "value")]), ((PySem.Str.ofString "line_of"), (nat_lit 12), [(PySem.Str.ofString "one"), (PySem.Str.ofString "other")]), ((PySem.Str.ofString "chosen"), (nat_lit 13), [(PySem.Str.ofString "many"), (PySem.Str.ofString "few")]), ((PySem.Str.ofString "catalan"), (nat_lit 14), [(PySem.Str.ofString "number")]), ((PySem.Str.ofString "times_less"), (nat_lit 15), [(PySem.Str.ofString "one"), (PySem.Str.ofString "other"), (PySem.Str.ofString "first"), (PySem.Str.ofString "row"), (PySem.Str.ofString "ahead")]), ((PySem.Str.ofString "determinant"), (nat_lit 16), [(PySem.Str.ofString "table")]), ((PySem.Str.ofString "full_count"), (nat_lit 17), [(PySem.Str.ofString "ring")]), ((PySem.Str.ofString "lanes_in"), (nat_lit 18), [(PySem.Str.ofString "ring")]), ((PySem.Str.ofString "many_runs"), (nat_lit 19), [(PySem.Str.ofString "ring")]), ((PySem.Str.ofString "end_in"), (nat_lit 20), [(PySem.Str.ofString "ring"), (PySem.Str.ofString "run")]), ((PySem.Str.ofString "run_in"), (nat_lit 21), [(PySem.Str.ofString "ring"), (PySem.Str.ofString "run")]), ((PySem.Str.ofString "runs_in"), (nat_lit 22), [(PySem.Str.ofString "ring")]), ((PySem.Str.ofString "ties_in"), (nat_lit 23), [(PySem.Str.ofString "ring")]), ((PySem.Str.ofString "touches_in"), (nat_lit 24), [(PySem.Str.ofString "ring"), (PySem.Str.ofString "drawing"), (PySem.Str.ofString "back")]), ((PySem.Str.ofString "plain_in"), (nat_lit 25), [(PySem.Str.ofString "ring"), (PySem.Str.ofString "drawing")]), ((PySem.Str.ofString "crosses_in"), (nat_lit 26), [(PySem.Str.ofString "ring"), (PySem.Str.ofString "lot")]), ((PySem.Str.ofString "pairs_in"), (nat_lit 27), [(PySem.Str.ofString "ring"), (PySem.Str.ofString "lot")]), ((PySem.Str.ofString "exchanges_in"), (nat_lit 28), [(PySem.Str.ofString "ring"), (PySem.Str.ofString "lot")]), ((PySem.Str.ofString "led_in"), (nat_lit 29), [(PySem.Str.ofString "lot"), (PySem.Str.ofString "pair")]), ((PySem.Str.ofString "free_in"), (nat_lit 30), [(PySem.Str.ofString "ring"), (PySem.Str.ofString "lot"), (PySem.Str.ofString "full")]), ((PySem.Str.ofString "every_with"), (nat_lit 31), [(PySem.Str.ofString "ring"), (PySem.Str.ofString "lot")]), ((PySem.Str.ofString "sure_few"), (nat_lit 32), [(PySem.Str.ofString "ring")]), ((PySem.Str.ofString "turned_in"), (nat_lit 33), [(PySem.Str.ofString "ring"), (PySem.Str.ofString "lot"), (PySem.Str.ofString "many")]), ((PySem.Str.ofString "sure_points"), (nat_lit 34), [(PySem.Str.ofString "ring"), (PySem.Str.ofString "value")]), ((PySem.Str.ofString "mirrored_in"), (nat_lit 35), [(PySem.Str.ofString "ring"), (PySem.Str.ofString "lines")]), ((PySem.Str.ofString "leading_in"), (nat_lit 36), [(PySem.Str.ofString "ring"), (PySem.Str.ofString "lines"), (PySem.Str.ofString "other")]), ((PySem.Str.ofString "sure_pair"), (nat_lit 37), [(PySem.Str.ofString "ring"), (PySem.Str.ofString "lines"), (PySem.Str.ofString "other")]), ((PySem.Str.ofString "turned"), (nat_lit 38), [(PySem.Str.ofString "ring"), (PySem.Str.ofString "lines"), (PySem.Str.ofString "number")]), ((PySem.Str.ofString "mirrored"), (nat_lit 39), [(PySem.Str.ofString "ring"), (PySem.Str.ofString "lines")]), ((PySem.Str.ofString "points_turned"), (nat_lit 40), [(PySem.Str.ofString "ring"), (PySem.Str.ofString "points"), (PySem.Str.ofString "number")]), ((PySem.Str.ofString "points_mirrored"), (nat_lit 41), [(PySem.Str.ofString "ring"), (PySem.Str.ofString "points")]), ((PySem.Str.ofString "turns_to"), (nat_lit 42), [(PySem.Str.ofString "ring"), (PySem.Str.ofString "lines"), (PySem.Str.ofString "other")]), ((PySem.Str.ofString "mirrors_to"), (nat_lit 43), [(PySem.Str.ofString "ring"), (PySem.Str.ofString "lines"), (PySem.Str.ofString "other")]), ((PySem.Str.ofString "are_alike"), (nat_lit 44), [(PySem.Str.ofString "ring"), (PySem.Str.ofString "lines"), (PySem.Str.ofString "other")]), ((PySem.Str.ofString "like_itself"), (nat_lit 45), [(PySem.Str.ofString "ring"), (PySem.Str.ofString "lines")]), ((PySem.Str.ofString "least_turned"), (nat_lit 46), [(PySem.Str.ofString "ring"), (PySem.Str.ofString "lines")]), ((PySem.Str.ofString "least_alike"), (nat_lit 47), [(PySem.Str.ofString "ring"), (PySem.Str.ofString "lines")]), ((PySem.Str.ofString "kinds"), (nat_lit 48), [(PySem.Str.ofString "ring")]), ((PySem.Str.ofString "how_many_kinds"), (nat_lit 49), [(PySem.Str.ofString "ring")]), ((PySem.Str.ofString "_law_box"), (nat_lit 50), [(PySem.Str.ofString "script"), (PySem.Str.ofString "k")]), ((PySem.Str.ofString "_law_take"), (nat_lit 51), [(PySem.Str.ofString "tin"), (PySem.Str.ofString "below_so")]), ((PySem.Str.ofString "_law_cells"), (nat_lit 52), [(PySem.Str.ofString "script"), (PySem.Str.ofString "most_so")]), ((PySem.Str.ofString "_law_same"), (nat_lit 53), [(PySem.Str.ofString "got"), (PySem.Str.ofString "due")]), ((PySem.Str.ofString "_law_heard"), (nat_lit 54), [(PySem.Str.ofString "door_so"), (PySem.Str.ofString "goods_so")]), ((PySem.Str.ofString "law"), (nat_lit 55), [(PySem.Str.ofString "script")])], con := [((PySem.Str.ofString "MOST_crowds"), (.int (.ofNat (nat_lit 2000)))), ((PySem.Str.ofString "MOST_gaps"), (.int (.ofNat (nat_lit 2000))))], cls := [((PySem.Str.ofString "TooMany"), (nat_lit 10)), ((PySem.Str.ofString "Unfit"), (nat_lit 11))], nog := [(PySem.Str.ofString "ValueError"), (PySem.Str.ofString "abs"), (PySem.Str.ofString "all"), (PySem.Str.ofString "bool"), (PySem.Str.ofString "dict"), (PySem.Str.ofString "enumerate"), (PySem.Str.ofString "int"), (PySem.Str.ofString "isinstance"), (PySem.Str.ofString "len"), (PySem.Str.ofString "list"), (PySem.Str.ofString "max"), (PySem.Str.ofString "min"), (PySem.Str.ofString "range"), (PySem.Str.ofString "set"), (PySem.Str.ofString "sorted"), (PySem.Str.ofString "str"), (PySem.Str.ofString "tuple"), (PySem.Str.ofString "zip")], fld := fld, cb := cb }
def P : Nat → Option Fd := memP (PT cb tr) []
def lawN : Nat := (nat_lit 55)
end Mv.k74
end
end

section
set_option Elab.async false
set_option linter.all false
set_option maxRecDepth 100000
set_option maxHeartbeats 4000000
/-! Hid: what hidden statements do where cells stand they do where none stands. -/
noncomputable section
namespace Mv
def liC (cs : List (Nat × Ob)) (r : Fl) : Fl := Fl.rec (motive := fun _ => Fl) (fun e s => .nx e ⟨s.nx, cs⟩) (fun d s => .rt d ⟨s.nx, cs⟩) (fun e s => .bk e ⟨s.nx, cs⟩) (fun c p e s => .exc c p e ⟨s.nx, cs⟩) (fun n => .bad n) r
def clF (r : Fl) : Prop := match r with | .nx _ s => s.cs = [] | .rt _ s => s.cs = [] | .bk _ s => s.cs = [] | .exc _ _ _ s => s.cs = [] | .bad _ => True
structure HL (f : ExT) : Prop where
  l : ∀ e n cs, f e ⟨n, cs⟩ = liC cs (f e ⟨n, []⟩)
  z : ∀ e n, clF (f e ⟨n, []⟩)
theorem hl_hid (ks : List Nat) (f : ExT) : HL (xHid ks f) := by
  refine ⟨fun e n cs => ?_, fun e n => ?_⟩
  · show hidF ⟨n, cs⟩ (f (keepE ks 0 e) ⟨n, []⟩) = liC cs (hidF ⟨n, []⟩ (f (keepE ks 0 e) ⟨n, []⟩))
    cases f (keepE ks 0 e) ⟨n, []⟩ <;> rfl
  · show clF (hidF ⟨n, []⟩ (f (keepE ks 0 e) ⟨n, []⟩))
    cases f (keepE ks 0 e) ⟨n, []⟩ <;> first | rfl | exact True.intro
theorem hl_pas : HL xPas := ⟨fun e n cs => rfl, fun e n => rfl⟩
theorem liC_seq {r : Fl} {cs : List (Nat × Ob)} {g : Env → St → Fl} (hr : clF r) (hl : ∀ e n cs, g e ⟨n, cs⟩ = liC cs (g e ⟨n, []⟩)) : (liC cs r).seq g = liC cs (r.seq g) := by
  cases r with
  | nx e s =>
    obtain ⟨n, c⟩ := s
    have hr : c = [] := hr
    subst hr
    exact hl e n cs
  | rt d s => rfl
  | bk e s => rfl
  | exc c p e s => rfl
  | bad n => rfl
theorem clF_seq {r : Fl} {g : Env → St → Fl} (hr : clF r) (hz : ∀ e n, clF (g e ⟨n, []⟩)) : clF (r.seq g) := by
  cases r with
  | nx e s =>
    obtain ⟨n, c⟩ := s
    have hr : c = [] := hr
    subst hr
    exact hz e n
  | rt d s => exact hr
  | bk e s => exact hr
  | exc c p e s => exact hr
  | bad n => exact True.intro
theorem hl_seq {f g : ExT} (F : HL f) (G : HL g) : HL (xSeq f g) := by
  refine ⟨fun e n cs => ?_, fun e n => clF_seq (F.z e n) G.z⟩
  show (f e ⟨n, cs⟩).seq g = liC cs ((f e ⟨n, []⟩).seq g)
  rw [F.l, liC_seq (F.z e n) G.l]
theorem liC_turn {r : Fl} {cs : List (Nat × Ob)} {g : Env → St → Fl} (hr : clF r) (hl : ∀ e n cs, g e ⟨n, cs⟩ = liC cs (g e ⟨n, []⟩)) : turnF (liC cs r) g = liC cs (turnF r g) := by
  cases r with
  | nx e s =>
    obtain ⟨n, c⟩ := s
    have hr : c = [] := hr
    subst hr
    exact hl e n cs
  | rt d s => rfl
  | bk e s => rfl
  | exc c p e s => rfl
  | bad n => rfl
theorem clF_turn {r : Fl} {g : Env → St → Fl} (hr : clF r) (hz : ∀ e n, clF (g e ⟨n, []⟩)) : clF (turnF r g) := by
  cases r with
  | nx e s =>
    obtain ⟨n, c⟩ := s
    have hr : c = [] := hr
    subst hr
    exact hz e n
  | rt d s => exact hr
  | bk e s => exact hr
  | exc c p e s => exact hr
  | bad n => exact True.intro
theorem hl_loop {F : D → ExT} (h : ∀ d, HL (F d)) : ∀ l, HL (loopL F l)
  | [] => ⟨fun e n cs => rfl, fun e n => rfl⟩
  | d :: r => by
    have ih := hl_loop h r
    refine ⟨fun e n cs => ?_, fun e n => clF_turn ((h d).z e n) ih.z⟩
    show turnF (F d e ⟨n, cs⟩) (loopL F r) = liC cs (turnF (F d e ⟨n, []⟩) (loopL F r))
    rw [(h d).l, liC_turn ((h d).z e n) ih.l]
theorem hl_turn {i : Nat} {b : ExT} (h : HL b) (d : D) : HL (forTurn (.nm i) b d) := ⟨fun e n cs => h.l (setE e i d) n cs, fun e n => h.z (setE e i d) n⟩
variable {cb : Nat → Nat} {cl : Cl}
theorem denS_hid {ks : List Nat} {a : Sm} : denS cb cl (.hid ks a) = xHid ks (denS cb cl a) := rfl
theorem hl_blk : ∀ {l : List Sm}, (∀ a ∈ l, HL (denS cb cl a)) → HL (denB cb cl l)
  | [], _ => hl_pas
  | a :: r, h => hl_seq (h a List.mem_cons_self) (hl_blk fun x hx => h x (List.mem_cons_of_mem _ hx))
def isHid : Sm → Bool
  | .hid _ _ => true
  | _ => false
theorem hl_hids {l : List Sm} (h : l.all isHid = true) : HL (denB cb cl l) := hl_blk fun a ha => by
  have h := List.all_eq_true.mp h a ha
  cases a <;> first | exact hl_hid _ _ | cases h
theorem denB_app : ∀ (a b : List Sm) (e : Env) (s : St), denB cb cl (a ++ b) e s = (denB cb cl a e s).seq (denB cb cl b)
  | [], b, e, s => rfl
  | x :: a, b, e, s => by
    show (denS cb cl x e s).seq (denB cb cl (a ++ b)) = ((denS cb cl x e s).seq (denB cb cl a)).seq (denB cb cl b)
    cases denS cb cl x e s with
    | nx e s => exact denB_app a b e s
    | rt d s => rfl
    | bk e s => rfl
    | exc c p e s => rfl
    | bad n => rfl
theorem denB_hidE {ks : List Nat} {a : Sm} {r : List Sm} {e e' : Env} {s : St} (h : keepE ks 0 e = keepE ks 0 e') : denB cb cl (.hid ks a :: r) e s = denB cb cl (.hid ks a :: r) e' s := by
  show (hidF s (denS cb cl a (keepE ks 0 e) ⟨s.nx, []⟩)).seq (denB cb cl r) = (hidF s (denS cb cl a (keepE ks 0 e') ⟨s.nx, []⟩)).seq (denB cb cl r)
  rw [h]
theorem for_lst {i : Nat} {es : EsT} {b : ExT} {e : Env} {s s' : St} {l : List D} (h : es e s = .ok [.lst l] s') : xFor (.nm i) .val es b e s = (loopL (forTurn (.nm i) b) l e s').seq fun e s => .nx e s := by
  show (es e s).bnf e _ = _
  rw [h]; rfl
theorem seq_eta (r : Fl) : (r.seq fun e s => .nx e s) = r := by cases r <;> rfl
/-- the run goes on, with no cell, its counter at n -/
def okF (n : Nat) (r : Fl) : Bool := match r with
  | .nx _ s => Nat.beq s.nx n && s.cs.isEmpty
  | _ => false
def envF (r : Fl) : Env := match r with
  | .nx e _ => e
  | _ => []
theorem st_eta {s : St} {n : Nat} (h : (Nat.beq s.nx n && s.cs.isEmpty) = true) : s = ⟨n, []⟩ := by
  obtain ⟨m, c⟩ := s
  have h := (Bool.and_eq_true _ _).mp h
  have h1 : m = n := Nat.eq_of_beq_eq_true h.1
  have h2 : c = [] := by simpa using h.2
  rw [h1, h2]
theorem okF_ok {n : Nat} {r : Fl} (h : okF n r = true) : r = .nx (envF r) ⟨n, []⟩ := by
  unfold okF at h
  split at h
  · rename_i e s
    rw [st_eta h]; rfl
  · cases h
def sqO (a b : Option D) : Bool := match a with | none => (match b with | none => true | _ => false) | some d => (match b with | some e => sqd d e | _ => false)
def sqE : Env → Env → Bool
  | [], b => (match b with | [] => true | _ => false)
  | a :: r, b => (match b with | c :: t => cond (sqO a c) (sqE r t) false | [] => false)
theorem sqE_ok : ∀ {a b : Env}, sqE a b = true → a = b
  | [], b, h => by cases b with | nil => rfl | cons _ _ => cases h
  | a :: r, b, h => by
    cases b with
    | nil => cases h
    | cons c t =>
      have h := cond_eq_true (show cond (sqO a c) (sqE r t) false = true from h)
      have e1 : a = c := by
        have h1 := h.1
        cases a with
        | none => cases c with | none => rfl | some _ => cases h1
        | some d => cases c with | none => cases h1 | some e => rw [sqd_ok (show sqd d e = true from h1)]
      rw [e1, sqE_ok h.2]
/-- the run goes on, and what these names hold is as told -/
def okE (ks : List Nat) (K : Env) (n : Nat) (r : Fl) : Bool := match r with
  | .nx e s => Nat.beq s.nx n && s.cs.isEmpty && sqE (keepE ks 0 e) K
  | _ => false
theorem okE_ok {ks : List Nat} {K : Env} {n : Nat} {r : Fl} (h : okE ks K n r = true) : ∃ e, r = .nx e ⟨n, []⟩ ∧ keepE ks 0 e = K := by
  unfold okE at h
  split at h
  · rename_i e s
    have h := (Bool.and_eq_true _ _).mp h
    exact ⟨e, by rw [st_eta h.1], sqE_ok h.2⟩
  · cases h
def okR (r : Fl) : Bool := match r with
  | .rt d s => sqd d (.bl true)
  | _ => false
theorem okR_ok {r : Fl} (h : okR r = true) : ∃ s, r = .rt (.bl true) s := by
  unfold okR at h
  split at h
  · rename_i d s
    exact ⟨s, by rw [sqd_ok h]⟩
  · cases h
def isSo (e : Option D) (d : D) : Bool := match e with | some x => sqd x d | none => false
theorem isSo_ok {e : Option D} {d : D} (h : isSo e d = true) : e = some d := by
  unfold isSo at h
  split at h
  · rw [sqd_ok h]
  · cases h
/-- x[take(tin, c)::k] -/
theorem hdr {e : Env} {s s' : St} {i j t c k m d : Nat} {l : List D} (hi : getE e i = some (.lst l)) (hj : getE e j = some (.loc m)) (h3 : cl t [.loc m, .int (.ofNat c)] s = .ok (.int (.ofNat d)) s') (hk : ieqb (.ofNat k) (.ofNat 0) = false) (hm : Nat.ble (stpL l (some (.ofNat d)) none (.ofNat k)).length 16777216 = true) :
    dens cb cl [.on (.sls false true false) [.var i, .o1 .ich (.call t [.var j, .con (.int (.ofNat c))]), .con .non, .con (.int (.ofNat k))]] e s = .ok [.lst (stpL l (some (.ofNat d)) none (.ofNat k))] s' := by
  simp only [dens_cons, dens_nil, den_on, den_var, den_o1, den_con, den_call, esC, esN, en, isDsp, cond_false, cond_true, eVar, eCon, Mv.e1, eCall, hi, hj, obnd_some, bnd_ok, bns_ok, rbnd_ok, rbns_ok, h3]
  show (pSls false true false (.lst l) (.int (.ofNat d)) .non (.int (.ofNat k)) s').bns _ = _
  unfold pSls
  have sq : sqv s' (D.lst l) = some l := rfl
  simp only [optI, cond_true, cond_false, hk, lqv, newL, sq, hm]
  rfl
def lstO (e : Option D) : List D := match e with | some (.lst l) => l | _ => []
def isLs (e : Option D) : Bool := match e with | some (.lst _) => true | _ => false
theorem isLs_ok {e : Option D} (h : isLs e = true) : e = some (.lst (lstO e)) := by
  unfold isLs at h
  split at h
  · rfl
  · cases h
end Mv
end
end

section
set_option Elab.async false
set_option linter.all false
set_option maxRecDepth 1000000
set_option maxHeartbeats 8000000
noncomputable section
namespace Mv.k74
theorem pc : P 52 = some ⟨2, 6, true, 1024, false, false, fun cl => denB cb cl cellsB, fun _ _ => none⟩ := Eq.refl _
theorem pb : P 50 = some ⟨2, 3, false, 0, false, false, fun cl => denB cb cl (boxB 5329074), fun _ _ => none⟩ := Eq.refl _
theorem pt : P 51 = some ⟨2, 6, true, 0, false, false, fun cl => denB cb cl takeB, fun _ _ => none⟩ := Eq.refl _
theorem pL : P 55 = some (fdOf cb e55) := Eq.refl _
theorem stg : Stg (PT cb tr) P := .base
def CL : Cl := callN P 57
def bS : Sm := (.asg (.tp [(.nm (nat_lit 6)), (.nm (nat_lit 7)), (.nm (nat_lit 8))]) (.on .tup [(.on .tup [(.con (.int (.ofNat (nat_lit 6)))), (.con (.int (.ofNat (nat_lit 1))))]), (.on .tup [(.on .tup [(.con (.int (.ofNat (nat_lit 0)))), (.con (.int (.ofNat (nat_lit 2))))]), (.on .tup [(.con (.int (.ofNat (nat_lit 0)))), (.con (.int (.ofNat (nat_lit 3))))])]), (.call (nat_lit 50) [(.call (nat_lit 52) [(.var (nat_lit 0)), (.con (.int (.ofNat (nat_lit 1))))]), (.con (.int (.ofNat (nat_lit 0))))])]))
def bA : List Sm := [(.hid [(nat_lit 1), (nat_lit 2), (nat_lit 3), (nat_lit 4), (nat_lit 5), (nat_lit 6), (nat_lit 7), (nat_lit 8), (nat_lit 9), (nat_lit 10)] (.asg (.nm (nat_lit 1)) (.on (.lst false) [(.con .non), (.on .tup []), (.on .tup [(.con (.int (.ofNat (nat_lit 6))))]), (.on .tup [(.con (.int (.ofNat (nat_lit 6)))), (.con (.int (.ofNat (nat_lit 1)))), (.con (.int (.ofNat (nat_lit 1))))]), (.on .tup [(.con (.int (.ofNat (nat_lit 6)))), (.con (.int (.ofNat (nat_lit 0))))]), (.on .tup [(.con (.int (.ofNat (nat_lit 2)))), (.con (.int (.ofNat (nat_lit 1))))]), (.on .tup [(.con (.int (.ofNat (nat_lit 6)))), (.con (.int (.ofNat (nat_lit 3))))]), (.on .tup [(.con (.int (.ofNat (nat_lit 6)))), (.con (.bl true))]), (.on .tup [(.con (.int (.ofNat (nat_lit 6)))), (.con .non)]), (.con (.str [(nat_lit 54), (nat_lit 49)])), (.con (.int (.ofNat (nat_lit 6)))), (.on .tup [(.con (.str [(nat_lit 54)])), (.con (.int (.ofNat (nat_lit 1))))])]))),
  (.hid [(nat_lit 1), (nat_lit 2), (nat_lit 3), (nat_lit 4), (nat_lit 5), (nat_lit 6), (nat_lit 7), (nat_lit 8), (nat_lit 9), (nat_lit 10)] (.asg (.nm (nat_lit 1)) (.o2 (.bin .add false) (.var (nat_lit 1)) (.on (.lst false) [(.on .tup [(.o1 .neg (.con (.int (.ofNat (nat_lit 6))))), (.con (.int (.ofNat (nat_lit 1))))]), (.on .tup [(.on .tup [(.con (.int (.ofNat (nat_lit 6)))), (.con (.int (.ofNat (nat_lit 1))))])])])))),
  (.hid [(nat_lit 1), (nat_lit 2), (nat_lit 3), (nat_lit 4), (nat_lit 5), (nat_lit 6), (nat_lit 7), (nat_lit 8), (nat_lit 9), (nat_lit 10)] (.asg (.nm (nat_lit 2)) (.on (.lst false) [(.on .tup [(.con (.fn (nat_lit 38))), (.on .tup [(.var (nat_lit 7)), (.con (.int (.ofNat (nat_lit 1))))])]), (.on .tup [(.con (.fn (nat_lit 39))), (.on .tup [(.var (nat_lit 7))])]), (.on .tup [(.con (.fn (nat_lit 40))), (.on .tup [(.on .tup [(.con (.int (.ofNat (nat_lit 0)))), (.con (.int (.ofNat (nat_lit 1))))]), (.con (.int (.ofNat (nat_lit 1))))])])]))),
  (.hid [(nat_lit 1), (nat_lit 2), (nat_lit 3), (nat_lit 4), (nat_lit 5), (nat_lit 6), (nat_lit 7), (nat_lit 8), (nat_lit 9), (nat_lit 10)] (.asg (.nm (nat_lit 2)) (.o2 (.bin .add false) (.var (nat_lit 2)) (.on (.lst false) [(.on .tup [(.con (.fn (nat_lit 41))), (.on .tup [(.on .tup [(.con (.int (.ofNat (nat_lit 0)))), (.con (.int (.ofNat (nat_lit 1))))])])])])))),
  (.hid [(nat_lit 1), (nat_lit 2), (nat_lit 3), (nat_lit 4), (nat_lit 5), (nat_lit 6), (nat_lit 7), (nat_lit 8), (nat_lit 9), (nat_lit 10)] (.asg (.nm (nat_lit 2)) (.o2 (.bin .add false) (.var (nat_lit 2)) (.on (.lst false) [(.on .tup [(.con (.fn (nat_lit 42))), (.on .tup [(.var (nat_lit 7)), (.var (nat_lit 7))])]), (.on .tup [(.con (.fn (nat_lit 43))), (.on .tup [(.var (nat_lit 7)), (.var (nat_lit 7))])]), (.on .tup [(.con (.fn (nat_lit 44))), (.on .tup [(.var (nat_lit 7)), (.var (nat_lit 7))])])])))),
  (.hid [(nat_lit 1), (nat_lit 2), (nat_lit 3), (nat_lit 4), (nat_lit 5), (nat_lit 6), (nat_lit 7), (nat_lit 8), (nat_lit 9), (nat_lit 10)] (.asg (.nm (nat_lit 2)) (.o2 (.bin .add false) (.var (nat_lit 2)) (.on (.lst false) [(.on .tup [(.con (.fn (nat_lit 45))), (.on .tup [(.var (nat_lit 7))])]), (.on .tup [(.con (.fn (nat_lit 47))), (.on .tup [(.var (nat_lit 7))])]), (.on .tup [(.con (.fn (nat_lit 48))), (.on .tup [])]), (.on .tup [(.con (.fn (nat_lit 49))), (.on .tup [])])]))))]
def bB : List Sm := [(.hid [(nat_lit 6), (nat_lit 7), (nat_lit 8)] (.asg (.nm (nat_lit 4)) (.on (.lst false) [(.con .non), (.con (.int (.ofNat (nat_lit 3)))), (.con (.str [(nat_lit 48), (nat_lit 50)])), (.on .tup [(.con (.int (.ofNat (nat_lit 0)))), (.con (.int (.ofNat (nat_lit 2))))]), (.on .tup [(.on .tup [(.con (.int (.ofNat (nat_lit 0)))), (.con (.int (.ofNat (nat_lit 2))))]), (.on .tup [(.con (.int (.ofNat (nat_lit 0)))), (.con (.int (.ofNat (nat_lit 2))))])]), (.on .tup [(.on .tup [(.con (.int (.ofNat (nat_lit 0)))), (.con (.int (.ofNat (nat_lit 3))))]), (.on .tup [(.con (.int (.ofNat (nat_lit 0)))), (.con (.int (.ofNat (nat_lit 2))))])]), (.on .tup [(.on .tup [(.con (.int (.ofNat (nat_lit 2)))), (.con (.int (.ofNat (nat_lit 0))))])]), (.on .tup [(.on .tup [(.con (.int (.ofNat (nat_lit 0)))), (.con (.int (.ofNat (nat_lit 6))))])])]))),
  (.hid [(nat_lit 1), (nat_lit 2), (nat_lit 3), (nat_lit 4), (nat_lit 5), (nat_lit 6), (nat_lit 7), (nat_lit 8), (nat_lit 9), (nat_lit 10)] (.asg (.nm (nat_lit 4)) (.o2 (.bin .add false) (.var (nat_lit 4)) (.on (.lst false) [(.on .tup [(.on .tup [(.o1 .neg (.con (.int (.ofNat (nat_lit 1))))), (.con (.int (.ofNat (nat_lit 2))))])]), (.on .tup [(.on .tup [(.con (.int (.ofNat (nat_lit 0)))), (.con (.bl true))])]), (.on .tup [(.on .tup [(.con (.bl false)), (.con (.int (.ofNat (nat_lit 2))))])])])))),
  (.hid [(nat_lit 1), (nat_lit 2), (nat_lit 3), (nat_lit 4), (nat_lit 5), (nat_lit 6), (nat_lit 7), (nat_lit 8), (nat_lit 9), (nat_lit 10)] (.asg (.nm (nat_lit 4)) (.o2 (.bin .add false) (.var (nat_lit 4)) (.on (.lst false) [(.on .tup [(.on .tup [(.con (.int (.ofNat (nat_lit 0)))), (.con (.int (.ofNat (nat_lit 0))))])]), (.on .tup [(.on .tup [(.con (.int (.ofNat (nat_lit 0)))), (.con (.int (.ofNat (nat_lit 2)))), (.con (.int (.ofNat (nat_lit 4))))])]), (.on .tup [(.on .tup [(.con (.int (.ofNat (nat_lit 0))))])]), (.on .tup [(.on .tup [(.con (.int (.ofNat (nat_lit 0)))), (.con .non)])]), (.on .tup [(.con .non)]), (.on .tup [(.on .tup [(.con (.int (.ofNat (nat_lit 0)))), (.con (.str [(nat_lit 50)]))])])])))),
  (.hid [(nat_lit 1), (nat_lit 2), (nat_lit 3), (nat_lit 4), (nat_lit 5), (nat_lit 6), (nat_lit 7), (nat_lit 8), (nat_lit 9), (nat_lit 10)] (.asg (.nm (nat_lit 4)) (.o2 (.bin .add false) (.var (nat_lit 4)) (.on (.lst false) [(.on .tup [(.on .tup [(.con (.int (.ofNat (nat_lit 0)))), (.con (.int (.ofNat (nat_lit 1))))]), (.on .tup [(.con (.int (.ofNat (nat_lit 0)))), (.con (.int (.ofNat (nat_lit 2))))]), (.on .tup [(.con (.int (.ofNat (nat_lit 0)))), (.con (.int (.ofNat (nat_lit 1))))])])])))),
  (.hid [(nat_lit 1), (nat_lit 2), (nat_lit 3), (nat_lit 4), (nat_lit 5), (nat_lit 6), (nat_lit 7), (nat_lit 8), (nat_lit 9), (nat_lit 10)] (.asg (.nm (nat_lit 5)) (.on (.lst false) [])))]
def bC : List Sm := [(.hid [(nat_lit 1), (nat_lit 2), (nat_lit 3), (nat_lit 4), (nat_lit 5), (nat_lit 6), (nat_lit 7), (nat_lit 8), (nat_lit 9), (nat_lit 10)] (.for_ (.nm (nat_lit 3)) .val [(.on (.lst false) [(.con .non), (.con (.int (.ofNat (nat_lit 3)))), (.con (.str [(nat_lit 48), (nat_lit 49)])), (.on .tup [(.con (.int (.ofNat (nat_lit 1)))), (.con (.int (.ofNat (nat_lit 0))))]), (.on .tup [(.con (.int (.ofNat (nat_lit 1)))), (.con (.int (.ofNat (nat_lit 1))))]), (.on .tup [(.con (.int (.ofNat (nat_lit 6))))]), (.on .tup [(.o1 .neg (.con (.int (.ofNat (nat_lit 1))))), (.con (.int (.ofNat (nat_lit 0))))]), (.on .tup [(.con (.int (.ofNat (nat_lit 0)))), (.con (.bl true))]), (.on .tup [(.con (.int (.ofNat (nat_lit 0)))), (.con .non)]), (.on .tup [(.on .tup [(.con (.int (.ofNat (nat_lit 0)))), (.con (.int (.ofNat (nat_lit 1))))])])])] [(.asg (.nm (nat_lit 5)) (.o2 (.bin .add false) (.var (nat_lit 5)) (.on (.lst false) [(.call (nat_lit 54) [(.con (.fn (nat_lit 40))), (.on .tup [(.var (nat_lit 6)), (.var (nat_lit 3)), (.con (.int (.ofNat (nat_lit 1))))])]), (.call (nat_lit 54) [(.con (.fn (nat_lit 41))), (.on .tup [(.var (nat_lit 6)), (.var (nat_lit 3))])])])))])),
  (.hid [(nat_lit 1), (nat_lit 2), (nat_lit 3), (nat_lit 4), (nat_lit 5), (nat_lit 6), (nat_lit 7), (nat_lit 8), (nat_lit 9), (nat_lit 10)] (.for_ (.nm (nat_lit 3)) .val [(.on (.lst false) [(.con .non), (.con (.str [(nat_lit 49)])), (.con (.bl true)), (.on .tup [(.con (.int (.ofNat (nat_lit 1))))]), (.on .tup [])])] [(.asg (.nm (nat_lit 5)) (.o2 (.bin .add false) (.var (nat_lit 5)) (.on (.lst false) [(.call (nat_lit 54) [(.con (.fn (nat_lit 38))), (.on .tup [(.var (nat_lit 6)), (.var (nat_lit 7)), (.var (nat_lit 3))])]), (.call (nat_lit 54) [(.con (.fn (nat_lit 40))), (.on .tup [(.var (nat_lit 6)), (.on .tup [(.con (.int (.ofNat (nat_lit 0)))), (.con (.int (.ofNat (nat_lit 1))))]), (.var (nat_lit 3))])])])))])),
  (.hid [(nat_lit 1), (nat_lit 2), (nat_lit 3), (nat_lit 4), (nat_lit 5), (nat_lit 6), (nat_lit 7), (nat_lit 8), (nat_lit 9), (nat_lit 10)] (.ife (.o1 .not (.call (nat_lit 53) [(.var (nat_lit 5)), (.o2 (.bin .mul false) (.on (.lst false) [(.on (.lst false) [(.con (.str [(nat_lit 117), (nat_lit 110), (nat_lit 102), (nat_lit 105), (nat_lit 116)])), (.con (.bl true))])]) (.o1 .len (.var (nat_lit 5))))])) [(.ret (.con (.bl false)))] [])),
  (.hid [(nat_lit 1), (nat_lit 2), (nat_lit 3), (nat_lit 4), (nat_lit 5), (nat_lit 6), (nat_lit 7), (nat_lit 8), (nat_lit 9), (nat_lit 10)] (.asg (.nm (nat_lit 5)) (.on (.lst false) [(.call (nat_lit 54) [(.con (.fn (nat_lit 38))), (.on .tup [(.on (.lst false) [(.con (.int (.ofNat (nat_lit 6)))), (.con (.int (.ofNat (nat_lit 1))))]), (.on (.lst false) [(.on (.lst false) [(.con (.int (.ofNat (nat_lit 0)))), (.con (.int (.ofNat (nat_lit 2))))]), (.on (.lst false) [(.con (.int (.ofNat (nat_lit 0)))), (.con (.int (.ofNat (nat_lit 3))))])]), (.con (.int (.ofNat (nat_lit 1))))])]), (.call (nat_lit 54) [(.con (.fn (nat_lit 47))), (.on .tup [(.var (nat_lit 6)), (.on (.lst false) [(.on (.lst false) [(.con (.int (.ofNat (nat_lit 3)))), (.con (.int (.ofNat (nat_lit 5))))])])])])]))),
  (.hid [(nat_lit 1), (nat_lit 2), (nat_lit 3), (nat_lit 4), (nat_lit 5), (nat_lit 6), (nat_lit 7), (nat_lit 8), (nat_lit 9), (nat_lit 10)] (.asg (.nm (nat_lit 5)) (.o2 (.bin .add false) (.var (nat_lit 5)) (.on (.lst false) [(.call (nat_lit 54) [(.con (.fn (nat_lit 48))), (.on .tup [(.on (.lst false) [(.con (.int (.ofNat (nat_lit 3)))), (.con (.int (.ofNat (nat_lit 1))))])])])])))),
  (.hid [(nat_lit 1), (nat_lit 2), (nat_lit 3), (nat_lit 4), (nat_lit 5), (nat_lit 6), (nat_lit 7), (nat_lit 8), (nat_lit 9), (nat_lit 10)] (.asg (.nm (nat_lit 5)) (.o2 (.bin .add false) (.var (nat_lit 5)) (.on (.lst false) [(.call (nat_lit 54) [(.con (.fn (nat_lit 40))), (.on .tup [(.on (.lst false) [(.con (.int (.ofNat (nat_lit 6)))), (.con (.int (.ofNat (nat_lit 1))))]), (.on (.lst false) [(.con (.int (.ofNat (nat_lit 0)))), (.con (.int (.ofNat (nat_lit 5))))]), (.o1 .neg (.con (.int (.ofNat (nat_lit 1)))))])])])))),
  (.hid [(nat_lit 1), (nat_lit 2), (nat_lit 3), (nat_lit 4), (nat_lit 5), (nat_lit 6), (nat_lit 7), (nat_lit 8), (nat_lit 9), (nat_lit 10)] (.asg (.nm (nat_lit 5)) (.o2 (.bin .add false) (.var (nat_lit 5)) (.on (.lst false) [(.call (nat_lit 54) [(.con (.fn (nat_lit 44))), (.on .tup [(.var (nat_lit 6)), (.var (nat_lit 7)), (.on (.lst false) [(.on (.lst false) [(.con (.int (.ofNat (nat_lit 1)))), (.con (.int (.ofNat (nat_lit 3))))]), (.on (.lst false) [(.con (.int (.ofNat (nat_lit 1)))), (.con (.int (.ofNat (nat_lit 4))))])])])])])))),
  (.hid [(nat_lit 1), (nat_lit 2), (nat_lit 3), (nat_lit 4), (nat_lit 5), (nat_lit 6), (nat_lit 7), (nat_lit 8), (nat_lit 9), (nat_lit 10)] (.ret (.call (nat_lit 53) [(.var (nat_lit 5)), (.on (.lst false) [(.on .tup [(.on .tup [(.con (.int (.ofNat (nat_lit 1)))), (.con (.int (.ofNat (nat_lit 3))))]), (.on .tup [(.con (.int (.ofNat (nat_lit 1)))), (.con (.int (.ofNat (nat_lit 4))))])]), (.on .tup [(.on .tup [(.con (.int (.ofNat (nat_lit 0)))), (.con (.int (.ofNat (nat_lit 2))))])]), (.on (.lst false) [(.on .tup [])]), (.on .tup [(.con (.int (.ofNat (nat_lit 4)))), (.con (.int (.ofNat (nat_lit 5))))]), (.con (.bl true))])])))]
def bF1 : List Sm := [(.hid [(nat_lit 1), (nat_lit 2), (nat_lit 3), (nat_lit 4), (nat_lit 5), (nat_lit 6), (nat_lit 7), (nat_lit 8), (nat_lit 9), (nat_lit 10)] (.asg (.nm (nat_lit 5)) (.lc false [(nat_lit 9), (nat_lit 10)] (.tp [(.nm (nat_lit 9)), (.nm (nat_lit 10))]) .val [(.var (nat_lit 2))] (.con (.bl true)) (.call (nat_lit 54) [(.var (nat_lit 9)), (.o2 (.bin .add false) (.on .tup [(.var (nat_lit 3))]) (.var (nat_lit 10)))])))),
  (.hid [(nat_lit 1), (nat_lit 2), (nat_lit 3), (nat_lit 4), (nat_lit 5), (nat_lit 6), (nat_lit 7), (nat_lit 8), (nat_lit 9), (nat_lit 10)] (.ife (.o1 .not (.call (nat_lit 53) [(.var (nat_lit 5)), (.o2 (.bin .mul false) (.on (.lst false) [(.on (.lst false) [(.con (.str [(nat_lit 117), (nat_lit 110), (nat_lit 102), (nat_lit 105), (nat_lit 116)])), (.con (.bl true))])]) (.con (.int (.ofNat (nat_lit 11)))))])) [(.ret (.con (.bl false)))] []))]
def bF2 : List Sm := [(.hid [(nat_lit 1), (nat_lit 2), (nat_lit 3), (nat_lit 4), (nat_lit 5), (nat_lit 6), (nat_lit 7), (nat_lit 8), (nat_lit 9), (nat_lit 10)] (.asg (.nm (nat_lit 5)) (.o2 (.bin .add false) (.var (nat_lit 5)) (.on (.lst false) [(.call (nat_lit 54) [(.con (.fn (nat_lit 38))), (.on .tup [(.var (nat_lit 6)), (.var (nat_lit 3)), (.con (.int (.ofNat (nat_lit 1))))])]), (.call (nat_lit 54) [(.con (.fn (nat_lit 39))), (.on .tup [(.var (nat_lit 6)), (.var (nat_lit 3))])])])))),
  (.hid [(nat_lit 1), (nat_lit 2), (nat_lit 3), (nat_lit 4), (nat_lit 5), (nat_lit 6), (nat_lit 7), (nat_lit 8), (nat_lit 9), (nat_lit 10)] (.asg (.nm (nat_lit 5)) (.o2 (.bin .add false) (.var (nat_lit 5)) (.on (.lst false) [(.call (nat_lit 54) [(.con (.fn (nat_lit 45))), (.on .tup [(.var (nat_lit 6)), (.var (nat_lit 3))])])])))),
  (.hid [(nat_lit 1), (nat_lit 2), (nat_lit 3), (nat_lit 4), (nat_lit 5), (nat_lit 6), (nat_lit 7), (nat_lit 8), (nat_lit 9), (nat_lit 10)] (.asg (.nm (nat_lit 5)) (.o2 (.bin .add false) (.var (nat_lit 5)) (.lc false [(nat_lit 9)] (.nm (nat_lit 9)) .val [(.on .tup [(.con (.fn (nat_lit 42))), (.con (.fn (nat_lit 43))), (.con (.fn (nat_lit 44)))])] (.con (.bl true)) (.call (nat_lit 54) [(.var (nat_lit 9)), (.on .tup [(.var (nat_lit 6)), (.var (nat_lit 3)), (.var (nat_lit 7))])]))))),
  (.hid [(nat_lit 1), (nat_lit 2), (nat_lit 3), (nat_lit 4), (nat_lit 5), (nat_lit 6), (nat_lit 7), (nat_lit 8), (nat_lit 9), (nat_lit 10)] (.asg (.nm (nat_lit 5)) (.o2 (.bin .add false) (.var (nat_lit 5)) (.lc false [(nat_lit 9)] (.nm (nat_lit 9)) .val [(.on .tup [(.con (.fn (nat_lit 42))), (.con (.fn (nat_lit 43))), (.con (.fn (nat_lit 44)))])] (.con (.bl true)) (.call (nat_lit 54) [(.var (nat_lit 9)), (.on .tup [(.var (nat_lit 6)), (.var (nat_lit 7)), (.var (nat_lit 3))])]))))),
  (.hid [(nat_lit 1), (nat_lit 2), (nat_lit 3), (nat_lit 4), (nat_lit 5), (nat_lit 6), (nat_lit 7), (nat_lit 8), (nat_lit 9), (nat_lit 10)] (.asg (.nm (nat_lit 5)) (.o2 (.bin .add false) (.var (nat_lit 5)) (.on (.lst false) [(.call (nat_lit 54) [(.con (.fn (nat_lit 47))), (.on .tup [(.var (nat_lit 6)), (.var (nat_lit 3))])])]))))]
theorem bl : b55 = bS :: (bA ++ (.for_ (.nm (nat_lit 3)) .val [(.on (.sls false true false) [(.var (nat_lit 1)), (.o1 .ich (.call (nat_lit 51) [(.var (nat_lit 8)), (.con (.int (.ofNat (nat_lit 3))))])), (.con .non), (.con (.int (.ofNat (nat_lit 3))))])] bF1 :: (bB ++ (.for_ (.nm (nat_lit 3)) .val [(.on (.sls false true false) [(.var (nat_lit 4)), (.o1 .ich (.call (nat_lit 51) [(.var (nat_lit 8)), (.con (.int (.ofNat (nat_lit 2))))])), (.con .non), (.con (.int (.ofNat (nat_lit 2))))])] bF2 :: bC)))) := rfl
def K0 : Env := [none, none, none, none, none, none, some (.tup [(.int (.ofNat (nat_lit 6))), (.int (.ofNat (nat_lit 1)))]), some (.tup [(.tup [(.int (.ofNat (nat_lit 0))), (.int (.ofNat (nat_lit 2)))]), (.tup [(.int (.ofNat (nat_lit 0))), (.int (.ofNat (nat_lit 3)))])]), some (.loc (nat_lit 1024)), none, none]
def R1 : Fl := denB cb CL bA K0 ⟨1025, []⟩
theorem r1 : okF 1025 R1 = true := by decide +kernel
def E1 : Env := envF R1
theorem q1 : R1 = .nx E1 ⟨1025, []⟩ := okF_ok r1
def O1 : List D := lstO (getE E1 1)
theorem o1 : getE E1 1 = some (.lst O1) := isLs_ok (by decide +kernel)
theorem n1 : getE E1 8 = some (.loc 1024) := isSo_ok (by decide +kernel)
def M1 (d : Nat) : List D := stpL O1 (some (.ofNat d)) none (.ofNat 3)
def R2 (d : Nat) : Fl := loopL (forTurn (.nm 3) (denB cb CL bF1)) (M1 d) E1 ⟨1025, []⟩
def R3 : Fl := denB cb CL bB K0 ⟨1025, []⟩
theorem r3 : okF 1025 R3 = true := by decide +kernel
def E3 : Env := envF R3
theorem q3 : R3 = .nx E3 ⟨1025, []⟩ := okF_ok r3
def O3 : List D := lstO (getE E3 4)
theorem o3 : getE E3 4 = some (.lst O3) := isLs_ok (by decide +kernel)
theorem n3 : getE E3 8 = some (.loc 1024) := isSo_ok (by decide +kernel)
def M3 (d : Nat) : List D := stpL O3 (some (.ofNat d)) none (.ofNat 2)
def R4 (d : Nat) : Fl := (loopL (forTurn (.nm 3) (denB cb CL bF2)) (M3 d) E3 ⟨1025, []⟩).seq (denB cb CL bC)
theorem m1_0 : Nat.ble (M1 0).length 16777216 = true := by decide +kernel
theorem r2_0 : okE [(nat_lit 6), (nat_lit 7), (nat_lit 8)] K0 1025 (R2 0) = true := by decide +kernel
theorem m1_1 : Nat.ble (M1 1).length 16777216 = true := by decide +kernel
theorem r2_1 : okE [(nat_lit 6), (nat_lit 7), (nat_lit 8)] K0 1025 (R2 1) = true := by decide +kernel
theorem m1_2 : Nat.ble (M1 2).length 16777216 = true := by decide +kernel
theorem r2_2 : okE [(nat_lit 6), (nat_lit 7), (nat_lit 8)] K0 1025 (R2 2) = true := by decide +kernel
theorem m3_0 : Nat.ble (M3 0).length 16777216 = true := by decide +kernel
theorem r4_0 : okR (R4 0) = true := by decide +kernel
theorem m3_1 : Nat.ble (M3 1).length 16777216 = true := by decide +kernel
theorem r4_1 : okR (R4 1) = true := by decide +kernel
theorem m1 {d : Nat} (h : d < 3) : Nat.ble (M1 d).length 16777216 = true := by
  have z : d = 0 ∨ d = 1 ∨ d = 2 := by omega
  rcases z with z | z | z <;> subst z
  · exact m1_0
  · exact m1_1
  · exact m1_2
theorem r2 {d : Nat} (h : d < 3) : okE [(nat_lit 6), (nat_lit 7), (nat_lit 8)] K0 1025 (R2 d) = true := by
  have z : d = 0 ∨ d = 1 ∨ d = 2 := by omega
  rcases z with z | z | z <;> subst z
  · exact r2_0
  · exact r2_1
  · exact r2_2
theorem m3 {d : Nat} (h : d < 2) : Nat.ble (M3 d).length 16777216 = true := by
  have z : d = 0 ∨ d = 1 := by omega
  rcases z with z | z <;> subst z
  · exact m3_0
  · exact m3_1
theorem r4 {d : Nat} (h : d < 2) : okR (R4 d) = true := by
  have z : d = 0 ∨ d = 1 := by omega
  rcases z with z | z <;> subst z
  · exact r4_0
  · exact r4_1
theorem st0 (cl : Cl) (ns : List Int) (x : Int) (cs1 : List (Nat × Ob)) (h1 : cl 52 [.scr ns, .int (.ofNat 1)] ⟨0, []⟩ = .ok (.lst [.int x]) ⟨1024, []⟩) (h2 : cl 50 [.lst [.int x], .int (.ofNat 0)] ⟨1024, []⟩ = .ok (.loc 1024) ⟨1025, cs1⟩) :
    denS cb cl bS [some (.scr ns), none, none, none, none, none, none, none, none, none, none] ⟨0, []⟩ = .nx [some (.scr ns), none, none, none, none, none, some (.tup [(.int (.ofNat (nat_lit 6))), (.int (.ofNat (nat_lit 1)))]), some (.tup [(.tup [(.int (.ofNat (nat_lit 0))), (.int (.ofNat (nat_lit 2)))]), (.tup [(.int (.ofNat (nat_lit 0))), (.int (.ofNat (nat_lit 3)))])]), some (.loc (nat_lit 1024)), none, none] ⟨1025, cs1⟩ := by
  unfold bS
  show xAsg _ (den cb cl _) _ _ = _
  have t2 : ∀ (a b : D) (s : St), pn .tup [a, b] s = .ok (.tup [a, b]) s := fun _ _ _ => rfl
  have t3 : ∀ (a b c : D) (s : St), pn .tup [a, b, c] s = .ok (.tup [a, b, c]) s := fun _ _ _ _ => rfl
  simp only [t2, t3, xAsg, den_on, den_con, den_var, den_call, dens_cons, dens_nil, esC, esN, eVar, eCon, eCall, en, isDsp, cond_false, cond_true, g0, obnd_some, bnd_ok, bns_ok, bnf_ok, rbnd_ok, rbns_ok, h1, h2]
  rfl
theorem dcs {cl : Cl} {a : Sm} {r : List Sm} {e : Env} {s : St} : denB cb cl (a :: r) e s = (denS cb cl a e s).seq (denB cb cl r) := rfl
theorem main (ns : List Int) (x : Int) (cs1 cs2 cs3 : List (Nat × Ob)) (d1 d2 : Nat) (hd1 : d1 < 3) (hd2 : d2 < 2)
    (h1 : CL 52 [.scr ns, .int (.ofNat 1)] ⟨0, []⟩ = .ok (.lst [.int x]) ⟨1024, []⟩) (h2 : CL 50 [.lst [.int x], .int (.ofNat 0)] ⟨1024, []⟩ = .ok (.loc 1024) ⟨1025, cs1⟩)
    (h3 : CL 51 [.loc 1024, .int (.ofNat 3)] ⟨1025, cs1⟩ = .ok (.int (.ofNat d1)) ⟨1025, cs2⟩) (h4 : CL 51 [.loc 1024, .int (.ofNat 2)] ⟨1025, cs2⟩ = .ok (.int (.ofNat d2)) ⟨1025, cs3⟩) :
    ∃ s, denB cb CL b55 [some (.scr ns), none, none, none, none, none, none, none, none, none, none] ⟨0, []⟩ = .rt (.bl true) s := by
  obtain ⟨e2, a1, a2⟩ := okE_ok (r2 hd1)
  obtain ⟨s4, a4⟩ := okR_ok (r4 hd2)
  have HA : HL (denB cb CL bA) := hl_hids rfl
  have HB : HL (denB cb CL bB) := hl_hids rfl
  have HC : HL (denB cb CL bC) := hl_hids rfl
  have H1 : HL (loopL (forTurn (.nm 3) (denB cb CL bF1)) (M1 d1)) := hl_loop (fun d => hl_turn (hl_hids rfl) d) _
  have H2 : HL (loopL (forTurn (.nm 3) (denB cb CL bF2)) (M3 d2)) := hl_loop (fun d => hl_turn (hl_hids rfl) d) _
  have hA : denB cb CL bA [some (.scr ns), none, none, none, none, none, some (.tup [(.int (.ofNat (nat_lit 6))), (.int (.ofNat (nat_lit 1)))]), some (.tup [(.tup [(.int (.ofNat (nat_lit 0))), (.int (.ofNat (nat_lit 2)))]), (.tup [(.int (.ofNat (nat_lit 0))), (.int (.ofNat (nat_lit 3)))])]), some (.loc (nat_lit 1024)), none, none] ⟨1025, cs1⟩ = .nx E1 ⟨1025, cs1⟩ := by
    rw [HA.l]
    have e : denB cb CL bA [some (.scr ns), none, none, none, none, none, some (.tup [(.int (.ofNat (nat_lit 6))), (.int (.ofNat (nat_lit 1)))]), some (.tup [(.tup [(.int (.ofNat (nat_lit 0))), (.int (.ofNat (nat_lit 2)))]), (.tup [(.int (.ofNat (nat_lit 0))), (.int (.ofNat (nat_lit 3)))])]), some (.loc (nat_lit 1024)), none, none] ⟨1025, []⟩ = R1 := denB_hidE (ks := [(nat_lit 1), (nat_lit 2), (nat_lit 3), (nat_lit 4), (nat_lit 5), (nat_lit 6), (nat_lit 7), (nat_lit 8), (nat_lit 9), (nat_lit 10)]) rfl
    rw [e, q1]; rfl
  have hF1 : denS cb CL (.for_ (.nm 3) .val [(.on (.sls false true false) [(.var (nat_lit 1)), (.o1 .ich (.call (nat_lit 51) [(.var (nat_lit 8)), (.con (.int (.ofNat (nat_lit 3))))])), (.con .non), (.con (.int (.ofNat (nat_lit 3))))])] bF1) E1 ⟨1025, cs1⟩ = .nx e2 ⟨1025, cs2⟩ := by
    show xFor (.nm 3) .val (dens cb CL [(.on (.sls false true false) [(.var (nat_lit 1)), (.o1 .ich (.call (nat_lit 51) [(.var (nat_lit 8)), (.con (.int (.ofNat (nat_lit 3))))])), (.con .non), (.con (.int (.ofNat (nat_lit 3))))])]) (denB cb CL bF1) E1 ⟨1025, cs1⟩ = _
    rw [for_lst (hdr o1 n1 h3 rfl (m1 hd1)), seq_eta]
    have e := H1.l E1 1025 cs2
    rw [show loopL (forTurn (.nm 3) (denB cb CL bF1)) (M1 d1) E1 ⟨1025, []⟩ = .nx e2 ⟨1025, []⟩ from a1] at e
    exact e
  have hB : denB cb CL bB e2 ⟨1025, cs2⟩ = .nx E3 ⟨1025, cs2⟩ := by
    rw [HB.l]
    have e : denB cb CL bB e2 ⟨1025, []⟩ = R3 := denB_hidE (ks := [(nat_lit 6), (nat_lit 7), (nat_lit 8)]) (a2.trans rfl)
    rw [e, q3]; rfl
  have hF2 : denS cb CL (.for_ (.nm 3) .val [(.on (.sls false true false) [(.var (nat_lit 4)), (.o1 .ich (.call (nat_lit 51) [(.var (nat_lit 8)), (.con (.int (.ofNat (nat_lit 2))))])), (.con .non), (.con (.int (.ofNat (nat_lit 2))))])] bF2) E3 ⟨1025, cs2⟩ = liC cs3 (loopL (forTurn (.nm 3) (denB cb CL bF2)) (M3 d2) E3 ⟨1025, []⟩) := by
    show xFor (.nm 3) .val (dens cb CL [(.on (.sls false true false) [(.var (nat_lit 4)), (.o1 .ich (.call (nat_lit 51) [(.var (nat_lit 8)), (.con (.int (.ofNat (nat_lit 2))))])), (.con .non), (.con (.int (.ofNat (nat_lit 2))))])]) (denB cb CL bF2) E3 ⟨1025, cs2⟩ = _
    rw [for_lst (hdr o3 n3 h4 rfl (m3 hd2)), seq_eta]
    exact H2.l E3 1025 cs3
  refine ⟨⟨s4.nx, cs3⟩, ?_⟩
  rw [bl, dcs, st0 CL ns x cs1 h1 h2, seq_nx, denB_app, hA, seq_nx, dcs, hF1, seq_nx, denB_app, hB, seq_nx, dcs, hF2, liC_seq (H2.z _ _) HC.l]
  show liC cs3 (R4 d2) = _
  rw [a4]; rfl
theorem run' : ∀ ns : List Int, ns.length ≤ 63 → isTrue' (callN P 58 lawN [.scr ns] ⟨0, []⟩) = true := fun ns hl => by
  obtain ⟨x, h1⟩ := cells_ok (lv := 56) (n := 0) pc ns hl
  have h1 : CL 52 [.scr ns, .int (.ofNat 1)] ⟨0, []⟩ = .ok (.lst [.int x]) ⟨1024, []⟩ := h1
  obtain ⟨a, b, h2⟩ := box_ok (lv := 56) (n := 1024) pb x
  have h2 : CL 50 [.lst [.int x], .int (.ofNat 0)] ⟨1024, []⟩ = .ok (.loc 1024) ⟨1025, [(1024, .lst 0 [.int (.ofNat a), .int (.ofNat b), .int (.ofNat 0)])]⟩ := h2
  obtain ⟨d1, a1, c1, hd1, hc1, h3⟩ := take_ok (lv := 56) (n := 1025) (m := 1024) pt (by decide +kernel) (k := 3) (by decide) (by decide +kernel) a b 0 (by decide +kernel) []
  have h3 : CL 51 [.loc 1024, .int (.ofNat 3)] ⟨1025, [(1024, .lst 0 [.int (.ofNat a), .int (.ofNat b), .int (.ofNat 0)])]⟩ = .ok (.int (.ofNat d1)) ⟨1025, [(1024, .lst 0 [.int (.ofNat a1), .int (.ofNat b), .int (.ofNat c1)])]⟩ := h3
  obtain ⟨d2, a2, c2, hd2, hc2, h4⟩ := take_ok (lv := 56) (n := 1025) (m := 1024) pt (by decide +kernel) (k := 2) (by decide) (by decide +kernel) a1 b c1 (by omega) []
  have h4 : CL 51 [.loc 1024, .int (.ofNat 2)] ⟨1025, [(1024, .lst 0 [.int (.ofNat a1), .int (.ofNat b), .int (.ofNat c1)])]⟩ = .ok (.int (.ofNat d2)) ⟨1025, [(1024, .lst 0 [.int (.ofNat a2), .int (.ofNat b), .int (.ofNat c2)])]⟩ := h4
  obtain ⟨s, e⟩ := main ns x _ _ _ d1 d2 hd1 hd2 h1 h2 h3 h4
  show isTrue' (callN P 58 55 [.scr ns] ⟨0, []⟩) = true
  rw [callN_succ (lv := 57) pL]
  show isTrue' (retF true 0 0 (denB cb CL b55 [some (.scr ns), none, none, none, none, none, none, none, none, none, none] ⟨0, []⟩)) = true
  rw [e]; rfl
end Mv.k74
end
end

section
set_option Elab.async false
set_option linter.all false
set_option maxRecDepth 100000
set_option maxHeartbeats 8000000
open PySem PySem.W PyProof.Rows
theorem PySem.Challenge.cw_starsinaring_k74_moved_lines_refused_holds : PySem.Challenge.rw_starsinaring_k74_moved_lines_refused.Holds := by
  w_on; o_law; k_head; (case hw => w_witness2); k_fill
  refine Mv.law_ok (Q := Mv.k74.P) Mv.k74.stg [] (n := 63) (lv := 58) (M := Mv.k74.M) (ar := Mv.k74.ar) (tr := Mv.k74.tr) (m := Mv.k74.lawN) (p := PySem.Str.ofString "script") rfl (by decide +kernel) rfl ⟨rfl, by decide, by decide⟩ (fun w h Y => ⟨PySem.W.kIn_of Y, fun P hP => nomatch hP⟩) ?L ?R ?T ?hM ?B ?C ?S
  case L => kernel_rfl
  case R => exact Mv.k74.run'
  case S => intro pr; kernel_rfl
  case C => intro pr; kernel_rfl
  case B => intro pr; kernel_rfl
  case T => intro pr; kernel_rfl
  case hM => intro pr; kernel_rfl
end
