import PyProof.Rows.All
import Wide.All
import OpenK.AllK
import Wide.FinOn
import HandS.ForMost
import HandS.Wide
import HandS.TupMul
import HandS.SetFor
import HandS.SortInts
import HandS.ExcValue
import HandS.ExcOwn
import PyProof.TupleOfSeq
import HandS.Strs
import HandS.WideBits
import HandS.Gcd
import HandS.IsInst
import HandS.Style
import HandS.TupAny
import PySem.Challenge.RW_sayswhy_k23_clauses_spread_by_units
set_option Elab.async false
set_option linter.all false
set_option maxRecDepth 100000
set_option maxHeartbeats 4000000
set_option autoImplicit false
namespace Py
open PySem PySem.Spec PyProof.Rows L2
/-! ### a tuple times one, times nothing -/
theorem mul_same (l : Addr) (items : Array Value) (n : Nat) (dd : Option Addr) (sl : Array (Option Value)) (x : Int) (u : Tok) (c0 : (decide (x < -(2 ^ 63)) || decide (x ≥ 2 ^ 63)) = false) (c1 : (items.isEmpty || x == 1) = true) :
    Meets (Builtin.«tuple.__mul__» ⟨[.ref l, .int x u], []⟩) (fun _ R s => s.heap.get? l = some { cls := .type "tuple", dict := dd, data := .seq items n, slots := sl } ∧ R (.ok (.ret (Value.ref l))) s) :=
  .of_wp fun prog w A R s h => by
    obtain ⟨hp, g, d, tk, os⟩ := s
    obtain ⟨hl, h⟩ := h
    have f1 := AutoSeq1.idx_int
    wp_walk using wpAny_loadPart' hl
    repeat (first
      | (refine wpAny_ite_false (decide_eq_false (by rw [c0]; exact Bool.false_ne_true)) ?_; wp_walk using wpAny_loadPart' hl)
      | (refine wpAny_ite_true (decide_eq_true (by rw [c1])) ?_; wp_walk using wpAny_loadPart' hl))
    exact ⟨_, rfl, h⟩
theorem mul_none (l : Addr) (items : Array Value) (n : Nat) (dd : Option Addr) (sl : Array (Option Value)) (x : Int) (u : Tok) (c0 : (decide (x < -(2 ^ 63)) || decide (x ≥ 2 ^ 63)) = false) (c1 : (items.isEmpty || x == 1) = false) (c2 : (decide (x ≤ 0) || items.isEmpty) = true) :
    Meets (Builtin.«tuple.__mul__» ⟨[.ref l, .int x u], []⟩) (fun _ R s => s.heap.get? l = some { cls := .type "tuple", dict := dd, data := .seq items n, slots := sl } ∧
      R (.ok (.ret (Value.ref s.heap.objs.size))) { s with heap := s.heap.push { cls := Value.type "tuple", data := Data.seq #[] }, toks := s.toks }) :=
  .of_wp fun prog w A R s h => by
    obtain ⟨hp, g, d, tk, os⟩ := s
    obtain ⟨hl, h⟩ := h
    have f1 := AutoSeq1.idx_int
    wp_walk using wpAny_loadPart' hl
    repeat (first
      | (refine wpAny_ite_false (decide_eq_false (by rw [c0]; exact Bool.false_ne_true)) ?_; wp_walk using wpAny_loadPart' hl)
      | (refine wpAny_ite_false (decide_eq_false (by rw [c1]; exact Bool.false_ne_true)) ?_; wp_walk using wpAny_loadPart' hl)
      | (refine wpAny_ite_true (decide_eq_true (by rw [c2])) ?_; wp_walk using wpAny_loadPart' hl))
    exact ⟨_, rfl, h⟩
section
variable {X : Cx}
theorem op_same : OpR X (binaryOp .Mult) (fun x y H Q => ∃ l k xs, x = .ref l ∧ y = .int k ∧ SqT X.K H l xs ∧ (xs = [] ∨ k = 1) ∧ -(2 ^ 63) ≤ k ∧ k < 2 ^ 63 ∧ Q (.ref l) H) := by
  intro pins s σ H x y v u Q I rx ry h
  obtain ⟨l, k, xs, rfl, rfl, hT, hk, h1, h2, q⟩ := h
  cases rx
  obtain ⟨t, rfl⟩ := ry
  obtain ⟨its, r, ⟨⟨cls, dd, data, sl⟩, ho, hc, n, hd⟩, hs⟩ := I.tuple hT
  simp only at hc hd
  subst hc hd
  have hle : its.length = xs.length := r.length.symm
  have c0 : (decide (k < -(2 ^ 63)) || decide (k ≥ 2 ^ 63)) = false := by
    rw [decide_eq_false (by omega), decide_eq_false (by omega)] <;> rfl
  have c1 : (its.toArray.isEmpty || k == 1) = true := by
    rcases hk with rfl | rfl
    · have : its = [] := List.eq_nil_of_length_eq_zero hle
      subst this
      rfl
    · simp
  exact wpAny_binaryOp_repeat_ref (T := "tuple") (U := "int") (by decide) ⟨_, ho, rfl⟩ (fun s' => typeIs_int s' k t) noFill_tuple_mul F.fills_int_mul F.slot_int_rmul repeat_tuple F.slot_int_index.lookup
    (call_meets F.slot_int_rmul (typeIs_int s k t) F.entry_int_rmul (F.args_int_rmul_2 _ _) (int_rmul_tuple k t l its.toArray n dd sl)
      ⟨ho, rfl, ⟨_, ho, rfl⟩, call_meets F.slot_tuple_mul ⟨_, ho, rfl⟩ F.entry_tuple_mul (F.args_tuple_mul_2 _ _) (mul_same l its.toArray n dd sl k t c0 c1) ⟨ho, ⟨.ref l, H, I, rfl, q⟩⟩⟩)
theorem op_none : OpR X (binaryOp .Mult) (fun x y H Q => ∃ l k xs, x = .ref l ∧ y = .int k ∧ SqT X.K H l xs ∧ xs ≠ [] ∧ k ≤ 0 ∧ -(2 ^ 63) ≤ k ∧ ∀ p, H p = none → Q (.ref p) (upd H p (.tup []))) := by
  intro pins s σ H x y v u Q I rx ry h
  obtain ⟨l, k, xs, rfl, rfl, hT, hne, hk, h1, q⟩ := h
  cases rx
  obtain ⟨t, rfl⟩ := ry
  obtain ⟨its, r, ⟨⟨cls, dd, data, sl⟩, ho, hc, n, hd⟩, hs⟩ := I.tuple hT
  simp only at hc hd
  subst hc hd
  have hle : its.length = xs.length := r.length.symm
  have hi : its.toArray.isEmpty = false := by
    cases its with
    | nil => exact absurd (List.eq_nil_of_length_eq_zero hle.symm) hne
    | cons a b => rfl
  have c0 : (decide (k < -(2 ^ 63)) || decide (k ≥ 2 ^ 63)) = false := by
    rw [decide_eq_false (by omega), decide_eq_false (by omega)] <;> rfl
  have c1 : (its.toArray.isEmpty || k == 1) = false := by
    rw [hi, Bool.false_or]
    exact beq_eq_false_iff_ne.mpr (by omega)
  have c2 : (decide (k ≤ 0) || its.toArray.isEmpty) = true := by
    rw [decide_eq_true hk]; rfl
  refine wpAny_binaryOp_repeat_ref (T := "tuple") (U := "int") (by decide) ⟨_, ho, rfl⟩ (fun s' => typeIs_int s' k t) noFill_tuple_mul F.fills_int_mul F.slot_int_rmul repeat_tuple F.slot_int_index.lookup
    (call_meets F.slot_int_rmul (typeIs_int s k t) F.entry_int_rmul (F.args_int_rmul_2 _ _) (int_rmul_tuple k t l its.toArray n dd sl)
      ⟨ho, rfl, ⟨_, ho, rfl⟩, call_meets F.slot_tuple_mul ⟨_, ho, rfl⟩ F.entry_tuple_mul (F.args_tuple_mul_2 _ _) (mul_none l its.toArray n dd sl k t c0 c1 c2) ⟨ho, ?_⟩⟩)
  refine ⟨.ref s.heap.objs.size, _, I.laid (t' := s.toks) (o := .tup []) (fun b ob q => Heap.get?_push_of_some _ q) (Nat.le_refl _) ?_, rfl, q _ (I.hok.fresh (Nat.le_refl _))⟩
  exact ⟨by simp, [], .nil, IsTup.new _ _⟩
end
end Py

namespace Py
open PySem PySem.Spec PyProof.Rows L2
/-! ### set(x), x a list of numbers -/
abbrev setNew (w : World) : Obj := { cls := .type "set", dict := none, data := .set #[] 0 (.fresh 0 0 (!w.params.followText "set-order")) }
abbrev sh (w : World) (s : Shared) : Heap := s.heap.push (setNew w)
section
variable {P : Program} {w : World} {A : Around} {E : Value → Shared → Prop} {s : Shared}
theorem set_list_ints {l : Addr} {items : Array Value} (ns : List Int) {Q : Value → Shared → Prop} (hh : A.handled = none) (hl : s.heap.IsList l items) (hit : IntsAre items.toList ns) (hb : ns.length + 1 < scanBound)
    (h : ∀ (h' : Heap) (tk c : Nat), SetR w h' s.heap.objs.size (fun j => decide (j ∈ ns)) c → c ≤ ns.length → (∀ b o, s.heap.get? b = some o → h'.get? b = some o) → Q (.ref s.heap.objs.size) { s with heap := h', toks := tk }) :
    wpAny (model P w) A (call (.type "set") [.ref l]) Q E s := by
  have hisz : items.size = ns.length := by
    have q := IntsAre.length hit
    rw [Array.length_toList] at q
    exact q
  obtain ⟨c, tl, hmro⟩ := F.called_set.mro
  have hmade := F.called_set.made
  have hsub := F.called_set.sub
  refine wpAny_call (codeAny_of_tree ?_)
  show wpAny _ _ (callAny (.type "set") _) _ _ _
  refine wpAny_pure ⟨Code.quiet_builtin _ (by decide +kernel), codeAny_builtin F.entry_type_call ?_⟩
  rw [Around.under_plain (weight_type_call_type "set" [.ref l] []) rfl]
  have h1 := F.called_set.notType
  have h2 := F.called_set.canCreate
  have hct := F.typeCall_set_1 (.ref l)
  repeat (any_goals (first | assumption | wp_step))

  refine codeAny_mono (code_set_led1 (.ref l) (E := E) (Q₁ := fun obj s₁ => obj = .ref s.heap.objs.size ∧ s₁ = { s with heap := sh w s }) ⟨rfl, rfl⟩) fun r s₁ hr => ?_
  cases r with
  | error e => exact hr
  | ok fl =>
    cases fl with
    | ret obj =>
      obtain ⟨rfl, rfl⟩ := hr
      have hS : (sh w s).get? s.heap.objs.size = some (setNew w) := Heap.get?_push_size _ rfl
      have hT : Shared.TypeIs { s with heap := sh w s } (.ref s.heap.objs.size) "set" := ⟨_, hS, rfl⟩
      have hli := F.called_set.init.lookup
      have hbi := F.called_set.init.bind (.ref s.heap.objs.size)
      repeat (any_goals (first | assumption | wp_step))

      refine codeAny_mono (codeAny_call_builtin (R := wants (fun r s₂ => r = .none ∧ ∃ h' tk c, s₂ = { s with heap := h', toks := tk } ∧ SetR w h' s.heap.objs.size (fun j => decide (j ∈ ns)) c ∧ c ≤ ns.length ∧
          (∀ b o, s.heap.get? b = some o → h'.get? b = some o)) E) F.called_set.init.plain F.entry_set_init (check_set_init_1 hT ?_)) fun r₂ s₂ hr₂ => ?_
      · obtain ⟨ol, hol, hcl, nl, hdl⟩ := hl
        obtain ⟨ocls, odict, odata, oslots⟩ := ol
        simp only at hcl hdl
        subst hcl; subst hdl
        have hol' : (sh w s).get? l = some { cls := .type "list", dict := odict, data := .seq items nl, slots := oslots } := Heap.get?_push_of_some _ hol
        have hsls := F.sub_list_set
        have hslf := F.sub_list_frozenset
        have hne : (Value.type "list" == Value.type "dict") = false := by decide
        have hl1 : (sh w s).IsList l items := ⟨_, hol', rfl, nl, rfl⟩
        unfold Builtin.«set.__init__» noKeywords Builtin.Frozenset.updateFrom
        generalize hPI : pyIter = PI
        wp_walk
        subst hPI

        refine wpAny_pyIter_list hl1 ?_
        refine wpAny_bind (wpAny_runValue ?_)
        have hlS : l < s.heap.objs.size := Heap.lt_size hol
        have hh3 : A.in1.in1.in1.handled = none := by simp [hh]
        have hz1 : (sh w s).objs.size = s.heap.objs.size + 1 := Heap.size_push ..
        have hneI : l ≠ (sh w s).objs.size := by
          rw [Heap.size_push]; exact Nat.ne_of_lt (Nat.lt_succ_of_lt hlS)
        have hSf : s.heap.objs.size ∉ [(sh w s).objs.size, l] := by
          rw [Heap.size_push]; simp only [List.mem_cons, List.mem_singleton, List.not_mem_nil, or_false, not_or]
          exact ⟨Nat.ne_of_lt (Nat.lt_succ_self _), Nat.ne_of_gt hlS⟩
        have hval : ∀ (i : Nat) (v : Value), items[i]? = some v → ∃ k t, ns[i]? = some k ∧ v = .int k t := fun i v hv => by
          have hi : i < ns.length := by rw [← hisz]; exact (Array.getElem?_eq_some_iff.mp hv).1
          obtain ⟨t, e⟩ := PyProof.Rows.IntsAre.int_at hit i v (by rw [Array.getElem?_toList]; exact hv)
          refine ⟨ns[i], t, List.getElem?_eq_getElem hi, ?_⟩
          rw [e, List.getD_eq_getElem?_getD, List.getElem?_eq_getElem hi] <;> rfl
        refine set_update_ints ((Walks.list hh3 _ l hneI items).toS) s.heap.objs.size
          hSf ns hisz hb hval (items.size - 0) 0 _ (by omega) (Nat.zero_le _)
          ⟨⟨_, Heap.get?_push_size _ rfl, rfl, rfl⟩, (hl1.push _)⟩ ?hS0 ?hR
        case hS0 =>
          have hget : ((sh w s).push { cls := .type "list_iterator", data := .fields #[.ref l, .int 0 0] }).get? s.heap.objs.size
              = some (setNew w) := Heap.get?_push_of_some _ hS
          exact ⟨0, Nat.le_refl 0, setR_new_at hget⟩
        case hR =>
          intro s' c' hm hc' hS'
          obtain ⟨h', g2, d', tk', os'⟩ := s'
          have eg : g2 = s.gens := hm.gens
          have ed : d' = s.drawn := hm.drawn
          have eo : os' = s.os := hm.os
          subst eg; subst ed; subst eo
          show wpAny _ _ _ _ _ _
          refine wpAny_pure ?_
          show wpAny _ _ (ret Value.none) _ _ _
          rw [hisz] at hc'
          refine wpAny_pure ⟨rfl, h', tk', c', rfl, hS', hc', fun b o e => ?_⟩
          have hb0 : b < s.heap.objs.size := Heap.lt_size e
          have hb1 : b ≠ s.heap.objs.size := Nat.ne_of_lt hb0
          have hb2 : b ≠ (sh w s).objs.size := by
            rw [Heap.size_push]; exact Nat.ne_of_lt (Nat.lt_succ_of_lt hb0)
          exact hm.heap b o (by simp only [List.mem_cons, List.mem_singleton, List.not_mem_nil, or_false, not_or]; exact ⟨hb1, hb2⟩) (Heap.get?_push_of_some _ (Heap.get?_push_of_some _ e))

      · cases r₂ with
        | error e => exact hr₂
        | ok fl₂ =>
          cases fl₂ with
          | ret r =>
            obtain ⟨rfl, h', tk, c', rfl, hS', hc', hk'⟩ := hr₂
            repeat (any_goals (first | assumption | wp_step))
            exact h _ _ _ hS' hc' hk'
          | _ => exact hr₂.elim
    | _ => exact hr.elim

end

section
variable {X : Cx}
theorem vals_ints_S : ∀ {ns : List Int} {us : List Value}, Vals (ns.map V.int) us → IntsAre us ns
  | [], _, .nil => .nil
  | n :: ns, _, .cons r t => by
    obtain ⟨k, rfl⟩ := r
    exact .cons n k (vals_ints_S t)
/-- a list of numbers, fewer than b -/
def NumL (K : PySem.W.Frag) (b : Nat) (x : V) (H : Hp) (l : Addr) (ns : List Int) : Prop := x = .ref l ∧ SqL K H l (ns.map V.int) ∧ ns.length < b
/-- the heap with the set of ns laid at a -/
def withSet (w : World) (H : Hp) (a : Addr) (ns : List Int) (c : Nat) : Hp := upd H a (SetO w a (fun j => decide (j ∈ ns)) c)
def rSrtSet (K : PySem.W.Frag) (w : World) : V → Hp → VK → Prop := fun x H Q => ∃ l ns, NumL K 64 x H l ns ∧ ∀ (a p : Addr) (c : Nat) (us : List Int),
  H a = none → us.Pairwise (· < ·) → (∀ k, k ∈ us ↔ k ∈ ns) → withSet w H a ns c p = none → Q (.ref p) (upd (withSet w H a ns c) p (.lst (us.map V.int)))
def rLenSet (K : PySem.W.Frag) (w : World) : V → Hp → VK → Prop := fun x H Q => ∃ l ns, NumL K 4000 x H l ns ∧ ∀ (a : Addr) (c : Nat) (us : List Int),
  H a = none → us.Nodup → (∀ k, k ∈ us ↔ k ∈ ns) → Q (.int us.length) (withSet w H a ns c)
theorem boot_srt : bootBuiltins "sorted" = some (.builtin "sorted") := by decide +kernel
theorem boot_ln : bootBuiltins "len" = some (.builtin "len") := by decide +kernel
theorem boot_st : bootBuiltins "set" = some (.type "set") := by decide +kernel
/-- f(set(a)) -/
theorem pe_ofSet {f : Str} {id : String} {a : Expr} {ta : TE} {p p2 q pos : Pos} {b : Nat} {r : V → Hp → VK → Prop} (hc : X.calm = true) (hb : b ≤ 4000) (hf : bootBuiltins f = some (.builtin id)) (hn : f ≠ "__name__") (hd : (f == ("__debug__" : Str)) = false)
    (hg : Gl X f) (hm : X.mg f = none) (hg2 : Gl X "set") (hm2 : X.mg "set" = none) (ha : PE X a ta) (na : starEach [a] X.env = (false, eval a X.env) :: starEach [] X.env)
    (fin : ∀ (pins : List (Addr × Obj)) (σ : L2.St) (H : Hp) (x : V) (Q : VK), r x H Q → ∃ l ns, NumL X.K b x H l ns ∧ ∀ (s : Shared) (a : Addr) (c : Nat), H a = none → c ≤ ns.length → SetR X.w s.heap a (fun j => decide (j ∈ ns)) c → Inv X pins σ (withSet X.w H a ns c) s →
      wpAny (model X.prog X.w) X.A (call (.builtin id) [.ref a]) (EP X pins σ Q) X.xe s) :
    PE X (.Call (.Name f p) [.Call (.Name "set" p2) [a] [] q] [] pos) (fun σ H Q => ta σ H fun x H1 => r x H1 Q) := by
  refine ⟨fun pins s σ H Q I h => ?_⟩
  refine Call_ (ld_blt I hg hm hf ?_ hn hd)
  refine PyProof.Rows.callWith_builtin1 (PyProof.Rows.args_cons ?_ rfl) rfl rfl
  refine Call_ (ld_blt I hg2 hm2 boot_st ?_)
  refine PyProof.Rows.callWith_type1 (PyProof.Rows.args_cons (thn (ha.run pins s σ H _ I h) fun v s1 ⟨x, H1, I1, r1, q1⟩ => PyProof.Rows.args_nil ?_) na) na rfl
  obtain ⟨l, ns, ⟨rfl, hq, hl⟩, zf⟩ := fin pins σ H1 x Q q1
  cases r1
  obtain ⟨its, rv, pl, hz⟩ := I1.list hq
  refine set_list_ints ns (I1.ok.hd hc) pl.isList (by simpa using vals_ints_S rv) (by unfold scanBound; omega) fun h' tk c R hcn k => ?_
  refine PyProof.Rows.args_nil ?_
  exact zf _ _ c (I1.hok.fresh (Nat.le_refl _)) hcn R (I1.laid (t' := tk) k (Nat.le_refl _) (setO_new R))
theorem mem_dec {ns : List Int} {k : Int} : (decide (k ∈ ns) = true) ↔ k ∈ ns := decide_eq_true_iff
theorem pe_srtSet {a : Expr} {ta : TE} {p p2 q pos : Pos} (hc : X.calm = true) (hg : Gl X "sorted") (hm : X.mg "sorted" = none) (hg2 : Gl X "set") (hm2 : X.mg "set" = none) (ha : PE X a ta) (na : starEach [a] X.env = (false, eval a X.env) :: starEach [] X.env) :
    PE X (.Call (.Name "sorted" p) [.Call (.Name "set" p2) [a] [] q] [] pos) (fun σ H Q => ta σ H fun x H1 => rSrtSet X.K X.w x H1 Q) := by
  refine pe_ofSet (b := 64) hc (by decide) boot_srt (by decide) (by decide) hg hm hg2 hm2 ha na fun pins σ H x Q ⟨l, ns, hN, z⟩ => ⟨l, ns, hN, fun s b c hb hcn R I => ?_⟩
  refine cr_sortedSet hc pins s σ _ [.ref b] [.ref b] Q I (.cons rfl .nil) ⟨b, _, c, rfl, upd_same, Nat.lt_of_le_of_lt hcn hN.2.2, fun us p hs hu _ hp => z b p c us hb hs (fun k => (hu k).trans mem_dec) hp⟩
theorem pe_lnSet {a : Expr} {ta : TE} {p p2 q pos : Pos} (hc : X.calm = true) (hg : Gl X "len") (hm : X.mg "len" = none) (hg2 : Gl X "set") (hm2 : X.mg "set" = none) (ha : PE X a ta) (na : starEach [a] X.env = (false, eval a X.env) :: starEach [] X.env) :
    PE X (.Call (.Name "len" p) [.Call (.Name "set" p2) [a] [] q] [] pos) (fun σ H Q => ta σ H fun x H1 => rLenSet X.K X.w x H1 Q) := by
  refine pe_ofSet (b := 4000) hc (by decide) boot_ln (by decide) (by decide) hg hm hg2 hm2 ha na fun pins σ H x Q ⟨l, ns, hN, z⟩ => ⟨l, ns, hN, fun s b c hb hcn R I => ?_⟩
  obtain ⟨o, es, ep, t, ho, hex, hd, _, hnd, hmem, _, hf, hn, _⟩ := R
  have hN := hN.2.2
  refine call_len_set ho hex hd hf (by rw [hn]; omega) ⟨.int (es.toList.map keyOf).length, _, I.tok _, ⟨_, by rw [List.length_map, Array.length_toList]⟩, z b c _ hb hnd fun k => ?_⟩
  exact (hmem k).symm.trans mem_dec
end
/-! ### sorted(t), t a tuple of numbers -/
section
variable {X : Cx}
def rSortT (K : PySem.W.Frag) : List V → Hp → VK → Prop := fun vs H Q => ∃ (a : Addr) (ns : List Int), vs = [V.ref a] ∧ SqT K H a (ns.map V.int) ∧
  ∀ (us : List Int) (p : Addr), us.Perm ns → us.Pairwise (· ≤ ·) → H p = none → Q (.ref p) (upd H p (.lst (us.map V.int)))
theorem cr_sortT : CallR X (.builtin "sorted") (rSortT X.K) := by
  intro pins s σ H vs us Q I r h
  obtain ⟨a, ns, rfl, hs, q⟩ := h
  obtain ⟨its, rv, ⟨o, ho, hc, n, hd⟩, hz⟩ := I.tuple hs
  rw [Vals.ref1 r]
  have hi := rv.ints
  have hl : its.length ≤ sizeLine := by rw [← rv.length]; exact hz
  refine Calls.call_function_entry kind_sorted plain_sorted entry_sorted (args_sorted1 _) ?_
  unfold Builtin.«sorted»
  refine wpAny_bind (m := checkCount "sorted" 1 1 _) (wpAny_pure ?_)
  refine wpAny_bind (wpAny_collect_seq a (.inr rfl) ho hc hd (fun g keep => ?_) (by rw [List.size_toArray]; exact hl))
  have ei : its.toArray.toList = its := by simp
  rw [ei]
  refine wpAny_bind (wpAny_newList ?_ hl)
  have hp : (g.push (seqObj "list" its.toArray 0)).get? g.objs.size = some (seqObj "list" its.toArray 0) := Heap.get?_push_size _ rfl
  refine wpAny_bind (wpAny_holding (wpAny_call_entry slot_list_sort ⟨_, hp, rfl⟩ entry_list_sort (SrtO.list_sort_ord SrtO.swo_int hp hl (fun h2 => SrtO.ints_sortable hi h2) fun out h1 h2 => ⟨_, rfl, ?_⟩) (args_list_sort _)))
  obtain ⟨k1, k2, k3⟩ := SrtO.ints_out hi h1 h2
  obtain ⟨ep, he⟩ := sortedHeap_at (vs := its) (out := out.toArray) hp
  have hlen : ((out.map SrtO.iv).map V.int).length ≤ sizeLine := by
    rw [List.length_map, k2.length_eq]
    rw [List.length_map] at hz
    exact hz
  have hgn : s.heap.get? g.objs.size = none := by
    cases e : s.heap.get? g.objs.size with
    | none => rfl
    | some u => exact absurd (Heap.lt_size (keep _ _ e)) (Nat.lt_irrefl _)
  refine wpAny_pure ⟨_, rfl, .ref g.objs.size, upd H g.objs.size (.lst ((out.map SrtO.iv).map V.int)), I.laidN (t' := s.toks) (fun b u hb => ?_) hgn (I.hok.gone hgn) ⟨hlen, out, ep, vals_of_ints k1, he⟩, rfl, q _ _ k2 k3 (I.hok.gone hgn)⟩
  have hb2 := keep b u hb
  have hlt : b < g.objs.size := Heap.lt_size hb2
  exact (sortedHeap_old (Nat.ne_of_lt hlt) (by rw [Heap.size_push]; exact Nat.lt_succ_of_lt hlt)).trans (Heap.get?_push_of_some _ hb2)
end
end Py

namespace Py
open PySem PySem.Spec PyProof.Rows L2

/-- a value: tuples are trees, what can change stands at a place of the heap; tl, td: a list, a dict just made that nothing else holds -/
inductive D where
  | non | bl (b : Bool) | int (i : Int) | str (x : Str) | tup (xs : List D) | loc (a : Nat)
  | tl (xs : List D) | td (tk : Bool) (ks : List D) (vs : List D) | rl (xs : List D)
  deriving Inhabited
/-- what stands at a place -/
inductive DO where
  | lst (xs : List D) | dct (tk : Bool) (ks : List D) (vs : List D) | ins (c : Nat) (fs : List (Str × D))
  deriving Inhabited
abbrev Hd := List DO
abbrev Sd := List (Option D)

/-- a list that is never written: the script, one of the module's -/
def FzL (K : PySem.W.Frag) (H : Hp) (a : Addr) (xs : List V) : Prop :=
  (∃ o, H a = some (.frz o (.lst xs))) ∨
    ∃ (o : Obj) (its : Array Value) (n : Nat), K.lookup a = some o ∧ o.cls = .type "list" ∧ o.dict = none ∧ o.data = .seq its n ∧ its.size ≤ sizeLine ∧ Vals xs its.toList
theorem FzL.sq {K : PySem.W.Frag} {H : Hp} {a : Addr} {xs : List V} (h : FzL K H a xs) : SqL K H a xs := by
  rcases h with h | h
  · exact .inl (.inr h)
  · exact .inr h
section
variable (K : PySem.W.Frag) (H : Hp) (R : Nat → Addr) (n : Nat)
mutual
def R0 : D → V → Prop
  | .non, v => v = .non
  | .bl b, v => v = .bl b
  | .int i, v => v = .int i
  | .str x, v => v = .str x
  | .tup ds, v => ∃ a vs, v = .ref a ∧ SqT K H a vs ∧ R0s ds vs
  | .loc i, v => i < n ∧ v = .ref (R i)
  | .tl _, _ => False
  | .td _ _ _, _ => False
  | .rl ds, v => ∃ a vs, v = .ref a ∧ FzL K H a vs ∧ R0s ds vs
def R0s : List D → List V → Prop
  | [], vs => vs = []
  | d :: ds, vs => ∃ v r, vs = v :: r ∧ R0 d v ∧ R0s ds r
end
end
theorem R0s_len {K : PySem.W.Frag} {H : Hp} {R : Nat → Addr} {n : Nat} : ∀ {ds : List D} {vs : List V}, R0s K H R n ds vs → ds.length = vs.length
  | [], vs, h => by simp only [R0s] at h; subst h; rfl
  | d :: ds, vs, h => by
    simp only [R0s] at h
    obtain ⟨v, r, rfl, _, h2⟩ := h
    simp [R0s_len h2]

theorem R0s_get {K : PySem.W.Frag} {H : Hp} {R : Nat → Addr} {n : Nat} : ∀ {ds : List D} {vs : List V} {i : Nat} {d : D}, R0s K H R n ds vs → ds[i]? = some d → ∃ v, vs[i]? = some v ∧ R0 K H R n d v
  | [], vs, i, d, h, e => by simp at e
  | d :: ds, vs, i, x, h, e => by
    simp only [R0s] at h
    obtain ⟨v, r, rfl, h1, h2⟩ := h
    cases i with
    | zero => simp at e; subst e; exact ⟨v, rfl, h1⟩
    | succ i =>
      obtain ⟨u, hu, ru⟩ := R0s_get (i := i) h2 (by simpa using e)
      exact ⟨u, by simpa using hu, ru⟩
theorem R0s_append {K : PySem.W.Frag} {H : Hp} {R : Nat → Addr} {n : Nat} : ∀ {ds es : List D} {vs us : List V}, R0s K H R n ds vs → R0s K H R n es us → R0s K H R n (ds ++ es) (vs ++ us)
  | [], es, vs, us, h, h' => by simp only [R0s] at h; subst h; exact h'
  | d :: ds, es, vs, us, h, h' => by
    simp only [R0s] at h
    obtain ⟨v, r, rfl, h1, h2⟩ := h
    simp only [List.cons_append, R0s]
    exact ⟨v, r ++ us, rfl, h1, R0s_append h2 h'⟩
theorem R0s_take {K : PySem.W.Frag} {H : Hp} {R : Nat → Addr} {n : Nat} : ∀ {ds : List D} {vs : List V} (k : Nat), R0s K H R n ds vs → R0s K H R n (ds.take k) (vs.take k)
  | [], vs, k, h => by simp only [R0s] at h; subst h; simp [R0s]
  | d :: ds, vs, 0, h => by simp [R0s]
  | d :: ds, vs, k + 1, h => by
    simp only [R0s] at h
    obtain ⟨v, r, rfl, h1, h2⟩ := h
    simp only [List.take_succ_cons, R0s]
    exact ⟨v, _, rfl, h1, R0s_take k h2⟩
theorem R0s_drop {K : PySem.W.Frag} {H : Hp} {R : Nat → Addr} {n : Nat} : ∀ {ds : List D} {vs : List V} (k : Nat), R0s K H R n ds vs → R0s K H R n (ds.drop k) (vs.drop k)
  | [], vs, k, h => by simp only [R0s] at h; subst h; simp [R0s]
  | d :: ds, vs, 0, h => h
  | d :: ds, vs, k + 1, h => by
    simp only [R0s] at h
    obtain ⟨v, r, rfl, h1, h2⟩ := h
    exact R0s_drop k h2
theorem R0s_set {K : PySem.W.Frag} {H : Hp} {R : Nat → Addr} {n : Nat} {x : D} {u : V} (hx : R0 K H R n x u) : ∀ {ds : List D} {vs : List V} (k : Nat), R0s K H R n ds vs → R0s K H R n (ds.set k x) (vs.set k u)
  | [], vs, k, h => by simp only [R0s] at h; subst h; simp [R0s]
  | d :: ds, vs, 0, h => by
    simp only [R0s] at h
    obtain ⟨v, r, rfl, h1, h2⟩ := h
    simp only [List.set_cons_zero, R0s]
    exact ⟨u, r, rfl, hx, h2⟩
  | d :: ds, vs, k + 1, h => by
    simp only [R0s] at h
    obtain ⟨v, r, rfl, h1, h2⟩ := h
    simp only [List.set_cons_succ, R0s]
    exact ⟨v, _, rfl, h1, R0s_set hx k h2⟩
theorem R0s_one {K : PySem.W.Frag} {H : Hp} {R : Nat → Addr} {n : Nat} {x : D} {u : V} (hx : R0 K H R n x u) : R0s K H R n [x] [u] := by
  simp only [R0s]; exact ⟨u, [], rfl, hx, rfl⟩
theorem R0s_eraseIdx {K : PySem.W.Frag} {H : Hp} {R : Nat → Addr} {n : Nat} : ∀ {ds : List D} {vs : List V} (k : Nat), R0s K H R n ds vs → R0s K H R n (ds.eraseIdx k) (vs.eraseIdx k)
  | [], vs, k, h => by simp only [R0s] at h; subst h; simp [R0s]
  | d :: ds, vs, 0, h => by
    simp only [R0s] at h
    obtain ⟨v, r, rfl, h1, h2⟩ := h
    exact h2
  | d :: ds, vs, k + 1, h => by
    simp only [R0s] at h
    obtain ⟨v, r, rfl, h1, h2⟩ := h
    simp only [List.eraseIdx_cons_succ, R0s]
    exact ⟨v, _, rfl, h1, R0s_eraseIdx k h2⟩
theorem R0s_dropLast {K : PySem.W.Frag} {H : Hp} {R : Nat → Addr} {n : Nat} {ds : List D} {vs : List V} (h : R0s K H R n ds vs) : R0s K H R n ds.dropLast vs.dropLast := by
  rw [List.dropLast_eq_take, List.dropLast_eq_take, R0s_len h]; exact R0s_take _ h
theorem R0s_reverse {K : PySem.W.Frag} {H : Hp} {R : Nat → Addr} {n : Nat} : ∀ {ds : List D} {vs : List V}, R0s K H R n ds vs → R0s K H R n ds.reverse vs.reverse
  | [], vs, h => by simp only [R0s] at h; subst h; simp [R0s]
  | d :: ds, vs, h => by
    simp only [R0s] at h
    obtain ⟨v, r, rfl, h1, h2⟩ := h
    simp only [List.reverse_cons]
    exact R0s_append (R0s_reverse h2) (R0s_one h1)
theorem R0s_flat {K : PySem.W.Frag} {H : Hp} {R : Nat → Addr} {n : Nat} {ds : List D} {vs : List V} (h : R0s K H R n ds vs) : ∀ k : Nat, R0s K H R n (List.replicate k ds).flatten (List.replicate k vs).flatten
  | 0 => by simp [R0s]
  | k + 1 => by
    simp only [List.replicate_succ, List.flatten_cons]
    exact R0s_append h (R0s_flat h k)

mutual
theorem R0_mono {K : PySem.W.Frag} {H H' : Hp} {R R' : Nat → Addr} {n n' : Nat} (hf : ∀ a vs, FzL K H a vs → FzL K H' a vs) (ht : ∀ a vs, SqT K H a vs → SqT K H' a vs) (hR : ∀ i, i < n → i < n' ∧ R' i = R i) : ∀ (d : D) (v : V), R0 K H R n d v → R0 K H' R' n' d v
  | .non, v, h => h
  | .bl _, v, h => h
  | .int _, v, h => h
  | .str _, v, h => h
  | .tup ds, v, h => by
    simp only [R0] at h ⊢
    obtain ⟨a, vs, e, h1, h2⟩ := h
    exact ⟨a, vs, e, ht _ _ h1, R0s_mono hf ht hR ds vs h2⟩
  | .loc i, v, h => by
    simp only [R0] at h ⊢
    exact ⟨(hR i h.1).1, by rw [(hR i h.1).2]; exact h.2⟩
  | .tl _, v, h => h
  | .td _ _ _, v, h => h
  | .rl ds, v, h => by
    simp only [R0] at h ⊢
    obtain ⟨a, vs, e, h1, h2⟩ := h
    exact ⟨a, vs, e, hf _ _ h1, R0s_mono hf ht hR ds vs h2⟩
theorem R0s_mono {K : PySem.W.Frag} {H H' : Hp} {R R' : Nat → Addr} {n n' : Nat} (hf : ∀ a vs, FzL K H a vs → FzL K H' a vs) (ht : ∀ a vs, SqT K H a vs → SqT K H' a vs) (hR : ∀ i, i < n → i < n' ∧ R' i = R i) : ∀ (ds : List D) (vs : List V), R0s K H R n ds vs → R0s K H' R' n' ds vs
  | [], vs, h => by simp only [R0s] at h ⊢; exact h
  | d :: ds, vs, h => by
    simp only [R0s] at h ⊢
    obtain ⟨v, r, e, h1, h2⟩ := h
    exact ⟨v, r, e, R0_mono hf ht hR d v h1, R0s_mono hf ht hR ds r h2⟩
end

-- all places within lie below n
mutual
def D.clean (n : Nat) : D → Prop
  | .non => True
  | .bl _ => True
  | .int _ => True
  | .str _ => True
  | .tup ds => D.cleans n ds
  | .loc i => i < n
  | .tl ds => D.cleans n ds
  | .td _ ks vs => D.cleans n ks ∧ D.cleans n vs
  | .rl ds => D.cleans n ds
def D.cleans (n : Nat) : List D → Prop
  | [] => True
  | d :: ds => D.clean n d ∧ D.cleans n ds
end
mutual
theorem R0_clean {K : PySem.W.Frag} {H : Hp} {R : Nat → Addr} {n m : Nat} : ∀ (d : D) (v : V), D.clean m d → R0 K H R n d v → R0 K H R m d v
  | .non, v, _, h => h
  | .bl _, v, _, h => h
  | .int _, v, _, h => h
  | .str _, v, _, h => h
  | .tup ds, v, c, h => by
    simp only [R0] at h ⊢
    simp only [D.clean] at c
    obtain ⟨a, vs, e, h1, h2⟩ := h
    exact ⟨a, vs, e, h1, R0s_clean ds vs c h2⟩
  | .loc i, v, c, h => by
    simp only [R0] at h ⊢
    simp only [D.clean] at c
    exact ⟨c, h.2⟩
  | .tl _, v, _, h => h
  | .td _ _ _, v, _, h => h
  | .rl ds, v, c, h => by
    simp only [R0] at h ⊢
    simp only [D.clean] at c
    obtain ⟨a, vs, e, h1, h2⟩ := h
    exact ⟨a, vs, e, h1, R0s_clean ds vs c h2⟩
theorem R0s_clean {K : PySem.W.Frag} {H : Hp} {R : Nat → Addr} {n m : Nat} : ∀ (ds : List D) (vs : List V), D.cleans m ds → R0s K H R n ds vs → R0s K H R m ds vs
  | [], vs, _, h => by simp only [R0s] at h ⊢; exact h
  | d :: ds, vs, c, h => by
    simp only [R0s] at h ⊢
    simp only [D.cleans] at c
    obtain ⟨v, r, e, h1, h2⟩ := h
    exact ⟨v, r, e, R0_clean d v c.1 h1, R0s_clean ds r c.2 h2⟩
end

def keyD : Key → D
  | .inl i => .int i
  | .inr x => .str x
def DO.clean (n : Nat) : DO → Prop
  | .lst xs => D.cleans n xs
  | .dct _ _ vs => D.cleans n vs
  | .ins _ fs => D.cleans n (fs.map (·.2))

section
variable (K : PySem.W.Frag) (H : Hp) (R : Nat → Addr) (n : Nat)
def dcRel (tk : Bool) (ks vs : List D) (o : Option HO) : Prop :=
  (tk = false ∧ ∃ kvs : List (Key × V), o = some (.dK kvs) ∧ ks = kvs.map (fun p => keyD p.1) ∧ R0s K H R n vs (kvs.map (·.2))) ∨
  (tk = true ∧ ∃ kvs : List (List Key × V), o = some (.dT kvs) ∧ ks = kvs.map (fun p => D.tup (p.1.map keyD)) ∧ R0s K H R n vs (kvs.map (·.2)))
def ORel (a : Addr) : DO → Prop
  | .lst ds => ∃ vs, H a = some (.lst vs) ∧ R0s K H R n ds vs
  | .dct tk ks vs => dcRel K H R n tk ks vs (H a)
  | .ins _ _ => False
structure HRel (h : Hd) : Prop where
  inj : ∀ i j, i < h.length → j < h.length → R i = R j → i = j
  obj : ∀ i o, h[i]? = some o → ORel K H R h.length (R i) o
/-- a value as an expression gives it: G, the heap at the expression's start -/
def RT (G : Hp) : D → V → Prop
  | .tl ds, v => ∃ a vs, v = .ref a ∧ G a = none ∧ H a = some (.lst vs) ∧ R0s K H R n ds vs ∧ ∀ i, i < n → R i ≠ a
  | .td tk ks ws, v => ∃ a, v = .ref a ∧ G a = none ∧ dcRel K H R n tk ks ws (H a) ∧ ∀ i, i < n → R i ≠ a
  | d, v => R0 K H R n d v
end
/-- from one heap to a later one -/
structure Ext (K : PySem.W.Frag) (R : Nat → Addr) (h : Hd) (H : Hp) (R' : Nat → Addr) (h' : Hd) (H' : Hp) : Prop where
  len : h.length ≤ h'.length
  agr : ∀ i, i < h.length → R' i = R i
  fresh : ∀ i, h.length ≤ i → i < h'.length → H (R' i) = none
  frame : ∀ a o, H a = some o → (∀ i, i < h.length → R i ≠ a) → H' a = some o
  stay : ∀ a o, H a = some o → ∃ o', H' a = some o'
  tup : ∀ a vs, SqT K H a vs → SqT K H' a vs
  frz : ∀ a vs, FzL K H a vs → FzL K H' a vs
structure SRel (K : PySem.W.Frag) (H : Hp) (R : Nat → Addr) (n : Nat) (τ : Sd) (σ : L2.St) : Prop where
  len : τ.length = σ.length
  at_ : ∀ (i : Nat) (d : D), τ[i]? = some (some d) → ∃ v, σ[i]? = some (some v) ∧ R0 K H R n d v

theorem Ext.refl {K : PySem.W.Frag} {R : Nat → Addr} {h : Hd} {H : Hp} : Ext K R h H R h H :=
  ⟨Nat.le_refl _, fun _ _ => rfl, fun i h1 h2 => absurd h2 (Nat.not_lt.mpr h1), fun _ _ e _ => e, fun _ o e => ⟨o, e⟩, fun _ _ e => e, fun _ _ e => e⟩
section
variable {K : PySem.W.Frag} {R R1 R2 : Nat → Addr} {h h1 h2 : Hd} {H H1 H2 : Hp}
theorem Ext.trans (a : Ext K R h H R1 h1 H1) (b : Ext K R1 h1 H1 R2 h2 H2) : Ext K R h H R2 h2 H2 where
  len := Nat.le_trans a.len b.len
  agr := fun i hi => (b.agr i (Nat.lt_of_lt_of_le hi a.len)).trans (a.agr i hi)
  fresh := fun i z1 z2 => by
    by_cases hi : i < h1.length
    · rw [b.agr i hi]; exact a.fresh i z1 hi
    · have n1 := b.fresh i (Nat.not_lt.mp hi) z2
      cases q : H (R2 i) with
      | none => rfl
      | some o =>
        obtain ⟨o', e⟩ := a.stay _ o q
        rw [n1] at e; cases e
  frame := fun x o e n => by
    refine b.frame x o (a.frame x o e n) fun i hi z => ?_
    by_cases hl : i < h.length
    · exact n i hl ((a.agr i hl).symm.trans z)
    · have := a.fresh i (Nat.not_lt.mp hl) hi
      rw [z, e] at this; cases this
  stay := fun x o e => by
    obtain ⟨o', e'⟩ := a.stay x o e
    exact b.stay x o' e'
  tup := fun x vs e => b.tup x vs (a.tup x vs e)
  frz := fun x vs e => b.frz x vs (a.frz x vs e)
theorem Ext.none_of (e : Ext K R h H R1 h1 H1) {a : Addr} (q : H1 a = none) : H a = none := by
  cases z : H a with
  | none => rfl
  | some o =>
    obtain ⟨o', e'⟩ := e.stay _ o z
    rw [q] at e'; cases e'
theorem Ext.r0 (e : Ext K R h H R1 h1 H1) {d : D} {v : V} (r : R0 K H R h.length d v) : R0 K H1 R1 h1.length d v :=
  R0_mono e.frz e.tup (fun i hi => ⟨Nat.lt_of_lt_of_le hi e.len, e.agr i hi⟩) d v r
theorem Ext.r0s (e : Ext K R h H R1 h1 H1) {d : List D} {v : List V} (r : R0s K H R h.length d v) : R0s K H1 R1 h1.length d v :=
  R0s_mono e.frz e.tup (fun i hi => ⟨Nat.lt_of_lt_of_le hi e.len, e.agr i hi⟩) d v r
theorem Ext.srel (e : Ext K R h H R1 h1 H1) {τ : Sd} {σ : L2.St} (r : SRel K H R h.length τ σ) : SRel K H1 R1 h1.length τ σ :=
  ⟨r.len, fun i d q => let ⟨v, a, b⟩ := r.at_ i d q; ⟨v, a, e.r0 b⟩⟩
/-- a new entry's place is not one that stood -/
theorem Ext.ne (e : Ext K R h H R1 h1 H1) {a : Addr} {o : HO} (q : H a = some o) (n : ∀ i, i < h.length → R i ≠ a) : ∀ i, i < h1.length → R1 i ≠ a := fun i hi z => by
  by_cases hl : i < h.length
  · exact n i hl ((e.agr i hl).symm.trans z)
  · have := e.fresh i (Nat.not_lt.mp hl) hi
    rw [z, q] at this; cases this
theorem dcRel.ext (e : Ext K R h H R1 h1 H1) {tk : Bool} {ks vs : List D} {o : Option HO} (r : dcRel K H R h.length tk ks vs o) : dcRel K H1 R1 h1.length tk ks vs o := by
  rcases r with ⟨t, kvs, a, b, c⟩ | ⟨t, kvs, a, b, c⟩
  · exact .inl ⟨t, kvs, a, b, e.r0s c⟩
  · exact .inr ⟨t, kvs, a, b, e.r0s c⟩
/-- a value stays while something else is reckoned -/
theorem Ext.rt (e : Ext K R h H R1 h1 H1) {G : Hp} {d : D} {v : V} (r : RT K H R h.length G d v) : RT K H1 R1 h1.length G d v := by
  cases d with
  | tl ds =>
    obtain ⟨a, vs, e1, n, q, r, ne⟩ := r
    exact ⟨a, vs, e1, n, e.frame a _ q ne, e.r0s r, e.ne q ne⟩
  | td tk ks ws =>
    obtain ⟨a, e1, n, q, ne⟩ := r
    have hs : ∃ o, H a = some o := by
      rcases q with ⟨_, kvs, a, _⟩ | ⟨_, kvs, a, _⟩ <;> exact ⟨_, a⟩
    obtain ⟨o, ho⟩ := hs
    refine ⟨a, e1, n, ?_, e.ne ho ne⟩
    rw [e.frame a _ ho ne, ← ho]
    exact q.ext e
  | _ => exact e.r0 r
/-- .. told from an earlier start -/
theorem RT.from (g : ∀ a, H a = none → H2 a = none) {R : Nat → Addr} {n : Nat} {d : D} {v : V} (r : RT K H1 R n H d v) : RT K H1 R n H2 d v := by
  cases d with
  | tl ds =>
    obtain ⟨a, vs, e1, n, q⟩ := r
    exact ⟨a, vs, e1, g _ n, q⟩
  | td tk ks ws =>
    obtain ⟨a, e1, n, q⟩ := r
    exact ⟨a, e1, g _ n, q⟩
  | _ => exact r
theorem RT.of {G : Hp} {R : Nat → Addr} {n : Nat} {d : D} {v : V} (r : R0 K H R n d v) : RT K H R n G d v := by
  cases d with
  | tl ds => simp only [R0] at r
  | td tk ks ws => simp only [R0] at r
  | _ => exact r

/-- what is wanted behind an expression -/
def Post (K : PySem.W.Frag) (R : Nat → Addr) (h : Hd) (H : Hp) (P : D → Hd → Prop) (Q : VK) : Prop :=
  ∀ R' h' H' d v, Ext K R h H R' h' H' → HRel K H' R' h' → RT K H' R' h'.length H d v → P d h' → Q v H'
theorem Post.on {P : D → Hd → Prop} {Q : VK} (p : Post K R h H P Q) (e : Ext K R h H R1 h1 H1) : Post K R1 h1 H1 P Q :=
  fun R' h' H' d v e' hr rt q => p R' h' H' d v (e.trans e') hr (rt.from fun _ => e.none_of) q
end

abbrev TEd := Sd → Hd → (D → Hd → Prop) → Prop
abbrev TTd := Sd → Hd → (Bool → Hd → Prop) → Prop
abbrev TAd := Sd → Hd → (List D → Hd → Prop) → Prop
structure Endd where
  nx : Sd → Hd → Prop
  rt : D → Hd → Prop
  bk : Sd → Hd → Prop
  ct : Sd → Hd → Prop
abbrev TSd := Endd → Sd → Hd → Prop
/-- a reading over values as a reading over HandS's -/
def lift (K : PySem.W.Frag) (t : TEd) : TE := fun σ H Q => ∃ R τ h P, SRel K H R h.length τ σ ∧ HRel K H R h ∧ t τ h P ∧ Post K R h H P Q
def liftT (K : PySem.W.Frag) (t : TTd) : TT := fun σ H Q => ∃ R τ h P, SRel K H R h.length τ σ ∧ HRel K H R h ∧ t τ h P ∧
  ∀ R' h' H' b, Ext K R h H R' h' H' → HRel K H' R' h' → P b h' → Q b H'
def liftS (K : PySem.W.Frag) (t : TSd) : TS := fun Z σ H => ∃ R τ h, ∃ P : Endd, SRel K H R h.length τ σ ∧ HRel K H R h ∧ t P τ h ∧
  (∀ R' h' H' τ' σ', Ext K R h H R' h' H' → HRel K H' R' h' → SRel K H' R' h'.length τ' σ' → P.nx τ' h' → Z.nx σ' H') ∧
  (∀ R' h' H' d v, Ext K R h H R' h' H' → HRel K H' R' h' → RT K H' R' h'.length H d v → P.rt d h' → Z.rt v H') ∧
  (∀ R' h' H' τ' σ', Ext K R h H R' h' H' → HRel K H' R' h' → SRel K H' R' h'.length τ' σ' → P.bk τ' h' → Z.bk σ' H') ∧
  (∀ R' h' H' τ' σ', Ext K R h H R' h' H' → HRel K H' R' h' → SRel K H' R' h'.length τ' σ' → P.ct τ' h' → Z.ct σ' H')

theorem PE.imp {X : Cx} {e : Expr} {t u : TE} (p : PE X e t) (h : ∀ σ H Q, u σ H Q → t σ H Q) : PE X e u := ⟨fun pins s σ H Q I w => p.run pins s σ H Q I (h _ _ _ w)⟩
theorem PT.imp {X : Cx} {e : Expr} {t u : TT} (p : PT X e t) (h : ∀ σ H Q, u σ H Q → t σ H Q) : PT X e u := ⟨fun pins s σ H Q I w => p.run pins s σ H Q I (h _ _ _ w)⟩
theorem PA.imp {X : Cx} {e : List Expr} {t u : TA} (p : PA X e t) (h : ∀ σ H Q, u σ H Q → t σ H Q) : PA X e u := ⟨fun po pins s σ H Q I w => p.run po pins s σ H Q I (h _ _ _ w)⟩
theorem PS.imp {X : Cx} {e : Stmt} {t u : TS} (p : PS X e t) (h : ∀ Z σ H, u Z σ H → t Z σ H) : PS X e u := ⟨fun pins s σ H Q I w => p.run pins s σ H Q I (h _ _ _ w)⟩
theorem PSs.imp {X : Cx} {e : List Stmt} {t u : TS} (p : PSs X e t) (h : ∀ Z σ H, u Z σ H → t Z σ H) : PSs X e u := ⟨fun pins s σ H Q I w => p.run pins s σ H Q I (h _ _ _ w)⟩
end Py

namespace Py
open PySem PySem.Spec PyProof.Rows L2

abbrev PD := D → Hd → Prop
/-- what a list, or a tuple or list, holds -/
def lstOf (h : Hd) : D → Option (List D)
  | .tl xs => some xs
  | .loc a => match h[a]? with
    | some (.lst xs) => some xs
    | _ => none
  | .rl xs => some xs
  | _ => none
def seqOf (h : Hd) : D → Option (List D)
  | .tup xs => some xs
  | d => lstOf h d

-- data without places
mutual
def D.pure : D → Bool
  | .tup xs => D.pures xs
  | .loc _ => false
  | .tl _ => false
  | .td _ _ _ => false
  | .rl _ => false
  | _ => true
def D.pures : List D → Bool
  | [] => true
  | d :: ds => D.pure d && D.pures ds
end
mutual
def D.pd : D → PyData
  | .non => .none
  | .bl b => .bool b
  | .int i => .int i
  | .str x => .str x
  | .tup xs => .tuple (D.pds xs)
  | .loc _ => .none
  | .tl _ => .none
  | .td _ _ _ => .none
  | .rl _ => .none
def D.pds : List D → List PyData
  | [] => []
  | d :: ds => D.pd d :: D.pds ds
end
/-- a list that is not the script -/
def mutOf (h : Hd) : D → Option (List D)
  | .rl _ => none
  | d => lstOf h d
/-- the data that a value is now -/
def snap (h : Hd) (d : D) : Option PyData :=
  if d.pure then some d.pd else match lstOf h d with
    | some xs => if D.pures xs then some (.list (D.pds xs)) else none
    | none => none

/-! ### operators by values -/
def addW (x y : D) (h : Hd) (Q : PD) : Prop := match x, y with
  | .int i, .int j => Q (.int (i + j)) h
  | .str a, .str b => a.length + b.length ≤ sizeLine ∧ Q (.str (a ++ b)) h
  | .tup a, .tup b => a.length + b.length ≤ sizeLine ∧ Q (.tup (a ++ b)) h
  | x, y => match mutOf h x, mutOf h y with
    | some a, some b => a.length + b.length ≤ sizeLine ∧ Q (.tl (a ++ b)) h
    | _, _ => False
def subW (x y : D) (h : Hd) (Q : PD) : Prop := match x, y with
  | .int i, .int j => Q (.int (i - j)) h
  | _, _ => False
/-- sizes of a product's factors -/
def mulOk (i j : Int) : Prop := CMul i j ∨ CMulW i j
def mulW (x y : D) (h : Hd) (Q : PD) : Prop := match x, y with
  | .int i, .int j => mulOk i j ∧ Q (.int (i * j)) h
  | .tup a, .int k => (-(2 ^ 63) ≤ k ∧ k ≤ 1000 ∧ a.length ≤ 1000) ∧ Q (.tup (List.replicate k.toNat a).flatten) h
  | x, .int k => match mutOf h x with
    | some a => a.length * k.toNat ≤ sizeLine ∧ -(2 ^ 63) ≤ k ∧ k < 2 ^ 63 ∧ Q (.tl (List.replicate k.toNat a).flatten) h
    | none => False
  | _, _ => False
def divOk (j : Int) : Prop := j ≠ 0 ∧ j.natAbs.log2 < 9000
def fdivW (x y : D) (h : Hd) (Q : PD) : Prop := match x, y with
  | .int i, .int j => divOk j ∧ Q (.int (i.fdiv j)) h
  | _, _ => False
def modW (x y : D) (h : Hd) (Q : PD) : Prop := match x, y with
  | .int i, .int j => j ≠ 0 ∧ Q (.int (i.fmod j)) h
  | _, _ => False
def powW (x y : D) (h : Hd) (Q : PD) : Prop := match x, y with
  | .int i, .int j => (0 ≤ j ∧ j ≤ 1000000 ∧ i.natAbs < 2 ^ 64) ∧ Q (.int (i ^ j.toNat)) h
  | _, _ => False
def negW (x : D) (h : Hd) (Q : PD) : Prop := match x with
  | .int i => Q (.int (-i)) h
  | _ => False
/-- x == y -/
def eqW (x y : D) (h : Hd) (Q : Bool → Hd → Prop) : Prop := match x, y with
  | .int i, .int j => Q (decide (i = j)) h
  | .str i, .str j => Q (decide (i = j)) h
  | .bl i, .bl j => Q (decide (i = j)) h
  | x, y => match snap h x, snap h y with
    | some a, some b => SeqAt.shaped a = true ∧ SeqAt.shaped b = true ∧ Q (PyData.eqv a b) h
    | _, _ => False
/-- an order -/
def ordW (f : Int → Int → Bool) (x y : D) (h : Hd) (Q : Bool → Hd → Prop) : Prop := match x, y with
  | .int i, .int j => Q (f i j) h
  | _, _ => False
def isNonD : D → Bool
  | .non => true | _ => false
def isBlD (b : Bool) : D → Bool
  | .bl c => c == b | _ => false
/-- x is y: none and truths -/
def isW (x y : D) (h : Hd) (Q : Bool → Hd → Prop) : Prop := match y with
  | .non => Q (isNonD x) h
  | .bl b => Q (isBlD b x) h
  | _ => False
def flatD : D → Bool
  | .non => true | .bl _ => true | .int _ => true | .str _ => true | _ => false
def flatB : D → Bool
  | .bl _ => true | _ => false
def flatI : D → Bool
  | .int _ => true | _ => false
/-- equality of flat values, no truth beside a number -/
def feq : D → D → Bool
  | .non, .non => true
  | .bl a, .bl b => a == b
  | .int a, .int b => a == b
  | .str a, .str b => a == b
  | _, _ => false
/-- x in y, y a tuple or list -/
def inW (x y : D) (h : Hd) (Q : Bool → Hd → Prop) : Prop := match seqOf h y with
  | some ys => (flatD x = true ∧ ys.all flatD = true ∧ ¬ (flatB x = true ∧ ys.any flatI = true) ∧ ¬ (flatI x = true ∧ ys.any flatB = true)) ∧ Q (ys.any fun z => feq z x) h
  | none => False
/-- x[y] -/
def idxW (x y : D) (h : Hd) (Q : PD) : Prop := match y with
  | .int i => match x with
    | .str z => z.length ≤ sizeLine ∧ (match atI z.cps.toList i with
      | some c => Q (.str ⟨#[c]⟩) h
      | none => False)
    | x => match seqOf h x with
      | some xs => (match atI xs i with
        | some v => Q v h
        | none => False)
      | none => False
  | _ => False
/-- a part's place -/
def partW (x : D) : Option Int := match x with
  | .int i => some i
  | _ => none
def cutD (xs : List D) (lo hi : Option Int) : List D := (xs.drop (HT.sIx xs.length 0 lo)).take (HT.sIx xs.length xs.length hi - HT.sIx xs.length 0 lo)
def slW (x : D) (lo hi : Option Int) (h : Hd) (Q : PD) : Prop := match x with
  | .tup xs => Q (.tup (cutD xs lo hi)) h
  | x => match lstOf h x with
    | some xs => Q (.tl (cutD xs lo hi)) h
    | none => False
def revW (x : D) (h : Hd) (Q : PD) : Prop := match lstOf h x with
  | some xs => Q (.tl xs.reverse) h
  | none => False
/-! ### built-in functions by values -/
def lenW (x : D) (h : Hd) (Q : PD) : Prop := match x with
  | .str z => z.length ≤ sizeLine ∧ Q (.int z.length) h
  | x => match seqOf h x with
    | some xs => Q (.int xs.length) h
    | none => False
def absW (x : D) (h : Hd) (Q : PD) : Prop := match x with
  | .int i => Q (.int (if i < 0 then -i else i)) h
  | _ => False
def intW (x : D) (h : Hd) (Q : PD) : Prop := match x with
  | .int i => Q (.int i) h
  | .bl b => Q (.int (if b then 1 else 0)) h
  | _ => False
def gcdW (x y : D) (h : Hd) (Q : PD) : Prop := match x, y with
  | .int i, .int j => Q (.int ((Nat.gcd i.natAbs j.natAbs : Nat) : Int)) h
  | _, _ => False
def listW (x : D) (h : Hd) (Q : PD) : Prop := match seqOf h x with
  | some xs => Q (.tl xs) h
  | none => False
def tupleW (x : D) (h : Hd) (Q : PD) : Prop := match seqOf h x with
  | some xs => Q (.tup xs) h
  | none => False
def bitsW (x : D) (h : Hd) (Q : PD) : Prop := match x with
  | .int i => Q (.int (Builtin.Int.intBits i : Nat)) h
  | _ => False
/-- lists of numbers, of truths -/
def intsOf : List D → Option (List Int)
  | [] => some []
  | .int i :: r => match intsOf r with
    | some is => some (i :: is)
    | none => none
  | _ :: _ => none
def blsOf : List D → Option (List Bool)
  | [] => some []
  | .bl i :: r => match blsOf r with
    | some is => some (i :: is)
    | none => none
  | _ :: _ => none
def intsAt (h : Hd) (x : D) : Option (List Int) := match lstOf h x with
  | some xs => intsOf xs
  | none => none
def blsAt (h : Hd) (x : D) : Option (List Bool) := match lstOf h x with
  | some xs => blsOf xs
  | none => none
def sortI (ns : List Int) : List Int := ns.mergeSort fun a b => decide (a ≤ b)
def anyW (x : D) (h : Hd) (Q : PD) : Prop := match blsAt h x with
  | some bs => Q (.bl (bs.any id)) h
  | none => False
def allW (x : D) (h : Hd) (Q : PD) : Prop := match blsAt h x with
  | some bs => Q (.bl (bs.all id)) h
  | none => False
def sumW (x : D) (h : Hd) (Q : PD) : Prop := match intsAt h x with
  | some ns => Q (.int ns.sum) h
  | none => False
def maxLW (x : D) (h : Hd) (Q : PD) : Prop := match intsAt h x with
  | some ns => (match ns.max? with
    | some m => Q (.int m) h
    | none => False)
  | none => False
def minLW (x : D) (h : Hd) (Q : PD) : Prop := match intsAt h x with
  | some ns => (match ns.min? with
    | some m => Q (.int m) h
    | none => False)
  | none => False
def max2W (x y : D) (h : Hd) (Q : PD) : Prop := match x, y with
  | .int i, .int j => Q (.int (if j > i then j else i)) h
  | _, _ => False
def min2W (x y : D) (h : Hd) (Q : PD) : Prop := match x, y with
  | .int i, .int j => Q (.int (if j < i then j else i)) h
  | _, _ => False
def intsSq (h : Hd) (x : D) : Option (List Int) := match seqOf h x with
  | some xs => intsOf xs
  | none => none
def sortedW (x : D) (h : Hd) (Q : PD) : Prop := match intsSq h x with
  | some ns => Q (.tl ((sortI ns).map D.int)) h
  | none => False
def sortedSetW (x : D) (h : Hd) (Q : PD) : Prop := match intsAt h x with
  | some ns => ns.length < 64 ∧ ∀ us : List Int, us.Pairwise (· < ·) → (∀ k, k ∈ us ↔ k ∈ ns) → Q (.tl (us.map D.int)) h
  | none => False
def lenSetW (x : D) (h : Hd) (Q : PD) : Prop := match intsAt h x with
  | some ns => ns.length < 4000 ∧ ∀ us : List Int, us.Nodup → (∀ k, k ∈ us ↔ k ∈ ns) → Q (.int us.length) h
  | none => False
/-- isinstance(x, T) -/
def isInst (T : String) (h : Hd) : D → Option Bool
  | .non => some (T == "NoneType")
  | .bl _ => some (T == "bool" || T == "int")
  | .int _ => some (T == "int")
  | .str _ => some (T == "str")
  | .tup _ => some (T == "tuple")
  | .tl _ => some (T == "list")
  | .td _ _ _ => some (T == "dict")
  | .rl _ => some (T == "list")
  | .loc a => match h[a]? with
    | some (.lst _) => some (T == "list")
    | some (.dct _ _ _) => some (T == "dict")
    | _ => none
def instW (T : String) (x : D) (h : Hd) (Q : PD) : Prop := match isInst T h x with
  | some b => Q (.bl b) h
  | none => False
/-! ### methods by values -/
def appendW (o x : D) (h : Hd) (Q : PD) : Prop := match o with
  | .loc a => match h[a]? with
    | some (.lst xs) => xs.length < sizeLine ∧ Q .non (h.set a (.lst (xs ++ [x])))
    | _ => False
  | _ => False
def popW (o : D) (h : Hd) (Q : PD) : Prop := match o with
  | .loc a => match h[a]? with
    | some (.lst xs) => (match xs[xs.length - 1]? with
      | some y => Q y (h.set a (.lst xs.dropLast))
      | none => False)
    | _ => False
  | _ => False
def reverseW (o : D) (h : Hd) (Q : PD) : Prop := match o with
  | .loc a => match h[a]? with
    | some (.lst xs) => Q .non (h.set a (.lst xs.reverse))
    | _ => False
  | _ => False
def setIdxW (o i v : D) (h : Hd) (k : Hd → Prop) : Prop := match o, i with
  | .loc a, .int j => match h[a]? with
    | some (.lst xs) => (match ixN xs.length j with
      | some n => k (h.set a (.lst (xs.set n v)))
      | none => False)
    | _ => False
  | _, _ => False
/-- a value gets a place of its own -/
def mat (d : D) (h : Hd) (Q : PD) : Prop := match d with
  | .tl xs => Q (.loc h.length) (h ++ [.lst xs])
  | .td tk ks vs => Q (.loc h.length) (h ++ [.dct tk ks vs])
  | d => Q d h
/-- a value's truth -/
def truth (h : Hd) : D → Option Bool
  | .non => some false
  | .bl b => some b
  | .int i => some (i != 0)
  | .tup xs => some (!xs.isEmpty)
  | .str _ => none
  | d => match lstOf h d with
    | some xs => some (!xs.isEmpty)
    | none => none

inductive Prim where
  | add | sub | mul | fdiv | mod | pow | neg
  | eq | ne | lt | le | gt | ge | is_ | isnot | in_ | notin
  | idx | slLo | slHi | rev
  | len | abs | int1 | gcd | list | tuple | bits | inst (T : String)
  | pop | reverse
  | any | all | sum | maxL | minL | sorted | max2 | min2 | sortedSet | lenSet
  deriving DecidableEq

def bo (Q : PD) : Bool → Hd → Prop := fun b h => Q (.bl b) h
def bon (Q : PD) : Bool → Hd → Prop := fun b h => Q (.bl (!b)) h
def wpP : Prim → List D → Hd → PD → Prop
  | .add, [x, y], h, Q => addW x y h Q
  | .sub, [x, y], h, Q => subW x y h Q
  | .mul, [x, y], h, Q => mulW x y h Q
  | .fdiv, [x, y], h, Q => fdivW x y h Q
  | .mod, [x, y], h, Q => modW x y h Q
  | .pow, [x, y], h, Q => powW x y h Q
  | .neg, [x], h, Q => negW x h Q
  | .eq, [x, y], h, Q => eqW x y h (bo Q)
  | .ne, [x, y], h, Q => eqW x y h (bon Q)
  | .lt, [x, y], h, Q => ordW (fun i j => decide (i < j)) x y h (bo Q)
  | .le, [x, y], h, Q => ordW (fun i j => decide (i ≤ j)) x y h (bo Q)
  | .gt, [x, y], h, Q => ordW (fun i j => decide (j < i)) x y h (bo Q)
  | .ge, [x, y], h, Q => ordW (fun i j => decide (j ≤ i)) x y h (bo Q)
  | .is_, [x, y], h, Q => isW x y h (bo Q)
  | .isnot, [x, y], h, Q => isW x y h (bon Q)
  | .in_, [x, y], h, Q => inW x y h (bo Q)
  | .notin, [x, y], h, Q => inW x y h (bon Q)
  | .idx, [x, y], h, Q => idxW x y h Q
  | .slLo, [x, y], h, Q => match partW y with | some i => slW x (some i) none h Q | none => False
  | .slHi, [x, y], h, Q => match partW y with | some i => slW x none (some i) h Q | none => False
  | .rev, [x], h, Q => revW x h Q
  | .len, [x], h, Q => lenW x h Q
  | .abs, [x], h, Q => absW x h Q
  | .int1, [x], h, Q => intW x h Q
  | .gcd, [x, y], h, Q => gcdW x y h Q
  | .list, [x], h, Q => listW x h Q
  | .tuple, [x], h, Q => tupleW x h Q
  | .bits, [x], h, Q => bitsW x h Q
  | .inst T, [x], h, Q => instW T x h Q
  | .pop, [x], h, Q => popW x h Q
  | .reverse, [x], h, Q => reverseW x h Q
  | .any, [x], h, Q => anyW x h Q
  | .all, [x], h, Q => allW x h Q
  | .sum, [x], h, Q => sumW x h Q
  | .maxL, [x], h, Q => maxLW x h Q
  | .minL, [x], h, Q => minLW x h Q
  | .sorted, [x], h, Q => sortedW x h Q
  | .max2, [x, y], h, Q => max2W x y h Q
  | .min2, [x, y], h, Q => min2W x y h Q
  | .sortedSet, [x], h, Q => sortedSetW x h Q
  | .lenSet, [x], h, Q => lenSetW x h Q
  | _, _, _, _ => False

/-- methods with arguments -/
inductive MP where
  | append
  deriving DecidableEq
def tyM : MP → Hd → D → Prop
  | .append, h, x => (mutOf h x).isSome = true
def wpM : MP → D → List D → Hd → PD → Prop
  | .append, x, [y], h, Q => appendW x y h Q
  | _, _, _, _, _ => False
/-! ### the resolved syntax -/
inductive Pat where
  | nm (i : Nat) | tp (is : List Nat)
inductive CE where
  | var (i : Nat) | cst (d : D) | glob (i : Nat)
  | anil | acons (e r : CE)
  | tup (as : CE) | lst (as : CE) | prim (p : Prim) (as : CE) | meth (m : MP) (o as : CE) | call (f : Nat) (as : CE)
  | ife (t a b : CE) | and_ (a b : CE) | or_ (a b : CE) | not_ (a : CE)
  | chain (p q : Prim) (a b c : CE) | sl2 (a b c : CE)
  | r1 (a : CE) | r2 (a b : CE)
  | comp (p : Pat) (it : CE) (cond : Option Unit) (c : CE) (elt : CE)
/-- what is walked -/
inductive Iter where
  | vals (xs : List D) | live (a : Nat) (xs : List D)
def Iter.xs : Iter → List D
  | .vals xs => xs
  | .live _ xs => xs
def Iter.ok : Iter → Hd → Prop
  | .vals _, _ => True
  | .live a xs, h => h[a]? = some (.lst xs)
def setAll : Sd → List Nat → List D → Sd
  | τ, i :: is, d :: ds => setAll (τ.set i (some d)) is ds
  | τ, _, _ => τ
def bindW (p : Pat) (d : D) (τ : Sd) (k : Sd → Prop) : Prop := match p with
  | .nm i => k (τ.set i (some d))
  | .tp is => match d with
    | .tup ds => ds.length = is.length ∧ k (setAll τ is ds)
    | _ => False
def Pat.ix : Pat → List Nat
  | .nm i => [i]
  | .tp is => is
def wipeD (τ : Sd) : List Nat → Sd
  | [] => τ
  | v :: vs => (wipeD τ vs).set v none
/-- the turns of a comprehension -/
def compW (ok : Hd → Prop) (p : Pat) (cond : TTd) (elt : TEd) (τ : Sd) (Q : List D → Hd → Prop) : List D → List D → Hd → Prop
  | [], acc, h => ok h ∧ Q acc h
  | x :: xs, acc, h => ok h ∧ bindW p x τ fun τ' => cond τ' h fun b h1 =>
      if b = true then elt τ' h1 fun y h2 => mat y h2 fun z h3 => acc.length < sizeLine ∧ compW ok p cond elt τ Q xs (acc ++ [z]) h3
      else compW ok p cond elt τ Q xs acc h1
abbrev CallD := Nat → List D → Hd → PD → Prop
abbrev TId := Sd → Hd → (Iter → Hd → Prop) → Prop
def rangeD (lo : Int) (n : Nat) : List D := (List.range n).map fun (i : Nat) => D.int (lo + (i : Int))
def chrs (x : Str) : List D := x.cps.toList.map fun c => D.str ⟨#[c]⟩
/-- the four readings of a piece of syntax: as a value, as a test, as arguments (true: each gets a place), as what is walked -/
structure RD where
  e : TEd
  t : TTd
  a : Bool → TAd
  i : TId
def tstOf (e : TEd) : TTd := fun τ h Q => e τ h fun d h' => match truth h' d with | some k => Q k h' | none => False
def itOf (e : TEd) : TId := fun τ h K => e τ h fun d h' => match d with
    | .tup xs => K (.vals xs) h'
    | .tl xs => K (.vals xs) h'
    | .rl xs => K (.vals xs) h'
    | .str x => x.length ≤ sizeLine ∧ K (.vals (chrs x)) h'
    | .loc a => match h'[a]? with
      | some (.lst xs) => K (.live a xs) h'
      | _ => False
    | _ => False
def mkR (e : TEd) : RD := ⟨e, tstOf e, fun _ _ _ _ => False, itOf e⟩
def varE (i : Nat) : TEd := fun τ h Q => match τ[i]? with | some (some d) => Q d h | _ => False
def cstE (d : D) : TEd := fun _ h Q => Q d h
def tupE (as : Bool → TAd) : TEd := fun τ h Q => as true τ h fun ds h' => ds.length ≤ sizeLine ∧ Q (.tup ds) h'
def lstE (as : Bool → TAd) : TEd := fun τ h Q => as true τ h fun ds h' => ds.length ≤ sizeLine ∧ Q (.tl ds) h'
def primE (p : Prim) (as : Bool → TAd) : TEd := fun τ h Q => as false τ h fun ds h' => wpP p ds h' Q
def methE (m : MP) (o : TEd) (as : Bool → TAd) : TEd := fun τ h Q => o τ h fun x h1 => tyM m h1 x ∧ as true τ h1 fun ds h2 => wpM m x ds h2 Q
def callE (cl : CallD) (f : Nat) (as : Bool → TAd) : TEd := fun τ h Q => as true τ h fun ds h' => cl f ds h' Q
def iteE (t : TTd) (a b : TEd) : TEd := fun τ h Q => t τ h fun k h' => if k = true then a τ h' Q else b τ h' Q
def andE (a b : TEd) : TEd := fun τ h Q => a τ h fun d h' => ∃ k, d = .bl k ∧ if k = true then b τ h' Q else Q (.bl false) h'
def orE (a b : TEd) : TEd := fun τ h Q => a τ h fun d h' => ∃ k, d = .bl k ∧ if k = true then Q (.bl true) h' else b τ h' Q
def notE (a : TEd) : TEd := fun τ h Q => a τ h fun d h' => ∃ k, d = .bl k ∧ Q (.bl (!k)) h'
def andT (a b : TTd) : TTd := fun τ h Q => a τ h fun k h' => if k = true then b τ h' Q else Q false h'
def orT (a b : TTd) : TTd := fun τ h Q => a τ h fun k h' => if k = true then Q true h' else b τ h' Q
def notT (a : TTd) : TTd := fun τ h Q => a τ h fun k h' => Q (!k) h'
def chainE (p q : Prim) (a b c : TEd) : TEd := fun τ h Q => a τ h fun x h1 => b τ h1 fun y h2 => wpP p [x, y] h2 fun r h3 => ∃ k, r = .bl k ∧
      if k = true then c τ h3 fun z h4 => wpP q [y, z] h4 Q else Q (.bl false) h3
def sl2E (a b c : TEd) : TEd := fun τ h Q => a τ h fun x h1 => b τ h1 fun y h2 => match y with
  | .int i => c τ h2 fun z h3 => match z with
    | .int j => slW x (some i) (some j) h3 Q
    | _ => False
  | _ => False
def compE (it : TId) (p : Pat) (cond : TTd) (elt : TEd) : TEd := fun τ h Q => it τ h fun w h1 => compW w.ok p cond elt (wipeD τ p.ix) (fun acc h2 => Q (.tl acc) h2) w.xs [] h1
def yesT : TTd := fun _ h Q => Q true h
def nilA : Bool → TAd := fun _ _ h Q => Q [] h
def consA (e : TEd) (r : Bool → TAd) : Bool → TAd
  | true => fun τ h Q => e τ h fun d h1 => mat d h1 fun d' h2 => r true τ h2 fun ds h3 => Q (d' :: ds) h3
  | false => fun τ h Q => e τ h fun d h1 => r false τ h1 fun ds h3 => Q (d :: ds) h3
def r1I (a : TEd) : TId := fun τ h K => a τ h fun d h' => match d with | .int n => (-(2 ^ 62) ≤ n ∧ n < 2 ^ 62) ∧ K (.vals (rangeD 0 n.toNat)) h' | _ => False
def r2I (a b : TEd) : TId := fun τ h K => a τ h fun x h1 => b τ h1 fun y h2 => match x, y with
    | .int i, .int j => (-(2 ^ 62) ≤ i ∧ i < 2 ^ 62 ∧ -(2 ^ 62) ≤ j ∧ j < 2 ^ 62) ∧ K (.vals (rangeD i (j - i).toNat)) h2
    | _, _ => False
def noE : TEd := fun _ _ _ => False
def globE (gl : List (Str × D)) (i : Nat) : TEd := fun _ h Q => match gl[i]? with | some (_, d) => Q d h | none => False
def wp (cl : CallD) (gl : List (Str × D)) : CE → RD
  | .var i => mkR (varE i)
  | .cst d => mkR (cstE d)
  | .glob i => mkR (globE gl i)
  | .tup as => mkR (tupE (wp cl gl as).a)
  | .lst as => mkR (lstE (wp cl gl as).a)
  | .prim p as => mkR (primE p (wp cl gl as).a)
  | .meth m o as => mkR (methE m (wp cl gl o).e (wp cl gl as).a)
  | .call f as => mkR (callE cl f (wp cl gl as).a)
  | .ife t a b => mkR (iteE (wp cl gl t).t (wp cl gl a).e (wp cl gl b).e)
  | .and_ a b => { mkR (andE (wp cl gl a).e (wp cl gl b).e) with t := andT (wp cl gl a).t (wp cl gl b).t }
  | .or_ a b => { mkR (orE (wp cl gl a).e (wp cl gl b).e) with t := orT (wp cl gl a).t (wp cl gl b).t }
  | .not_ a => { mkR (notE (wp cl gl a).e) with t := notT (wp cl gl a).t }
  | .chain p q a b c => mkR (chainE p q (wp cl gl a).e (wp cl gl b).e (wp cl gl c).e)
  | .sl2 a b c => mkR (sl2E (wp cl gl a).e (wp cl gl b).e (wp cl gl c).e)
  | .comp p it none _ elt => mkR (compE (wp cl gl it).i p yesT (wp cl gl elt).e)
  | .comp p it (some _) c elt => mkR (compE (wp cl gl it).i p (wp cl gl c).t (wp cl gl elt).e)
  | .anil => { mkR noE with a := nilA }
  | .acons e r => { mkR noE with a := consA (wp cl gl e).e (wp cl gl r).a }
  | .r1 a => { mkR noE with i := r1I (wp cl gl a).e }
  | .r2 a b => { mkR noE with i := r2I (wp cl gl a).e (wp cl gl b).e }
end Py

namespace Py
open PySem PySem.Spec PyProof.Rows L2

section
variable {K : PySem.W.Frag} {R : Nat → Addr} {h : Hd} {H G : Hp} {P : PD} {Q : VK} {d : D} {v : V}

theorem Post.here (p : Post K R h H P Q) (hr : HRel K H R h) (r : RT K H R h.length H d v) (q : P d h) : Q v H := p R h H d v .refl hr r q
theorem Post.int {i : Int} (p : Post K R h H P Q) (hr : HRel K H R h) (q : P (.int i) h) : Q (.int i) H := p.here hr (by rfl) q
theorem Post.bl {i : Bool} (p : Post K R h H P Q) (hr : HRel K H R h) (q : P (.bl i) h) : Q (.bl i) H := p.here hr (by rfl) q
theorem Post.str {i : Str} (p : Post K R h H P Q) (hr : HRel K H R h) (q : P (.str i) h) : Q (.str i) H := p.here hr (by rfl) q
theorem Post.non (p : Post K R h H P Q) (hr : HRel K H R h) (q : P .non h) : Q .non H := p.here hr (by rfl) q

theorem rd_upd {a p : Addr} {o u : HO} (hp : H p = none) (r : Rd H a u) : Rd (upd H p o) a u := by
  rcases r with r | ⟨ob, r⟩
  · exact .inl (by rw [upd_ne (ne_of_none r hp)]; exact r)
  · exact .inr ⟨ob, by rw [upd_ne (ne_of_none r hp)]; exact r⟩
theorem sqT_upd {a p : Addr} {o : HO} {vs : List V} (hp : H p = none) (r : SqT K H a vs) : SqT K (upd H p o) a vs := r.imp (rd_upd hp) id
theorem sqL_upd {a p : Addr} {o : HO} {vs : List V} (hp : H p = none) (r : SqL K H a vs) : SqL K (upd H p o) a vs := r.imp (rd_upd hp) id
theorem fzL_upd {a p : Addr} {o : HO} {vs : List V} (hp : H p = none) (r : FzL K H a vs) : FzL K (upd H p o) a vs :=
  r.imp (fun ⟨ob, r⟩ => ⟨ob, by rw [upd_ne (ne_of_none r hp)]; exact r⟩) id
theorem Ext.laid {p : Addr} {o : HO} (hp : H p = none) : Ext K R h H R h (upd H p o) where
  len := Nat.le_refl _
  agr := fun _ _ => rfl
  fresh := fun i h1 h2 => absurd h2 (Nat.not_lt.mpr h1)
  frame := fun a o e _ => by rw [upd_ne (ne_of_none e hp)]; exact e
  stay := fun a o e => ⟨o, by rw [upd_ne (ne_of_none e hp)]; exact e⟩
  tup := fun a vs r => sqT_upd hp r
  frz := fun a vs r => fzL_upd hp r
theorem HRel.laid {p : Addr} {o : HO} (hr : HRel K H R h) (hp : H p = none) : HRel K (upd H p o) R h := by
  refine ⟨hr.inj, fun i ob e => ?_⟩
  have x := hr.obj i ob e
  have E : Ext K R h H R h (upd H p o) := .laid hp
  cases ob with
  | lst ds =>
    obtain ⟨vs, a, b⟩ := x
    exact ⟨vs, by rw [upd_ne (ne_of_none a hp)]; exact a, E.r0s b⟩
  | dct tk ks vs =>
    have x' : dcRel K H R h.length tk ks vs (H (R i)) := x
    show dcRel K (upd H p o) R h.length tk ks vs (upd H p o (R i))
    have hne : R i ≠ p := by
      rcases x' with ⟨_, kvs, a, _⟩ | ⟨_, kvs, a, _⟩ <;> exact ne_of_none a hp
    rw [upd_ne hne]
    exact x'.ext E
  | ins c fs => exact x
/-- a new thing at p is none of the places -/
theorem HRel.nep {p : Addr} (hr : HRel K H R h) (hp : H p = none) : ∀ i, i < h.length → R i ≠ p := fun i hi => by
  have e : h[i]? = some h[i] := List.getElem?_eq_getElem hi
  have x := hr.obj i _ e
  generalize hob : h[i] = ob at x e
  cases ob with
  | lst ds => obtain ⟨vs, a, _⟩ := x; exact ne_of_none a hp
  | dct tk ks vs =>
    rcases x with ⟨_, kvs, a, _⟩ | ⟨_, kvs, a, _⟩ <;> exact ne_of_none a hp
  | ins c fs => exact x.elim

theorem rd_wr {a p : Addr} {o u w : HO} (hp : H p = some w) (nu : w ≠ u) (nf : ∀ ob, w ≠ .frz ob u) (r : Rd H a u) : Rd (upd H p o) a u := by
  rcases r with r | ⟨ob, r⟩
  · exact .inl (by rw [upd_ne (ne_of r hp (Ne.symm nu))]; exact r)
  · exact .inr ⟨ob, by rw [upd_ne (ne_of r hp (Ne.symm (nf ob)))]; exact r⟩
/-- what may be written (no tuple, nothing frozen) -/
def Wr : HO → Prop
  | .lst _ => True
  | .dK _ => True
  | .dT _ => True
  | .set _ _ => True
  | .ins _ _ _ => True
  | _ => False
theorem Ext.put {i : Nat} {o : HO} {u : DO} {w : HO} (hr : HRel K H R h) (hi : i < h.length) (hw : H (R i) = some w) (wr : Wr w) : Ext K R h H R (h.set i u) (upd H (R i) o) where
  len := by simp
  agr := fun _ _ => rfl
  fresh := fun j h1 h2 => absurd h2 (by simpa using h1)
  frame := fun a ob e n => by rw [upd_ne (Ne.symm (n i hi))]; exact e
  stay := fun a ob e => by
    by_cases q : a = R i
    · exact ⟨o, by rw [q, upd_same]⟩
    · exact ⟨ob, by rw [upd_ne q]; exact e⟩
  tup := fun a vs r => r.imp (rd_wr hw (by intro z; subst z; exact wr) fun ob z => by subst z; exact wr) id
  frz := fun a vs r => r.imp (fun ⟨ob, r⟩ => ⟨ob, by rw [upd_ne (ne_of r hw (by intro z; subst z; exact wr))]; exact r⟩) id
/-- .. what stands there now as u -/
theorem HRel.put {i : Nat} {o : HO} {u : DO} {w : HO} (hr : HRel K H R h) (hi : i < h.length) (hw : H (R i) = some w) (wr : Wr w) (new : ORel K (upd H (R i) o) R (h.set i u).length (R i) u) :
    HRel K (upd H (R i) o) R (h.set i u) := by
  have E : Ext K R h H R (h.set i u) (upd H (R i) o) := .put hr hi hw wr
  refine ⟨fun a b ha hb e => hr.inj a b (by simpa using ha) (by simpa using hb) e, fun j ob e => ?_⟩
  by_cases hj : j = i
  · subst hj
    rw [List.getElem?_set_self hi] at e
    cases e
    exact new
  · rw [List.getElem?_set_ne (Ne.symm hj)] at e
    have hjl : j < h.length := (List.getElem?_eq_some_iff.mp e).1
    have ne : R j ≠ R i := fun z => hj (hr.inj j i hjl hi z)
    have x := hr.obj j ob e
    cases ob with
    | lst ds =>
      obtain ⟨vs, a, b⟩ := x
      exact ⟨vs, by rw [upd_ne ne]; exact a, E.r0s b⟩
    | dct tk ks vs =>
      show dcRel K (upd H (R i) o) R (h.set i u).length tk ks vs (upd H (R i) o (R j))
      rw [upd_ne ne]
      exact dcRel.ext E x
    | ins c fs => exact x
theorem HRel.lst {i : Nat} {ds : List D} (hr : HRel K H R h) (e : h[i]? = some (.lst ds)) : i < h.length ∧ ∃ vs, H (R i) = some (.lst vs) ∧ R0s K H R h.length ds vs :=
  ⟨(List.getElem?_eq_some_iff.mp e).1, hr.obj i _ e⟩

/-- a new list comes back -/
theorem Post.tl {p : Addr} {ds : List D} {vs : List V} (q : Post K R h H P Q) (hr : HRel K H R h) (hp : H p = none) (r : R0s K H R h.length ds vs) (w : P (.tl ds) h) : Q (.ref p) (upd H p (.lst vs)) := by
  have E : Ext K R h H R h (upd H p (.lst vs)) := .laid hp
  exact q R h _ (.tl ds) _ E (hr.laid hp) ⟨p, vs, rfl, hp, upd_same, E.r0s r, hr.nep hp⟩ w
/-- a new tuple comes back -/
theorem Post.tup {p : Addr} {ds : List D} {vs : List V} (q : Post K R h H P Q) (hr : HRel K H R h) (hp : H p = none) (r : R0s K H R h.length ds vs) (w : P (.tup ds) h) : Q (.ref p) (upd H p (.tup vs)) := by
  have E : Ext K R h H R h (upd H p (.tup vs)) := .laid hp
  refine q R h _ (.tup ds) _ E (hr.laid hp) ?_ w
  show R0 _ _ _ _ (.tup ds) _
  simp only [R0]
  exact ⟨p, vs, rfl, .inl (.inl upd_same), E.r0s r⟩
/-- what a list value is -/
theorem RT.lst (hr : HRel K H R h) (r : RT K H R h.length G d v) {xs : List D} (e : lstOf h d = some xs) : ∃ a vs, v = .ref a ∧ SqL K H a vs ∧ R0s K H R h.length xs vs := by
  cases d with
  | tl ds =>
    obtain ⟨a, vs, e1, _, q, r, _⟩ := r
    cases e
    exact ⟨a, vs, e1, .of q, r⟩
  | rl ds =>
    have r' : R0 K H R h.length (.rl ds) v := r
    simp only [R0] at r'
    obtain ⟨a, vs, e1, q, r⟩ := r'
    cases e
    exact ⟨a, vs, e1, q.sq, r⟩
  | loc i =>
    have r' : R0 K H R h.length (.loc i) v := r
    simp only [R0] at r'
    simp only [lstOf] at e
    split at e
    · rename_i ys e2
      cases e
      obtain ⟨_, vs, q, z⟩ := hr.lst e2
      exact ⟨R i, vs, r'.2, .of q, z⟩
    · cases e
  | _ => cases e
/-- a list that is not read-only -/
theorem RT.lstM (hr : HRel K H R h) (r : RT K H R h.length G d v) {xs : List D} (e : lstOf h d = some xs) (n : ∀ ys, d ≠ .rl ys) : ∃ a vs, v = .ref a ∧ H a = some (.lst vs) ∧ R0s K H R h.length xs vs := by
  cases d with
  | tl ds =>
    obtain ⟨a, vs, e1, _, q, r, _⟩ := r
    cases e
    exact ⟨a, vs, e1, q, r⟩
  | rl ds => exact absurd rfl (n ds)
  | loc i =>
    have r' : R0 K H R h.length (.loc i) v := r
    simp only [R0] at r'
    simp only [lstOf] at e
    split at e
    · rename_i ys e2
      cases e
      obtain ⟨_, vs, q, z⟩ := hr.lst e2
      exact ⟨R i, vs, r'.2, q, z⟩
    · cases e
  | _ => cases e
theorem RT.tup {xs : List D} (r : RT K H R h.length G (.tup xs) v) : ∃ a vs, v = .ref a ∧ SqT K H a vs ∧ R0s K H R h.length xs vs := by
  have r' : R0 K H R h.length (.tup xs) v := r
  simp only [R0] at r'
  exact r'
theorem RT.seq (hr : HRel K H R h) (r : RT K H R h.length G d v) {xs : List D} (e : seqOf h d = some xs) : ∃ a vs, v = .ref a ∧ (SqL K H a vs ∨ SqT K H a vs) ∧ R0s K H R h.length xs vs := by
  cases d with
  | tup ds =>
    cases e
    obtain ⟨a, vs, e1, q, r⟩ := r.tup
    exact ⟨a, vs, e1, .inr q, r⟩
  | _ =>
    obtain ⟨a, vs, e1, q, r⟩ := r.lst hr e
    exact ⟨a, vs, e1, .inl q, r⟩

def Sim1 (K : PySem.W.Frag) (r : V → Hp → VK → Prop) (p : D → Hd → PD → Prop) : Prop :=
  ∀ R h H G x v P Q, HRel K H R h → RT K H R h.length G x v → p x h P → Post K R h H P Q → r v H Q
def Sim2 (K : PySem.W.Frag) (r : R2) (p : D → D → Hd → PD → Prop) : Prop :=
  ∀ R h H G G' x y v u P Q, HRel K H R h → RT K H R h.length G x v → RT K H R h.length G' y u → p x y h P → Post K R h H P Q → r v u H Q
end
end Py

namespace Py
open PySem PySem.Spec PyProof.Rows L2

section
variable {K : PySem.W.Frag} {R : Nat → Addr} {h : Hd} {H G : Hp} {P : PD} {Q : VK} {d : D} {v : V}
theorem RT.intE {i : Int} (r : RT K H R h.length G (.int i) v) : v = .int i := r
theorem RT.blE {i : Bool} (r : RT K H R h.length G (.bl i) v) : v = .bl i := r
theorem RT.strE {i : Str} (r : RT K H R h.length G (.str i) v) : v = .str i := r
theorem RT.nonE (r : RT K H R h.length G .non v) : v = .non := r
theorem mutOf_of {d : D} {xs : List D} (e : mutOf h d = some xs) : lstOf h d = some xs ∧ ∀ ys, d ≠ .rl ys := by
  cases d with
  | rl ys => cases e
  | _ => exact ⟨e, fun ys z => by cases z⟩
theorem RT.mlst (hr : HRel K H R h) (r : RT K H R h.length G d v) {xs : List D} (e : mutOf h d = some xs) : ∃ a vs, v = .ref a ∧ H a = some (.lst vs) ∧ R0s K H R h.length xs vs :=
  let ⟨a, b⟩ := mutOf_of e
  r.lstM hr a b
theorem R0s_nil_iff {xs : List D} {vs : List V} (r : R0s K H R h.length xs vs) : vs = [] ↔ xs = [] := by
  have := R0s_len r
  constructor
  · intro e; subst e; exact List.eq_nil_of_length_eq_zero this
  · intro e; subst e; exact List.eq_nil_of_length_eq_zero this.symm
end

def rAddD (K : PySem.W.Frag) : R2 := fun x y H Q => rI0 (fun i j => .int (i + j)) x y H Q ∨ (∃ i j, x = .str i ∧ y = .str j ∧ i.length + j.length ≤ sizeLine ∧ Q (.str (i ++ j)) H) ∨ rCatA K x y H Q ∨ rCat x y H Q
theorem ok_add {X : Cx} : OpR X (binaryOp .Add) (rAddD X.K) := op_add.or (op_add_str.or (op_catA.or op_cat))
theorem sim_add {K : PySem.W.Frag} : Sim2 K (rAddD K) addW := by
  intro R h H G G' x y v u P Q hr rx ry w p
  unfold addW at w
  split at w
  · cases rx.intE; cases ry.intE
    exact .inl ⟨_, _, rfl, rfl, p.int hr w⟩
  · cases rx.strE; cases ry.strE
    exact .inr (.inl ⟨_, _, rfl, rfl, w.1, p.str hr w.2⟩)
  · rename_i as bs
    obtain ⟨a, vs, rfl, ha, ra⟩ := rx.tup
    obtain ⟨b, us, rfl, hb, rb⟩ := ry.tup
    refine .inr (.inr (.inl ⟨a, b, vs, us, rfl, rfl, ha, hb, by rw [← R0s_len ra, ← R0s_len rb]; exact w.1, fun e => ?_, fun e1 e2 => ?_, fun e1 e2 q hq => ?_⟩))
    · have e' := (R0s_nil_iff ra).mp e
      subst e'
      exact p.here (d := .tup bs) hr (by show R0 _ _ _ _ (.tup bs) _; simp only [R0]; exact ⟨b, us, rfl, hb, rb⟩) (by simpa using w.2)
    · have e' := (R0s_nil_iff rb).mp e2
      subst e'
      exact p.here (d := .tup as) hr (by show R0 _ _ _ _ (.tup as) _; simp only [R0]; exact ⟨a, vs, rfl, ha, ra⟩) (by simpa using w.2)
    · exact p.tup hr hq (R0s_append ra rb) w.2
  · split at w
    · rename_i as bs ea eb
      obtain ⟨a, vs, rfl, ha, ra⟩ := rx.mlst hr ea
      obtain ⟨b, us, rfl, hb, rb⟩ := ry.mlst hr eb
      exact .inr (.inr (.inr ⟨a, b, vs, us, rfl, rfl, ha, hb, by rw [← R0s_len ra, ← R0s_len rb]; exact w.1, fun q hq => p.tl hr hq (R0s_append ra rb) w.2⟩))
    · exact w.elim
theorem sim_sub {K : PySem.W.Frag} : Sim2 K (rI0 fun i j => .int (i - j)) subW := by
  intro R h H G G' x y v u P Q hr rx ry w p
  unfold subW at w
  split at w
  · cases rx.intE; cases ry.intE
    exact ⟨_, _, rfl, rfl, p.int hr w⟩
  · exact w.elim
def rSameT (K : PySem.W.Frag) : R2 := fun x y H Q => ∃ l k xs, x = .ref l ∧ y = .int k ∧ SqT K H l xs ∧ (xs = [] ∨ k = 1) ∧ -(2 ^ 63) ≤ k ∧ k < 2 ^ 63 ∧ Q (.ref l) H
def rNoneT (K : PySem.W.Frag) : R2 := fun x y H Q => ∃ l k xs, x = .ref l ∧ y = .int k ∧ SqT K H l xs ∧ xs ≠ [] ∧ k ≤ 0 ∧ -(2 ^ 63) ≤ k ∧ ∀ p, H p = none → Q (.ref p) (upd H p (.tup []))
def rMulD (K : PySem.W.Frag) : R2 := fun x y H Q => rI CMul (fun i j => .int (i * j)) x y H Q ∨ rI CMulW (fun i j => .int (i * j)) x y H Q ∨ (rSameT K x y H Q ∨ rNoneT K x y H Q ∨ rRepT K x y H Q) ∨ rRep x y H Q
theorem ok_mul {X : Cx} : OpR X (binaryOp .Mult) (rMulD X.K) := op_mul.or (op_mulW.or ((OpR.or (r := rSameT X.K) op_same (OpR.or (r := rNoneT X.K) op_none op_repT)).or op_rep))
theorem sim_mul {K : PySem.W.Frag} : Sim2 K (rMulD K) mulW := by
  intro R h H G G' x y v u P Q hr rx ry w p
  unfold mulW at w
  split at w
  · cases rx.intE; cases ry.intE
    obtain ⟨c | c, w⟩ := w
    · exact .inl ⟨_, _, rfl, rfl, c, p.int hr w⟩
    · exact .inr (.inl ⟨_, _, rfl, rfl, c, p.int hr w⟩)
  · obtain ⟨a, vs, rfl, ha, ra⟩ := rx.tup
    cases ry.intE
    rename_i ds k
    obtain ⟨⟨c2, c3, c4⟩, w⟩ := w
    refine .inr (.inr (.inl ?_))
    by_cases hs : vs = [] ∨ k = 1
    · refine .inl ⟨a, _, vs, rfl, rfl, ha, hs, c2, by omega, p.here (d := .tup ds) hr ?_ ?_⟩
      · show R0 K H R h.length (.tup ds) _
        simp only [R0]
        exact ⟨a, vs, rfl, ha, ra⟩
      · have e : (List.replicate k.toNat ds).flatten = ds := by
          rcases hs with z | rfl
          · rw [(R0s_nil_iff ra).mp z]
            simp
          · simp
        rw [e] at w
        exact w
    · have hv : vs ≠ [] := fun z => hs (.inl z)
      by_cases hk : k ≤ 0
      · refine .inr (.inl ⟨a, _, vs, rfl, rfl, ha, hv, hk, c2, fun q hq => p.tup hr hq (ds := []) (by simp only [R0s]) ?_⟩)
        have e : k.toNat = 0 := by omega
        rw [e] at w
        exact w
      · exact .inr (.inr ⟨a, _, vs, rfl, rfl, ha, hv, by have : k ≠ 1 := fun z => hs (.inr z); omega, c3, by rw [← R0s_len ra]; exact c4, fun q hq => p.tup hr hq (R0s_flat ra _) w⟩)
  · split at w
    · rename_i as ea
      obtain ⟨a, vs, rfl, ha, ra⟩ := rx.mlst hr ea
      cases ry.intE
      obtain ⟨c1, c2, c3, w⟩ := w
      exact .inr (.inr (.inr ⟨a, _, vs, rfl, rfl, ha, c2, c3, by rw [← R0s_len ra]; exact c1, fun q hq => p.tl hr hq (R0s_flat ra _) w⟩))
    · exact w.elim
  · exact w.elim
def rDivD : R2 := rI (fun _ j => divOk j) fun i j => .int (i.fdiv j)
theorem ok_fdiv {X : Cx} : OpR X (binaryOp .FloorDiv) rDivD := opI fun _ _ _ _ _ _ _ hc q => floordiv_int hc.1 q (.inl (PyProof.noPylong_of_log2 hc.2))
theorem sim_fdiv {K : PySem.W.Frag} : Sim2 K rDivD fdivW := by
  intro R h H G G' x y v u P Q hr rx ry w p
  unfold fdivW at w
  split at w
  · cases rx.intE; cases ry.intE
    exact ⟨_, _, rfl, rfl, w.1, p.int hr w.2⟩
  · exact w.elim
theorem sim_mod {K : PySem.W.Frag} : Sim2 K (rI (fun _ j => j ≠ 0) fun i j => .int (i.fmod j)) modW := by
  intro R h H G G' x y v u P Q hr rx ry w p
  unfold modW at w
  split at w
  · cases rx.intE; cases ry.intE
    exact ⟨_, _, rfl, rfl, w.1, p.int hr w.2⟩
  · exact w.elim
theorem sim_pow {K : PySem.W.Frag} : Sim2 K (rI CPow fun i j => .int (i ^ j.toNat)) powW := by
  intro R h H G G' x y v u P Q hr rx ry w p
  unfold powW at w
  split at w
  · cases rx.intE; cases ry.intE
    exact ⟨_, _, rfl, rfl, w.1, p.int hr w.2⟩
  · exact w.elim
theorem sim_neg {K : PySem.W.Frag} : Sim1 K (rU fun i => .int (-i)) negW := by
  intro R h H G x v P Q hr rx w p
  unfold negW at w
  split at w
  · cases rx.intE
    exact ⟨_, rfl, p.int hr w⟩
  · exact w.elim

/-! ### comparisons -/
theorem sim_ord {K : PySem.W.Frag} {f : Int → Int → Bool} : Sim2 K (rI0 fun i j => .bl (f i j)) (fun x y h Q => ordW f x y h (bo Q)) := by
  intro R h H G G' x y v u P Q hr rx ry w p
  have w := w
  unfold ordW at w
  split at w
  · cases rx.intE; cases ry.intE
    exact ⟨_, _, rfl, rfl, p.bl hr w⟩
  · exact w.elim
mutual
theorem dp_of {K : PySem.W.Frag} {H : Hp} {R : Nat → Addr} {n : Nat} : ∀ (d : D) (v : V), d.pure = true → R0 K H R n d v → Dp K H v d.pd
  | .non, v, _, r => by simp only [R0] at r; subst r; exact .non
  | .bl b, v, _, r => by simp only [R0] at r; subst r; exact .bl b
  | .int b, v, _, r => by simp only [R0] at r; subst r; exact .int b
  | .str b, v, _, r => by simp only [R0] at r; subst r; exact .str b
  | .tup ds, v, p, r => by
    simp only [R0] at r
    simp only [D.pure] at p
    obtain ⟨a, vs, rfl, q, r⟩ := r
    simp only [D.pd]
    exact .tup q (dps_of ds vs p r)
  | .loc _, v, p, _ => by simp [D.pure] at p
  | .tl _, v, p, _ => by simp [D.pure] at p
  | .td _ _ _, v, p, _ => by simp [D.pure] at p
  | .rl _, v, p, _ => by simp [D.pure] at p
theorem dps_of {K : PySem.W.Frag} {H : Hp} {R : Nat → Addr} {n : Nat} : ∀ (ds : List D) (vs : List V), D.pures ds = true → R0s K H R n ds vs → DpAll K H vs (D.pds ds)
  | [], vs, _, r => by simp only [R0s] at r; subst r; exact .nil
  | d :: ds, vs, p, r => by
    simp only [R0s] at r
    simp only [D.pures, Bool.and_eq_true] at p
    obtain ⟨v, us, rfl, r1, r2⟩ := r
    simp only [D.pds]
    exact .cons (dp_of d v p.1 r1) (dps_of ds us p.2 r2)
end
theorem RT.pureR {K : PySem.W.Frag} {H G : Hp} {R : Nat → Addr} {n : Nat} {d : D} {v : V} (p : d.pure = true) (r : RT K H R n G d v) : R0 K H R n d v := by
  cases d with
  | tl _ => simp [D.pure] at p
  | td _ _ _ => simp [D.pure] at p
  | _ => exact r
theorem snap_dp {K : PySem.W.Frag} {H G : Hp} {R : Nat → Addr} {h : Hd} {d : D} {v : V} {q : PyData} (hr : HRel K H R h) (r : RT K H R h.length G d v) (e : snap h d = some q) : Dp K H v q := by
  unfold snap at e
  split at e
  · rename_i p
    cases e
    exact dp_of d v p (r.pureR p)
  · split at e
    · rename_i xs ex
      split at e
      · rename_i p
        cases e
        obtain ⟨a, vs, rfl, s, z⟩ := r.lst hr ex
        exact .lst s (dps_of xs vs p z)
      · cases e
    · cases e
theorem dV_int {i j : Int} : decide (V.int i = V.int j) = decide (i = j) := by simp
theorem dV_str {i j : Str} : decide (V.str i = V.str j) = decide (i = j) := by simp
theorem dV_bl {i j : Bool} : decide (V.bl i = V.bl j) = decide (i = j) := by simp
def rEqA (K : PySem.W.Frag) : R2 := fun x y H Q => rEq x y H Q ∨ rEqD K x y H Q
def rNeA (K : PySem.W.Frag) : R2 := fun x y H Q => rNe x y H Q ∨ rNeD K x y H Q
theorem sim_eq {K : PySem.W.Frag} : Sim2 K (rEqA K) (fun x y h Q => eqW x y h (bo Q)) := by
  intro R h H G G' x y v u P Q hr rx ry w p
  have w := w
  unfold eqW at w
  split at w
  · cases rx.intE; cases ry.intE
    refine .inl ⟨rfl, ?_⟩
    rw [dV_int]
    exact p.bl hr w
  · cases rx.strE; cases ry.strE
    refine .inl ⟨rfl, ?_⟩
    rw [dV_str]
    exact p.bl hr w
  · cases rx.blE; cases ry.blE
    refine .inl ⟨rfl, ?_⟩
    rw [dV_bl]
    exact p.bl hr w
  · split at w
    · rename_i a b ea eb
      exact .inr ⟨a, b, snap_dp hr rx ea, snap_dp hr ry eb, w.1, w.2.1, p.bl hr w.2.2⟩
    · exact w.elim
theorem sim_ne {K : PySem.W.Frag} : Sim2 K (rNeA K) (fun x y h Q => eqW x y h (bon Q)) := by
  intro R h H G G' x y v u P Q hr rx ry w p
  have w := w
  unfold eqW at w
  split at w
  · cases rx.intE; cases ry.intE
    refine .inl ⟨rfl, ?_⟩
    rw [dV_int]
    exact p.bl hr w
  · cases rx.strE; cases ry.strE
    refine .inl ⟨rfl, ?_⟩
    rw [dV_str]
    exact p.bl hr w
  · cases rx.blE; cases ry.blE
    refine .inl ⟨rfl, ?_⟩
    rw [dV_bl]
    exact p.bl hr w
  · split at w
    · rename_i a b ea eb
      exact .inr ⟨a, b, snap_dp hr rx ea, snap_dp hr ry eb, w.1, w.2.1, p.bl hr w.2.2⟩
    · exact w.elim

/-! ### is, in -/
def isNonV : V → Bool
  | .non => true | _ => false
def isBlV (b : Bool) : V → Bool
  | .bl c => c == b | _ => false
def rIsA : R2 := fun x y H Q => (y = .non ∧ Q (.bl (isNonV x)) H) ∨ (∃ b, y = .bl b ∧ Q (.bl (isBlV b x)) H)
def rIsNotA : R2 := fun x y H Q => (y = .non ∧ Q (.bl (!isNonV x)) H) ∨ (∃ b, y = .bl b ∧ Q (.bl (!isBlV b x)) H)
theorem plainIs_bool {x : V} {v : Value} {b : Bool} (r : RelV x v) (nt : ∀ n, x ≠ .ty n) : plainIs v (.bool b) = true ∧ (v == Value.bool b) = isBlV b x := by
  cases x with
  | non => cases r; exact ⟨rfl, rfl⟩
  | bl c => cases r; exact ⟨rfl, by cases c <;> cases b <;> rfl⟩
  | int i => obtain ⟨t, rfl⟩ := r; exact ⟨rfl, rfl⟩
  | str i => obtain ⟨t, rfl⟩ := r; exact ⟨rfl, rfl⟩
  | byt i => obtain ⟨t, rfl⟩ := r; exact ⟨rfl, rfl⟩
  | flt i => obtain ⟨t, rfl⟩ := r; exact ⟨rfl, rfl⟩
  | ref i => cases r; exact ⟨rfl, rfl⟩
  | ty n => exact absurd rfl (nt n)
theorem ok_is {X : Cx} : OpR X (compareOp .Is) (fun x y H Q => (∀ n, x ≠ .ty n) ∧ rIsA x y H Q) := by
  intro pins s σ H x y v u Q I rx ry h
  obtain ⟨nt, h⟩ := h
  rcases h with ⟨rfl, q⟩ | ⟨b, rfl, q⟩
  · cases ry
    refine is_none_gen (fin_bl I q ?_)
    cases x <;> first
      | (cases rx; rfl)
      | (obtain ⟨t, rfl⟩ := rx; rfl)
  · cases ry
    obtain ⟨a, e⟩ := plainIs_bool (b := b) rx nt
    refine wpAny_is_plain a ?_
    rw [e]
    exact fin_bl I q rfl
theorem ok_isnot {X : Cx} : OpR X (compareOp .IsNot) (fun x y H Q => (∀ n, x ≠ .ty n) ∧ rIsNotA x y H Q) := by
  intro pins s σ H x y v u Q I rx ry h
  obtain ⟨nt, h⟩ := h
  rcases h with ⟨rfl, q⟩ | ⟨b, rfl, q⟩
  · cases ry
    refine isnot_none_gen (fin_bl I q ?_)
    cases x <;> first
      | (cases rx; rfl)
      | (obtain ⟨t, rfl⟩ := rx; rfl)
  · cases ry
    obtain ⟨a, e⟩ := plainIs_bool (b := b) rx nt
    refine wpAny_isNot_plain a ?_
    rw [e]
    exact fin_bl I q rfl
theorem RT.noty {K : PySem.W.Frag} {H G : Hp} {R : Nat → Addr} {m : Nat} {d : D} {v : V} (r : RT K H R m G d v) : ∀ n, v ≠ .ty n := by
  intro n e
  subst e
  cases d with
  | tl _ => obtain ⟨_, _, e, _⟩ := r; cases e
  | td _ _ _ => obtain ⟨_, e, _⟩ := r; cases e
  | tup ds => have r' : R0 K H R m (.tup ds) _ := r; simp only [R0] at r'; obtain ⟨_, _, e, _⟩ := r'; cases e
  | rl ds => have r' : R0 K H R m (.rl ds) _ := r; simp only [R0] at r'; obtain ⟨_, _, e, _⟩ := r'; cases e
  | loc i => have r' : R0 K H R m (.loc i) _ := r; simp only [R0] at r'; cases r'.2
  | _ => have r' := r; simp only [RT, R0] at r'; cases r'
theorem RT.isn {K : PySem.W.Frag} {H G : Hp} {R : Nat → Addr} {m : Nat} {d : D} {v : V} (r : RT K H R m G d v) : isNonV v = isNonD d := by
  cases d with
  | tl _ => obtain ⟨_, _, e, _⟩ := r; subst e; rfl
  | td _ _ _ => obtain ⟨_, e, _⟩ := r; subst e; rfl
  | tup ds => have r' : R0 K H R m (.tup ds) _ := r; simp only [R0] at r'; obtain ⟨_, _, e, _⟩ := r'; subst e; rfl
  | rl ds => have r' : R0 K H R m (.rl ds) _ := r; simp only [R0] at r'; obtain ⟨_, _, e, _⟩ := r'; subst e; rfl
  | loc i => have r' : R0 K H R m (.loc i) _ := r; simp only [R0] at r'; rw [r'.2]; rfl
  | _ => have r' := r; simp only [RT, R0] at r'; subst r'; rfl
theorem RT.isb {K : PySem.W.Frag} {H G : Hp} {R : Nat → Addr} {m : Nat} {d : D} {v : V} {b : Bool} (r : RT K H R m G d v) : isBlV b v = isBlD b d := by
  cases d with
  | tl _ => obtain ⟨_, _, e, _⟩ := r; subst e; rfl
  | td _ _ _ => obtain ⟨_, e, _⟩ := r; subst e; rfl
  | tup ds => have r' : R0 K H R m (.tup ds) _ := r; simp only [R0] at r'; obtain ⟨_, _, e, _⟩ := r'; subst e; rfl
  | rl ds => have r' : R0 K H R m (.rl ds) _ := r; simp only [R0] at r'; obtain ⟨_, _, e, _⟩ := r'; subst e; rfl
  | loc i => have r' : R0 K H R m (.loc i) _ := r; simp only [R0] at r'; rw [r'.2]; rfl
  | _ => have r' := r; simp only [RT, R0] at r'; subst r'; rfl
theorem sim_is {K : PySem.W.Frag} : Sim2 K (fun x y H Q => (∀ n, x ≠ .ty n) ∧ rIsA x y H Q) (fun x y h Q => isW x y h (bo Q)) := by
  intro R h H G G' x y v u P Q hr rx ry w p
  have w := w
  unfold isW at w
  refine ⟨rx.noty, ?_⟩
  split at w
  · cases ry.nonE
    exact .inl ⟨rfl, by rw [rx.isn]; exact p.bl hr w⟩
  · cases ry.blE
    exact .inr ⟨_, rfl, by rw [rx.isb]; exact p.bl hr w⟩
  · exact w.elim
theorem sim_isnot {K : PySem.W.Frag} : Sim2 K (fun x y H Q => (∀ n, x ≠ .ty n) ∧ rIsNotA x y H Q) (fun x y h Q => isW x y h (bon Q)) := by
  intro R h H G G' x y v u P Q hr rx ry w p
  have w := w
  unfold isW at w
  refine ⟨rx.noty, ?_⟩
  split at w
  · cases ry.nonE
    exact .inl ⟨rfl, by rw [rx.isn]; exact p.bl hr w⟩
  · cases ry.blE
    exact .inr ⟨_, rfl, by rw [rx.isb]; exact p.bl hr w⟩
  · exact w.elim
def toV : D → V
  | .non => .non | .bl b => .bl b | .int i => .int i | .str x => .str x | _ => .non
theorem R0.flat {K : PySem.W.Frag} {H : Hp} {R : Nat → Addr} {n : Nat} {d : D} {v : V} (f : flatD d = true) (r : R0 K H R n d v) : v = toV d ∧ flatV v = true := by
  cases d with
  | non => simp only [R0] at r; subst r; exact ⟨rfl, rfl⟩
  | bl _ => simp only [R0] at r; subst r; exact ⟨rfl, rfl⟩
  | int _ => simp only [R0] at r; subst r; exact ⟨rfl, rfl⟩
  | str _ => simp only [R0] at r; subst r; exact ⟨rfl, rfl⟩
  | _ => cases f
theorem RT.flat {K : PySem.W.Frag} {H G : Hp} {R : Nat → Addr} {n : Nat} {d : D} {v : V} (f : flatD d = true) (r : RT K H R n G d v) : R0 K H R n d v := by
  cases d with
  | tl _ => cases f
  | td _ _ _ => cases f
  | _ => exact r
theorem feq_eqV {a b : D} (fa : flatD a = true) (fb : flatD b = true) (h1 : ¬ (flatB b = true ∧ flatI a = true)) (h2 : ¬ (flatI b = true ∧ flatB a = true)) : eqV (toV a) (toV b) = feq a b := by
  cases a <;> first | (cases fa; done) | (cases b <;> first | (cases fb; done) | rfl | exact absurd ⟨rfl, rfl⟩ h1 | exact absurd ⟨rfl, rfl⟩ h2)
theorem any_feq {K : PySem.W.Frag} {H : Hp} {R : Nat → Addr} {n : Nat} {x : D} {v : V} (fx : flatD x = true) (rx : R0 K H R n x v) : ∀ {ys : List D} {us : List V}, R0s K H R n ys us → ys.all flatD = true →
    ¬ (flatB x = true ∧ ys.any flatI = true) → ¬ (flatI x = true ∧ ys.any flatB = true) → us.all flatV = true ∧ inV v us = ys.any fun z => feq z x
  | [], us, r, _, _, _ => by simp only [R0s] at r; subst r; exact ⟨rfl, rfl⟩
  | y :: ys, us, r, f, h1, h2 => by
    simp only [R0s] at r
    obtain ⟨u, us', rfl, r1, r2⟩ := r
    rw [List.all_cons, Bool.and_eq_true] at f
    rw [List.any_cons, Bool.or_eq_true] at h1 h2
    obtain ⟨e1, e2⟩ := any_feq fx rx r2 f.2 (fun z => h1 ⟨z.1, .inr z.2⟩) (fun z => h2 ⟨z.1, .inr z.2⟩)
    obtain ⟨ev, fv⟩ := rx.flat fx
    obtain ⟨eu, fu⟩ := r1.flat f.1
    refine ⟨by rw [List.all_cons, fu, e1]; rfl, ?_⟩
    unfold inV at e2 ⊢
    rw [List.any_cons, List.any_cons, e2, ev, eu, feq_eqV f.1 fx (fun z => h1 ⟨z.1, .inl z.2⟩) (fun z => h2 ⟨z.1, .inl z.2⟩)]
theorem sim_in {K : PySem.W.Frag} : Sim2 K (rIn K false) (fun x y h Q => inW x y h (bo Q)) := by
  intro R h H G G' x y v u P Q hr rx ry w p
  have w := w
  unfold inW at w
  split at w
  · rename_i ys e
    obtain ⟨⟨f1, f2, f3, f4⟩, w⟩ := w
    obtain ⟨a, vs, rfl, q, r⟩ := ry.seq hr e
    have rx' := rx.flat f1
    obtain ⟨e1, e2⟩ := any_feq f1 rx' r f2 f3 f4
    refine ⟨a, vs, rfl, q, (rx'.flat f1).2, e1, ?_⟩
    rw [if_neg Bool.false_ne_true, e2]
    exact p.bl hr w
  · exact w.elim
theorem sim_notin {K : PySem.W.Frag} : Sim2 K (rIn K true) (fun x y h Q => inW x y h (bon Q)) := by
  intro R h H G G' x y v u P Q hr rx ry w p
  have w := w
  unfold inW at w
  split at w
  · rename_i ys e
    obtain ⟨⟨f1, f2, f3, f4⟩, w⟩ := w
    obtain ⟨a, vs, rfl, q, r⟩ := ry.seq hr e
    have rx' := rx.flat f1
    obtain ⟨e1, e2⟩ := any_feq f1 rx' r f2 f3 f4
    refine ⟨a, vs, rfl, q, (rx'.flat f1).2, e1, ?_⟩
    rw [if_pos rfl, e2]
    exact p.bl hr w
  · exact w.elim

/-! ### places, slices -/
theorem atI_rel {K : PySem.W.Frag} {H : Hp} {R : Nat → Addr} {n : Nat} {xs : List D} {vs : List V} {i : Int} {d : D} (r : R0s K H R n xs vs) (e : atI xs i = some d) : ∃ v, atI vs i = some v ∧ R0 K H R n d v := by
  unfold atI at e ⊢
  rw [← R0s_len r]
  cases q : ixN xs.length i with
  | none => rw [q] at e; cases e
  | some j =>
    rw [q] at e
    exact R0s_get r e
theorem RT.int_iff {K : PySem.W.Frag} {H G : Hp} {R : Nat → Addr} {n : Nat} {d : D} {v : V} (r : RT K H R n G d v) {i : Int} (e : d = .int i) : v = .int i := by subst e; exact r
theorem sim_idx {K : PySem.W.Frag} : Sim2 K (rIx K) idxW := by
  intro R h H G G' x y v u P Q hr rx ry w p
  unfold idxW at w
  split at w
  · rename_i i
    cases ry.intE
    split at w
    · cases rx.strE
      obtain ⟨hz, w⟩ := w
      split at w
      · rename_i c e
        exact .inr (.inr ⟨_, _, c, rfl, rfl, hz, e, p.str hr w⟩)
      · exact w.elim
    · split at w
      · rename_i xs e
        split at w
        · rename_i d e2
          obtain ⟨a, vs, rfl, q, r⟩ := rx.seq hr e
          obtain ⟨v, ev, rv⟩ := atI_rel r e2
          rcases q with q | q
          · exact .inl ⟨a, vs, _, v, rfl, rfl, q, ev, p.here hr (.of rv) w⟩
          · exact .inr (.inl ⟨a, vs, _, v, rfl, rfl, q, ev, p.here hr (.of rv) w⟩)
        · exact w.elim
      · exact w.elim
  · exact w.elim
theorem cut_rel {K : PySem.W.Frag} {H : Hp} {R : Nat → Addr} {n : Nat} {xs : List D} {vs : List V} {lo hi : Option Int} (r : R0s K H R n xs vs) : R0s K H R n (cutD xs lo hi) (cutV vs lo hi) := by
  unfold cutD cutV
  rw [R0s_len r]
  exact R0s_take _ (R0s_drop _ r)
theorem cut_all {xs : List D} {lo hi : Option Int} (h : HT.sIx xs.length 0 lo = 0 ∧ HT.sIx xs.length xs.length hi = xs.length) : cutD xs lo hi = xs := by
  unfold cutD
  rw [h.1, h.2]
  simp
def rSlD (K : PySem.W.Frag) : V → Option Int → Option Int → Hp → VK → Prop := fun x lo hi H Q => rSlA K x lo hi H Q ∨ rSlL K x lo hi H Q
theorem ok_sl {X : Cx} : SlR X (rSlD X.K) := sl_tupA.or sl_list
theorem sim_sl {K : PySem.W.Frag} {lo hi : Option Int} : Sim1 K (fun x H Q => rSlD K x lo hi H Q) (fun x h Q => slW x lo hi h Q) := by
  intro R h H G x v P Q hr rx w p
  have w := w
  unfold slW at w
  split at w
  · obtain ⟨a, vs, rfl, q, r⟩ := rx.tup
    refine .inl ⟨a, vs, rfl, q, fun e => ?_, fun _ b hb => p.tup hr hb (cut_rel r) w⟩
    rw [← R0s_len r] at e
    rw [cut_all e] at w
    exact p.here hr (RT.of (show R0 K H R h.length (.tup _) _ from rx)) w
  · split at w
    · rename_i xs e
      obtain ⟨a, vs, rfl, q, r⟩ := rx.lst hr e
      exact .inr ⟨a, vs, rfl, q, fun b hb => p.tl hr hb (cut_rel r) w⟩
    · exact w.elim

theorem sim_rev {K : PySem.W.Frag} : Sim1 K (fun x H Q => ∃ a xs, x = .ref a ∧ SqL K H a xs ∧ ∀ p, H p = none → Q (.ref p) (upd H p (.lst xs.reverse))) revW := by
  intro R h H G x v P Q hr rx w p
  unfold revW at w
  split at w
  · rename_i xs e
    obtain ⟨a, vs, rfl, q, r⟩ := rx.lst hr e
    exact ⟨a, vs, rfl, q, fun b hb => p.tl hr hb (R0s_reverse r) w⟩
  · exact w.elim

/-! ### built-in functions -/
def CSim1 (K : PySem.W.Frag) (r : List V → Hp → VK → Prop) (p : D → Hd → PD → Prop) : Prop := Sim1 K (fun x H Q => r [x] H Q) p
def CSim2 (K : PySem.W.Frag) (r : List V → Hp → VK → Prop) (p : D → D → Hd → PD → Prop) : Prop := Sim2 K (fun x y H Q => r [x, y] H Q) p
def rLenD (K : PySem.W.Frag) : List V → Hp → VK → Prop := fun xs H Q => ∃ x n, xs = [x] ∧ LenV K x H n ∧ Q (.int n) H
theorem sim_len {K : PySem.W.Frag} : CSim1 K (rLenD K) lenW := by
  intro R h H G x v P Q hr rx w p
  unfold lenW at w
  split at w
  · cases rx.strE
    exact ⟨_, _, rfl, ⟨w.1, rfl⟩, p.int hr w.2⟩
  · split at w
    · rename_i xs e
      obtain ⟨a, vs, rfl, q, r⟩ := rx.seq hr e
      refine ⟨_, _, rfl, ?_, p.int hr w⟩
      rcases q with q | q
      · exact .inl ⟨vs, q, R0s_len r⟩
      · exact .inr ⟨vs, q, R0s_len r⟩
    · exact w.elim
theorem sim_abs {K : PySem.W.Frag} : CSim1 K (fun xs H Q => ∃ i, xs = [.int i] ∧ Q (.int (if i < 0 then -i else i)) H) absW := by
  intro R h H G x v P Q hr rx w p
  unfold absW at w
  split at w
  · cases rx.intE
    exact ⟨_, rfl, p.int hr w⟩
  · exact w.elim
theorem sim_int {K : PySem.W.Frag} : CSim1 K (fun xs H Q => (∃ i, xs = [.int i] ∧ Q (.int i) H) ∨ ∃ k, xs = [.bl k] ∧ Q (.int (if k then 1 else 0)) H) intW := by
  intro R h H G x v P Q hr rx w p
  unfold intW at w
  split at w
  · cases rx.intE
    exact .inl ⟨_, rfl, p.int hr w⟩
  · cases rx.blE
    exact .inr ⟨_, rfl, p.int hr w⟩
  · exact w.elim
theorem sim_gcd {K : PySem.W.Frag} : CSim2 K rGcd gcdW := by
  intro R h H G G' x y v u P Q hr rx ry w p
  unfold gcdW at w
  split at w
  · cases rx.intE; cases ry.intE
    exact ⟨_, _, rfl, p.int hr w⟩
  · exact w.elim
theorem sim_list {K : PySem.W.Frag} : CSim1 K (fun xs H Q => ∃ p ys, xs = [.ref p] ∧ (SqL K H p ys ∨ SqT K H p ys) ∧ ∀ l, H l = none → Q (.ref l) (upd H l (.lst ys))) listW := by
  intro R h H G x v P Q hr rx w p
  unfold listW at w
  split at w
  · rename_i xs e
    obtain ⟨a, vs, rfl, q, r⟩ := rx.seq hr e
    exact ⟨a, vs, rfl, q, fun b hb => p.tl hr hb r w⟩
  · exact w.elim
theorem sim_tuple {K : PySem.W.Frag} : CSim1 K (fun xs H Q => ∃ p ys, xs = [.ref p] ∧ ((SqL K H p ys ∧ ∀ l, H l = none → Q (.ref l) (upd H l (.tup ys))) ∨ (SqT K H p ys ∧ Q (.ref p) H))) tupleW := by
  intro R h H G x v P Q hr rx w p
  unfold tupleW at w
  split at w
  · rename_i xs e
    obtain ⟨a, vs, rfl, q, r⟩ := rx.seq hr e
    rcases q with q | q
    · exact ⟨a, vs, rfl, .inl ⟨q, fun b hb => p.tup hr hb r w⟩⟩
    · refine ⟨a, vs, rfl, .inr ⟨q, p.here (d := .tup xs) hr ?_ w⟩⟩
      show R0 K H R h.length (.tup xs) _
      simp only [R0]
      exact ⟨a, vs, rfl, q, r⟩
  · exact w.elim
theorem ints_rel {K : PySem.W.Frag} {H : Hp} {R : Nat → Addr} {n : Nat} : ∀ {xs : List D} {ns : List Int} {vs : List V}, intsOf xs = some ns → R0s K H R n xs vs → vs = ns.map V.int
  | [], ns, vs, e, r => by
    simp only [intsOf, Option.some.injEq] at e
    subst e
    simp only [R0s] at r
    exact r
  | .int i :: xs, ns, vs, e, r => by
    simp only [intsOf] at e
    split at e
    · rename_i is e2
      cases e
      simp only [R0s, R0] at r
      obtain ⟨v, us, rfl, rfl, r⟩ := r
      rw [ints_rel e2 r]
      rfl
    · cases e
  | .non :: _, _, _, e, _ => by cases e
  | .bl _ :: _, _, _, e, _ => by cases e
  | .str _ :: _, _, _, e, _ => by cases e
  | .tup _ :: _, _, _, e, _ => by cases e
  | .loc _ :: _, _, _, e, _ => by cases e
  | .tl _ :: _, _, _, e, _ => by cases e
  | .td _ _ _ :: _, _, _, e, _ => by cases e
  | .rl _ :: _, _, _, e, _ => by cases e
theorem bls_rel {K : PySem.W.Frag} {H : Hp} {R : Nat → Addr} {n : Nat} : ∀ {xs : List D} {ns : List Bool} {vs : List V}, blsOf xs = some ns → R0s K H R n xs vs → vs = ns.map V.bl
  | [], ns, vs, e, r => by
    simp only [blsOf, Option.some.injEq] at e
    subst e
    simp only [R0s] at r
    exact r
  | .bl i :: xs, ns, vs, e, r => by
    simp only [blsOf] at e
    split at e
    · rename_i is e2
      cases e
      simp only [R0s, R0] at r
      obtain ⟨v, us, rfl, rfl, r⟩ := r
      rw [bls_rel e2 r]
      rfl
    · cases e
  | .non :: _, _, _, e, _ => by cases e
  | .int _ :: _, _, _, e, _ => by cases e
  | .str _ :: _, _, _, e, _ => by cases e
  | .tup _ :: _, _, _, e, _ => by cases e
  | .loc _ :: _, _, _, e, _ => by cases e
  | .tl _ :: _, _, _, e, _ => by cases e
  | .td _ _ _ :: _, _, _, e, _ => by cases e
  | .rl _ :: _, _, _, e, _ => by cases e
theorem ints_at {K : PySem.W.Frag} {R : Nat → Addr} {h : Hd} {H G : Hp} {x : D} {v : V} {ns : List Int} (hr : HRel K H R h) (rx : RT K H R h.length G x v) (e : intsAt h x = some ns) : ∃ a, v = .ref a ∧ SqL K H a (ns.map V.int) := by
  unfold intsAt at e
  split at e
  · rename_i xs e1
    obtain ⟨a, vs, rfl, q, r⟩ := rx.lst hr e1
    rw [ints_rel e r] at q
    exact ⟨a, rfl, q⟩
  · cases e
theorem bls_at {K : PySem.W.Frag} {R : Nat → Addr} {h : Hd} {H G : Hp} {x : D} {v : V} {ns : List Bool} (hr : HRel K H R h) (rx : RT K H R h.length G x v) (e : blsAt h x = some ns) : ∃ a, v = .ref a ∧ SqL K H a (ns.map V.bl) := by
  unfold blsAt at e
  split at e
  · rename_i xs e1
    obtain ⟨a, vs, rfl, q, r⟩ := rx.lst hr e1
    rw [bls_rel e r] at q
    exact ⟨a, rfl, q⟩
  · cases e
theorem rel_ints {K : PySem.W.Frag} {H : Hp} {R : Nat → Addr} {n : Nat} : ∀ (ns : List Int), R0s K H R n (ns.map D.int) (ns.map V.int)
  | [] => by simp [R0s]
  | n :: ns => by simp only [List.map_cons, R0s, R0]; exact ⟨_, _, rfl, rfl, rel_ints ns⟩
theorem sim_any {K : PySem.W.Frag} : CSim1 K (rAny K) anyW := by
  intro R h H G x v P Q hr rx w p
  unfold anyW at w
  split at w
  · rename_i bs e
    obtain ⟨a, rfl, q⟩ := bls_at hr rx e
    exact ⟨a, bs, rfl, q, p.bl hr w⟩
  · exact w.elim
theorem sim_all {K : PySem.W.Frag} : CSim1 K (rAll K) allW := by
  intro R h H G x v P Q hr rx w p
  unfold allW at w
  split at w
  · rename_i bs e
    obtain ⟨a, rfl, q⟩ := bls_at hr rx e
    exact ⟨a, bs, rfl, q, p.bl hr w⟩
  · exact w.elim
theorem sim_sum {K : PySem.W.Frag} : CSim1 K (rSum K) sumW := by
  intro R h H G x v P Q hr rx w p
  unfold sumW at w
  split at w
  · rename_i bs e
    obtain ⟨a, rfl, q⟩ := ints_at hr rx e
    exact ⟨a, bs, rfl, q, p.int hr w⟩
  · exact w.elim
theorem sim_maxL {K : PySem.W.Frag} : CSim1 K (rMax K) maxLW := by
  intro R h H G x v P Q hr rx w p
  unfold maxLW at w
  split at w
  · rename_i bs e
    obtain ⟨a, rfl, q⟩ := ints_at hr rx e
    split at w
    · rename_i m em
      have hm := List.max?_eq_some_iff.mp em
      refine ⟨a, bs, rfl, q, List.length_pos_of_mem hm.1, fun m2 h1 h2 => ?_⟩
      have : m2 = m := Int.le_antisymm (hm.2 m2 h1) (h2 m hm.1)
      subst this
      exact p.int hr w
    · exact w.elim
  · exact w.elim
theorem sim_minL {K : PySem.W.Frag} : CSim1 K (rMin K) minLW := by
  intro R h H G x v P Q hr rx w p
  unfold minLW at w
  split at w
  · rename_i bs e
    obtain ⟨a, rfl, q⟩ := ints_at hr rx e
    split at w
    · rename_i m em
      have hm := List.min?_eq_some_iff.mp em
      refine ⟨a, bs, rfl, q, List.length_pos_of_mem hm.1, fun m2 h1 h2 => ?_⟩
      have : m2 = m := Int.le_antisymm (h2 m hm.1) (hm.2 m2 h1)
      subst this
      exact p.int hr w
    · exact w.elim
  · exact w.elim
theorem sim_max2 {K : PySem.W.Frag} : CSim2 K (fun xs H Q => ∃ i j, xs = [.int i, .int j] ∧ Q (.int (if j > i then j else i)) H) max2W := by
  intro R h H G G' x y v u P Q hr rx ry w p
  unfold max2W at w
  split at w
  · cases rx.intE; cases ry.intE
    exact ⟨_, _, rfl, p.int hr w⟩
  · exact w.elim
theorem sim_min2 {K : PySem.W.Frag} : CSim2 K (fun xs H Q => ∃ i j, xs = [.int i, .int j] ∧ Q (.int (if j < i then j else i)) H) min2W := by
  intro R h H G G' x y v u P Q hr rx ry w p
  unfold min2W at w
  split at w
  · cases rx.intE; cases ry.intE
    exact ⟨_, _, rfl, p.int hr w⟩
  · exact w.elim
theorem sortI_pw (ns : List Int) : (sortI ns).Pairwise (· ≤ ·) := by
  have := List.pairwise_mergeSort (le := fun a b : Int => decide (a ≤ b)) (fun a b c h1 h2 => by simp at *; omega) (fun a b => by simp; omega) ns
  exact this.imp fun h => of_decide_eq_true h
theorem sortI_perm (ns : List Int) : (sortI ns).Perm ns := List.mergeSort_perm _ _
theorem ints_sq {K : PySem.W.Frag} {R : Nat → Addr} {h : Hd} {H G : Hp} {x : D} {v : V} {ns : List Int} (hr : HRel K H R h) (rx : RT K H R h.length G x v) (e : intsSq h x = some ns) : ∃ a, v = .ref a ∧ (SqL K H a (ns.map V.int) ∨ SqT K H a (ns.map V.int)) := by
  unfold intsSq at e
  split at e
  · rename_i xs e1
    obtain ⟨a, vs, rfl, q, r⟩ := rx.seq hr e1
    rw [ints_rel e r] at q
    exact ⟨a, rfl, q⟩
  · cases e
theorem sim_sorted {K : PySem.W.Frag} : CSim1 K (fun vs H Q => rSortedI K vs H Q ∨ rSortT K vs H Q) sortedW := by
  intro R h H G x v P Q hr rx w p
  unfold sortedW at w
  split at w
  · rename_i ns e
    have fin : ∀ (us : List Int) (b : Addr), us.Perm ns → us.Pairwise (· ≤ ·) → H b = none → Q (.ref b) (upd H b (.lst (us.map V.int))) := fun us b h1 h2 hb => by
      have : us = sortI ns := List.Perm.eq_of_pairwise (fun a b _ _ h1 h2 => Int.le_antisymm h1 h2) h2 (sortI_pw ns) (h1.trans (sortI_perm ns).symm)
      subst this
      exact p.tl hr hb (rel_ints _) w
    obtain ⟨a, rfl, q | q⟩ := ints_sq hr rx e
    · exact .inl ⟨a, ns, rfl, q, fin⟩
    · exact .inr ⟨a, ns, rfl, q, fin⟩
  · exact w.elim
/-- a heap with one new thing more -/
theorem Post.more {K : PySem.W.Frag} {R : Nat → Addr} {h : Hd} {H : Hp} {P : PD} {Q : VK} {a : Addr} {o : HO} (p : Post K R h H P Q) (ha : H a = none) : Post K R h (upd H a o) P Q := p.on (.laid ha)
theorem sim_sortedSet {K : PySem.W.Frag} {w : World} : Sim1 K (rSrtSet K w) sortedSetW := by
  intro R h H G x v P Q hr rx w p
  unfold sortedSetW at w
  split at w
  · rename_i ns e
    obtain ⟨a, rfl, q⟩ := ints_at hr rx e
    refine ⟨a, ns, ⟨rfl, q, w.1⟩, fun b pl c us hb hs hm hp => ?_⟩
    exact (p.more hb).tl (hr.laid hb) hp (rel_ints _) (w.2 us hs hm)
  · exact w.elim
theorem sim_lenSet {K : PySem.W.Frag} {w : World} : Sim1 K (rLenSet K w) lenSetW := by
  intro R h H G x v P Q hr rx w p
  unfold lenSetW at w
  split at w
  · rename_i ns e
    obtain ⟨a, rfl, q⟩ := ints_at hr rx e
    refine ⟨a, ns, ⟨rfl, q, w.1⟩, fun b c us hb hs hm => ?_⟩
    exact (p.more hb).int (hr.laid hb) (w.2 us hs hm)
  · exact w.elim
theorem sim_bits {K : PySem.W.Frag} : Sim1 K (fun x H Q => ∃ i, x = .int i ∧ Q (.int (Builtin.Int.intBits i : Nat)) H) bitsW := by
  intro R h H G x v P Q hr rx w p
  unfold bitsW at w
  split at w
  · cases rx.intE
    exact ⟨_, rfl, p.int hr w⟩
  · exact w.elim

/-! ### methods -/
theorem RT.locE {K : PySem.W.Frag} {H G : Hp} {R : Nat → Addr} {n i : Nat} {v : V} (r : RT K H R n G (.loc i) v) : i < n ∧ v = .ref (R i) := by
  have r' : R0 K H R n (.loc i) v := r
  simp only [R0] at r'
  exact r'
/-- a list is changed -/
theorem Post.putL {K : PySem.W.Frag} {R : Nat → Addr} {h : Hd} {H : Hp} {P : PD} {Q : VK} {i : Nat} {vs vs' : List V} {ds' : List D} {d : D} {v : V} (p : Post K R h H P Q) (hr : HRel K H R h) (hi : i < h.length) (hw : H (R i) = some (.lst vs)) (r : R0s K H R h.length ds' vs')
    (rd : R0 K H R h.length d v) (w : P d (h.set i (.lst ds'))) : Q v (upd H (R i) (.lst vs')) := by
  have E : Ext K R h H R (h.set i (.lst ds')) (upd H (R i) (.lst vs')) := .put hr hi hw True.intro
  exact p R _ _ d v E (hr.put hi hw True.intro ⟨vs', upd_same, E.r0s r⟩) (RT.of (E.r0 rd)) w
theorem sim_append {K : PySem.W.Frag} : ∀ R h H G (x y : D) (v u : V) P Q, HRel K H R h → RT K H R h.length G x v → R0 K H R h.length y u → appendW x y h P → Post K R h H P Q → rAppend v [u] H Q := by
  intro R h H G x y v u P Q hr rx ry w p
  unfold appendW at w
  split at w
  · obtain ⟨hi, rfl⟩ := rx.locE
    split at w
    · rename_i xs e
      obtain ⟨_, vs, hw, r⟩ := hr.lst e
      exact ⟨_, vs, u, rfl, rfl, hw, by rw [← R0s_len r]; exact w.1, p.putL (d := .non) hr hi hw (R0s_append r (R0s_one ry)) (by simp only [R0]) w.2⟩
    · exact w.elim
  · exact w.elim
theorem sim_pop {K : PySem.W.Frag} : Sim1 K (fun x H Q => rPop x [] H Q) popW := by
  intro R h H G x v P Q hr rx w p
  unfold popW at w
  split at w
  · obtain ⟨hi, rfl⟩ := rx.locE
    split at w
    · rename_i xs e
      obtain ⟨_, vs, hw, r⟩ := hr.lst e
      split at w
      · rename_i y ey
        obtain ⟨u, eu, ru⟩ := R0s_get r ey
        exact ⟨_, vs, u, rfl, rfl, hw, by rw [← R0s_len r]; exact eu, p.putL hr hi hw (R0s_dropLast r) ru w⟩
      · exact w.elim
    · exact w.elim
  · exact w.elim
theorem sim_reverse {K : PySem.W.Frag} : Sim1 K (fun x H Q => rReverse x [] H Q) reverseW := by
  intro R h H G x v P Q hr rx w p
  unfold reverseW at w
  split at w
  · obtain ⟨hi, rfl⟩ := rx.locE
    split at w
    · rename_i xs e
      obtain ⟨_, vs, hw, r⟩ := hr.lst e
      exact ⟨_, vs, rfl, rfl, hw, p.putL (d := .non) hr hi hw (R0s_reverse r) (by simp only [R0]) w⟩
    · exact w.elim
  · exact w.elim

/-! ### isinstance of built-in types -/
def kitTy : D → String
  | .non => "NoneType" | .bl _ => "bool" | .int _ => "int" | .str _ => "str" | .tup _ => "tuple" | .tl _ => "list" | .rl _ => "list" | .td _ _ _ => "dict" | .loc _ => "list"
def instTypes : List String := ["int", "bool", "str", "tuple", "list", "dict"]
theorem kit_table : ∀ T ∈ instTypes, kitB "NoneType" T = some (T == "NoneType") ∧ kitB "bool" T = some (T == "bool" || T == "int") ∧ kitB "int" T = some (T == "int") ∧ kitB "str" T = some (T == "str") ∧
    kitB "tuple" T = some (T == "tuple") ∧ kitB "list" T = some (T == "list") ∧ kitB "dict" T = some (T == "dict") := by decide +kernel
theorem sim_inst {K : PySem.W.Frag} {T : String} (hT : T ∈ instTypes) : Sim1 K (fun x H Q => rIsi K [x, .ty T] H Q) (instW T) := by
  intro R h H G x v P Q hr rx w p
  obtain ⟨t1, t2, t3, t4, t5, t6, t7⟩ := kit_table T hT
  unfold instW at w
  split at w
  · rename_i b e
    have go : ∀ {t : String}, TyX K H v (.type t) → kitB t T = some b → rIsi K [v, .ty T] H Q := fun {t} ty k => ⟨v, .ty T, .type t, .type T, b, rfl, .ty T, ty, kit_ty k, p.bl hr w⟩
    unfold isInst at e
    split at e
    · cases rx.nonE; cases e; exact go (.base .non) t1
    · cases rx.blE; cases e; exact go (.base (.bl _)) t2
    · cases rx.intE; cases e; exact go (.base (.int _)) t3
    · cases rx.strE; cases e; exact go (.base (.str _)) t4
    · obtain ⟨a, vs, rfl, q, r⟩ := rx.tup
      cases e
      rcases q with (q | ⟨o, q⟩) | ⟨o, its, n, k, c, _⟩
      · exact go (.base (.tup q)) t5
      · exact go (.fTuple q) t5
      · exact go (.kTuple k c) t5
    · obtain ⟨a, vs, rfl, _, q, _⟩ := rx
      cases e
      exact go (.base (.lst q)) t6
    · obtain ⟨a, rfl, _, q, _⟩ := rx
      cases e
      rcases q with ⟨_, kvs, q, _⟩ | ⟨_, kvs, q, _⟩
      · exact go (.base (.dK q)) t7
      · exact go (.base (.dT q)) t7
    · rename_i ds
      have r' : R0 K H R h.length (.rl ds) v := rx
      simp only [R0] at r'
      obtain ⟨a, vs, rfl, q, _⟩ := r'
      cases e
      rcases q with ⟨o, q⟩ | ⟨o, its, n, k, c, _⟩
      · exact go (.base (.frz q)) t6
      · exact go (.kList k c) t6
    · obtain ⟨hi, rfl⟩ := rx.locE
      split at e
      · rename_i xs e2
        cases e
        obtain ⟨_, vs, hw, r⟩ := hr.lst e2
        exact go (.base (.lst hw)) t6
      · rename_i tk ks ws e2
        cases e
        have q : dcRel K H R h.length tk ks ws (H (R _)) := hr.obj _ _ e2
        rcases q with ⟨_, kvs, q, _⟩ | ⟨_, kvs, q, _⟩
        · exact go (.base (.dK q)) t7
        · exact go (.base (.dT q)) t7
      · cases e
  · exact w.elim
end Py

namespace Py
open PySem PySem.Spec PyProof.Rows L2

/-! ### side conditions of the syntax -/
def noStar : Expr → Bool
  | .Starred _ _ => false
  | _ => true
theorem star_cons {e : Expr} {es : List Expr} {env : Env} (h : noStar e = true) : starEach (e :: es) env = (false, eval e env) :: starEach es env := by
  cases e <;> first | rfl | cases h
theorem star_any : ∀ {es : List Expr} {pos : Pos} {env : Env}, es.all noStar = true → (backTo pos (starEach es env)).any (·.1) = false
  | [], _, _, _ => rfl
  | e :: es, pos, env, h => by
    rw [List.all_cons, Bool.and_eq_true] at h
    rw [star_cons h.1]
    show (false || (backTo pos (starEach es env)).any (·.1)) = false
    rw [star_any h.2]; rfl
theorem star_all : ∀ {es : List Expr} {pos : Pos} {env : Env}, es.all noStar = true → (backTo pos (starEach es env)).all (fun x => !x.1) = true
  | [], _, _, _ => rfl
  | e :: es, pos, env, h => by
    rw [List.all_cons, Bool.and_eq_true] at h
    rw [star_cons h.1]
    show ((!false) && (backTo pos (starEach es env)).all (fun x => !x.1)) = true
    rw [star_all h.2]; rfl
def noSet : Expr → Bool
  | .Set _ _ _ => false
  | _ => true
theorem noSet_mark {e : Expr} {op : CmpOp} (h : noSet e = true) : behindInMarks op e = false := by
  cases e <;> first | rfl | cases h
theorem noSet_fold {e : Expr} {env : Env} (h : noSet e = true) : ∀ x, foldedSetIterable e env x = pure x := by
  intro x
  cases e <;> first | rfl | cases h
def noSlice : Expr → Bool
  | .Slice _ _ _ _ => false
  | _ => true
theorem noSlice_plain {e : Expr} (h : noSlice e = true) : PlainIx e := by
  intro o i
  cases e <;> first | rfl | cases h
def plainTest : Expr → Bool
  | .UnaryOp .Not _ _ => false
  | .BoolOp _ _ _ => false
  | .IfExp _ _ _ _ => false
  | .Compare _ _ _ _ => false
  | _ => true
theorem plainTest_ok {e : Expr} {env : Env} (h : plainTest e = true) : ∀ whole, isTrue e env whole = (do let v ← whole; standAt e.pos; holding [v] (truthy v)) := by
  intro whole
  cases e with
  | UnaryOp op x pos => cases op <;> first | rfl | cases h
  | _ => first | rfl | cases h
/-- no call of super -/
def noSuper : Expr → Bool
  | .Call (.Name id _) [] [] _ => id != "super"
  | _ => true
theorem noSuper_ok {e : Expr} {attr : Str} {env : Env} (h : noSuper e = true) : attributeBase e attr env (eval e env) = eval e env := by
  unfold attributeBase
  split
  · rename_i id p1 p2
    have h' : (id != ("super" : Str)) = true := h
    rw [if_pos (by rw [h']; rfl)]
  · rfl

/-! ### a value gets a place -/
theorem mat_ok {K : PySem.W.Frag} {R R1 : Nat → Addr} {h h1 : Hd} {G H1 : Hp} {d : D} {v : V} {P : PD} (E : Ext K R h G R1 h1 H1) (hr : HRel K H1 R1 h1) (r : RT K H1 R1 h1.length G d v) (w : mat d h1 P) :
    ∃ R2 h2 d', Ext K R h G R2 h2 H1 ∧ HRel K H1 R2 h2 ∧ (∀ i, i < h1.length → i < h2.length ∧ R2 i = R1 i) ∧ R0 K H1 R2 h2.length d' v ∧ P d' h2 := by
  have new : ∀ (a : Addr) (o : DO), G a = none → (∀ i, i < h1.length → R1 i ≠ a) → (∃ ob, H1 a = some ob) → (∀ R2 : Nat → Addr, (∀ i, i < h1.length → R2 i = R1 i) → ORel K H1 R2 (h1 ++ [o]).length a o) → v = .ref a → P (.loc h1.length) (h1 ++ [o]) →
      ∃ R2 h2 d', Ext K R h G R2 h2 H1 ∧ HRel K H1 R2 h2 ∧ (∀ i, i < h1.length → i < h2.length ∧ R2 i = R1 i) ∧ R0 K H1 R2 h2.length d' v ∧ P d' h2 := by
    intro a o ga ne there orl ev w
    obtain ⟨R2, agr, self⟩ : ∃ R2 : Nat → Addr, (∀ i, i < h1.length → R2 i = R1 i) ∧ R2 h1.length = a := ⟨fun i => if i = h1.length then a else R1 i, fun i hi => if_neg (Nat.ne_of_lt hi), if_pos rfl⟩
    have ll : (h1 ++ [o]).length = h1.length + 1 := by simp
    refine ⟨R2, h1 ++ [o], .loc h1.length, ⟨by rw [ll]; exact Nat.le_succ_of_le E.len, fun i hi => ?_, fun i a1 a2 => ?_, E.frame, E.stay, E.tup, E.frz⟩, ⟨fun i j hi hj e => ?_, fun i ob e => ?_⟩, fun i hi => ⟨by rw [ll]; exact Nat.lt_succ_of_lt hi, agr i hi⟩, ?_, w⟩
    · rw [agr i (Nat.lt_of_lt_of_le hi E.len)]; exact E.agr i hi
    · rw [ll] at a2
      by_cases hi : i = h1.length
      · subst hi; rw [self]; exact ga
      · have hl : i < h1.length := Nat.lt_of_le_of_ne (Nat.le_of_lt_succ a2) hi
        rw [agr i hl]; exact E.fresh i a1 hl
    · rw [ll] at hi hj
      by_cases qi : i = h1.length <;> by_cases qj : j = h1.length
      · rw [qi, qj]
      · have hl : j < h1.length := Nat.lt_of_le_of_ne (Nat.le_of_lt_succ hj) qj
        rw [agr j hl] at e
        subst qi
        rw [self] at e
        exact absurd e.symm (ne j hl)
      · have hl : i < h1.length := Nat.lt_of_le_of_ne (Nat.le_of_lt_succ hi) qi
        rw [agr i hl] at e
        subst qj
        rw [self] at e
        exact absurd e (ne i hl)
      · have hli : i < h1.length := Nat.lt_of_le_of_ne (Nat.le_of_lt_succ hi) qi
        have hlj : j < h1.length := Nat.lt_of_le_of_ne (Nat.le_of_lt_succ hj) qj
        rw [agr i hli, agr j hlj] at e
        exact hr.inj i j hli hlj e
    · by_cases hi : i < h1.length
      · rw [List.getElem?_append_left hi] at e
        rw [agr i hi]
        have x := hr.obj i ob e
        have up : ∀ ds vs, R0s K H1 R1 h1.length ds vs → R0s K H1 R2 (h1 ++ [o]).length ds vs :=
          fun ds vs => R0s_mono (fun _ _ z => z) (fun _ _ z => z) (fun j hj => ⟨by rw [ll]; exact Nat.lt_succ_of_lt hj, agr j hj⟩) ds vs
        cases ob with
        | lst ds => obtain ⟨vs, p, q⟩ := x; exact ⟨vs, p, up _ _ q⟩
        | dct tk ks ws =>
          rcases x with ⟨t, kvs, p, q, z⟩ | ⟨t, kvs, p, q, z⟩
          · exact .inl ⟨t, kvs, p, q, up _ _ z⟩
          · exact .inr ⟨t, kvs, p, q, up _ _ z⟩
        | ins c fs => exact x.elim
      · have hi2 : i = h1.length := by
          have := (List.getElem?_eq_some_iff.mp e).1
          rw [ll] at this
          omega
        subst hi2
        rw [List.getElem?_append_right (Nat.le_refl _)] at e
        simp at e
        subst e
        rw [self]
        exact orl _ agr
    · simp only [R0]
      exact ⟨by rw [ll]; exact Nat.lt_succ_self _, by rw [self]; exact ev⟩
  have up : ∀ (o : DO) (R2 : Nat → Addr), (∀ i, i < h1.length → R2 i = R1 i) → ∀ ds vs, R0s K H1 R1 h1.length ds vs → R0s K H1 R2 (h1 ++ [o]).length ds vs :=
    fun o R2 ag ds vs => R0s_mono (fun _ _ z => z) (fun _ _ z => z) (fun j hj => ⟨by simp; omega, ag j hj⟩) ds vs
  cases d with
  | tl xs =>
    obtain ⟨a, vs, e1, ga, q, r, ne⟩ := r
    exact new a (.lst xs) ga ne ⟨_, q⟩ (fun R2 ag => ⟨vs, q, up _ R2 ag _ _ r⟩) e1 w
  | td tk ks ws =>
    obtain ⟨a, e1, ga, q, ne⟩ := r
    refine new a (.dct tk ks ws) ga ne ?_ (fun R2 ag => ?_) e1 w
    · rcases q with ⟨_, kvs, p, _⟩ | ⟨_, kvs, p, _⟩ <;> exact ⟨_, p⟩
    · rcases q with ⟨t, kvs, p, q, z⟩ | ⟨t, kvs, p, q, z⟩
      · exact .inl ⟨t, kvs, p, q, up _ R2 ag _ _ z⟩
      · exact .inr ⟨t, kvs, p, q, up _ R2 ag _ _ z⟩
  | _ => exact ⟨R1, h1, _, E, hr, fun i hi => ⟨hi, rfl⟩, r, w⟩

/-! ### two, three in a row -/
section
variable {K : PySem.W.Frag} {ta tb tc : TEd}
theorem lift_un {r : V → Hp → VK → Prop} {p : D → Hd → PD → Prop} (sm : Sim1 K r p) (σ : L2.St) (H : Hp) (Q : VK) (w : lift K (fun τ h Q => ta τ h fun x h1 => p x h1 Q) σ H Q) : tUn r (lift K ta) σ H Q := by
  obtain ⟨R, τ, h, P, sr, hr, w, post⟩ := w
  exact ⟨R, τ, h, _, sr, hr, w, fun R1 h1 H1 x v E1 hr1 rx w1 => sm R1 h1 H1 H x v P Q hr1 rx w1 (post.on E1)⟩
theorem lift_bin {r : R2} {p : D → D → Hd → PD → Prop} (sm : Sim2 K r p) (σ : L2.St) (H : Hp) (Q : VK) (w : lift K (fun τ h Q => ta τ h fun x h1 => tb τ h1 fun y h2 => p x y h2 Q) σ H Q) : tOp r (lift K ta) (lift K tb) σ H Q := by
  obtain ⟨R, τ, h, P, sr, hr, w, post⟩ := w
  refine ⟨R, τ, h, _, sr, hr, w, fun R1 h1 H1 x v E1 hr1 rx w1 => ?_⟩
  exact ⟨R1, τ, h1, _, E1.srel sr, hr1, w1, fun R2 h2 H2 y u E2 hr2 ry w2 => sm R2 h2 H2 H H1 x y v u P Q hr2 (E2.rt rx) ry w2 ((post.on E1).on E2)⟩
end

/-! ### the context -/
/-- the promise of a def, from what its call by values asks -/
def spD (K : PySem.W.Frag) (cl : CallD) (f : Nat) : Sp := fun vs H Q _ => ∃ R h ds P, R0s K H R h.length ds vs ∧ HRel K H R h ∧ cl f ds h P ∧ Post K R h H P Q
/-- what the defs, globals, built-in names are: fn, the names of defs by number; gl, constants; bn, built-in names; ex, names for built-in functions of modules -/
structure Tab where
  fn : List Str
  gl : List (Str × D)
  bn : List Str
  ex : List (Str × String)
structure Good (T : Tab) (cl : CallD) (N : List Str) (sc ss : Scope) (X : Cx) : Prop where
  hN : X.N = N
  nd : N.Nodup
  hsc : X.env.scope = sc
  kind : sc.kind = .function
  calm : X.calm = true
  st : ∀ x, (ss.names.lookup x = some .local ∨ ss.names.lookup x = some .cell) → Loc X.env.scope x ∧ (X.fn x = true ∨ X.env.scope.names.lookup x = some .local)
  hu : X.A.units + 64 < cLine
  bn : ∀ x ∈ T.bn, X.mg x = none
  ex : ∀ x id, T.ex.lookup x = some id → X.mg x = some (.builtin id)
  gl : ∀ x d, (x, d) ∈ T.gl → ∃ u v, X.mg x = some u ∧ RelV v u ∧ ∀ H R n, R0 X.K H R n d v
  fn : ∀ f x, T.fn[f]? = some x → ∃ fa fd ps k, FnOk X.prog X.w X.K X.mg X.base CX0 k fa fd ps (spD X.K cl f) ∧ Room k X.A ∧ X.mg x = some (.ref fa) ∧ PySem.W.keepIn X.K (.ref fa) = true ∧ Binds X.K fd ps []
theorem relabel_eq {scope : Scope} {env : Env} : PySem.relabel scope env = relS scope env.scope := rfl
/-- a comprehension's block -/
theorem Good.blk {T : Tab} {cl : CallD} {N : List Str} {sc ss : Scope} {X : Cx} (c : Good T cl N sc ss X) {scope : Scope} (hk : scope.kind = .function) (s : Shared) (H : Hp) (C : Addr) (l : List (Str × Addr)) (fp : List Addr) :
    Good T cl N (relS scope sc) scope (X.blk s H scope (compEnvC scope l C X.env) fp) where
  hN := c.hN
  nd := c.nd
  hsc := by show relS scope X.env.scope = _; rw [c.hsc]
  kind := hk
  calm := c.calm
  st := fun x hx => by
    have e : (compEnvC scope l C X.env).scope = relS scope X.env.scope := rfl
    rcases hx with hx | hx
    · have k := lookup_relS_keep (sc := X.env.scope) (by decide) hx
      exact ⟨.inl k, .inr k⟩
    · have k := lookup_relS_keep (sc := X.env.scope) (by decide) hx
      exact ⟨.inr k, .inl (by show (scope.names.lookup x == some .cell) = true; rw [hx]; rfl)⟩
  hu := c.hu
  bn := c.bn
  ex := c.ex
  gl := c.gl
  fn := c.fn
end Py

namespace Py
open PySem PySem.Spec PyProof.Rows L2

/-! ### walks -/
def Walks (K : PySem.W.Frag) (R0 : Nat → Addr) (h0 : Hd) (H0 : Hp) (w : Iter) (J : It) : Prop :=
  ∀ R h H, Ext K R0 h0 H0 R h H → HRel K H R h → w.ok h →
    (∀ i, i < w.xs.length → J.go i H) ∧ (∀ i, w.xs.length ≤ i → J.stop i H) ∧
    (∀ i x H', i < w.xs.length → J.yld i H x H' → ∃ d, w.xs[i]? = some d ∧ Ext K R h H R h H' ∧ HRel K H' R h ∧ Py.R0 K H' R h.length d x)
def liftI (K : PySem.W.Frag) (t : TId) : TI := fun σ H Z => ∃ R τ h P, SRel K H R h.length τ σ ∧ HRel K H R h ∧ t τ h P ∧
  ∀ R' h' H' w J, Ext K R h H R' h' H' → HRel K H' R' h' → P w h' → Walks K R' h' H' w J → Z J H'
section
variable {K : PySem.W.Frag} {R : Nat → Addr} {h : Hd} {H : Hp} {xs : List D} {vs : List V} {a : Addr}
theorem walks_fix {J : It} (r : R0s K H R h.length xs vs) (go : ∀ R' h' H', Ext K R h H R' h' H' → ∀ i, i < vs.length → J.go i H') (stop : ∀ R' h' H', Ext K R h H R' h' H' → ∀ i, vs.length ≤ i → J.stop i H')
    (yld : ∀ R' h' H', Ext K R h H R' h' H' → ∀ i x H2, J.yld i H' x H2 → H2 = H' ∧ vs[i]? = some x) : Walks K R h H (.vals xs) J := by
  intro R' h' H' E hr ok
  have hl := R0s_len r
  refine ⟨fun i hi => go _ _ _ E i (by rw [← hl]; exact hi), fun i hi => stop _ _ _ E i (by rw [← hl]; exact hi), fun i x H2 hi0 y => ?_⟩
  obtain ⟨e, ex⟩ := yld _ _ _ E i x H2 y
  subst e
  have hi : i < xs.length := by rw [hl]; exact (List.getElem?_eq_some_iff.mp ex).1
  obtain ⟨u, eu, ru⟩ := R0s_get r (List.getElem?_eq_getElem hi)
  rw [ex] at eu
  cases eu
  exact ⟨xs[i], List.getElem?_eq_getElem hi, .refl, hr, E.r0 ru⟩
theorem walks_lst (q : ∀ R' h' H', Ext K R h H R' h' H' → SqL K H' a vs) (r : R0s K H R h.length xs vs) : Walks K R h H (.vals xs) (Itl K a) :=
  walks_fix r (fun R' h' H' E i hi => ⟨vs, vs[i], q _ _ _ E, List.getElem?_eq_getElem hi⟩) (fun R' h' H' E i hi => ⟨vs, q _ _ _ E, hi⟩)
    fun R' h' H' E i x H2 y => ⟨y.1, y.2 vs (q _ _ _ E)⟩
theorem walks_tup (q : SqT K H a vs) (r : R0s K H R h.length xs vs) : Walks K R h H (.vals xs) (Itt K a) :=
  walks_fix r (fun R' h' H' E i hi => ⟨vs, vs[i], E.tup _ _ q, List.getElem?_eq_getElem hi⟩) (fun R' h' H' E i hi => ⟨vs, E.tup _ _ q, hi⟩)
    fun R' h' H' E i x H2 y => ⟨y.1, y.2 vs (E.tup _ _ q)⟩
theorem walks_live {j : Nat} {ys : List D} (hj : j < h.length) : Walks K R h H (.live j ys) (Itl K (R j)) := by
  intro R' h' H' E hr ok
  have ok' : h'[j]? = some (.lst ys) := ok
  obtain ⟨_, vs, hw, r⟩ := hr.lst ok'
  rw [E.agr j hj] at hw
  have hl := R0s_len r
  refine ⟨fun i hi => ⟨vs, vs[i]'(by rw [← hl]; exact hi), .of hw, List.getElem?_eq_getElem _⟩, fun i hi => ⟨vs, .of hw, by rw [← hl]; exact hi⟩, fun i x H2 hi0 y => ?_⟩
  obtain ⟨e, y⟩ := y
  subst e
  have ex := y vs (.of hw)
  have hi : i < ys.length := by rw [hl]; exact (List.getElem?_eq_some_iff.mp ex).1
  obtain ⟨u, eu, ru⟩ := R0s_get r (List.getElem?_eq_getElem hi)
  rw [ex] at eu
  cases eu
  exact ⟨ys[i], List.getElem?_eq_getElem hi, .refl, hr, ru⟩
theorem walks_range {lo : Int} {n : Nat} : Walks K R h H (.vals (rangeD lo n)) (Itr lo n) := by
  intro R' h' H' E hr ok
  have hl : (rangeD lo n).length = n := by simp [rangeD]
  refine ⟨fun i hi => by have : i < (rangeD lo n).length := hi; rw [hl] at this; exact this, fun i hi => by have : (rangeD lo n).length ≤ i := hi; rw [hl] at this; exact this, fun i x H2 hi0 y => ?_⟩
  obtain ⟨e, y⟩ := y
  subst e y
  have hi1 : i < n := by have : i < (rangeD lo n).length := hi0; rw [hl] at this; exact this
  refine ⟨.int (lo + (i : Int)), ?_, .refl, hr, by simp only [Py.R0]⟩
  show (rangeD lo n)[i]? = _
  unfold rangeD
  rw [List.getElem?_map, List.getElem?_range hi1]
  rfl
theorem walks_str {x : Str} : Walks K R h H (.vals (chrs x)) (Its x) := by
  intro R' h' H' E hr ok
  have hl : (chrs x).length = x.cps.size := by simp [chrs]
  refine ⟨fun i hi => by have : i < (chrs x).length := hi; rw [hl] at this; exact this, fun i hi => by have : (chrs x).length ≤ i := hi; rw [hl] at this; exact this, fun i v H2 hi0 y => ?_⟩
  obtain ⟨e, c, ec, ev⟩ := y
  subst e ev
  refine ⟨.str ⟨#[c]⟩, ?_, .refl, hr, by simp only [R0]⟩
  show (chrs x)[i]? = _
  unfold chrs
  rw [List.getElem?_map, Array.getElem?_toList, ec]
  rfl
end
/-- what is walked, by what the value turns out to be -/
def iAny (K : PySem.W.Frag) (te : TE) : TI := fun σ H Z => te σ H fun x H1 => (∃ a, x = .ref a ∧ (∃ xs, SqL K H1 a xs) ∧ Z (Itl K a) H1) ∨ (∃ a, x = .ref a ∧ (∃ xs, SqT K H1 a xs) ∧ Z (Itt K a) H1) ∨ (∃ z, x = .str z ∧ Z (Its z) H1)
theorem pi_any {X : Cx} {tg e : Expr} {te : TE} (he : PE X e te) : PI X tg e (iAny X.K te) := by
  refine ⟨fun pins s σ H Z I h => ?_⟩
  refine thn (he.run pins s σ H _ I h) fun v s1 ⟨y, H1, I1, r1, q⟩ => ?_
  rcases q with ⟨a, ex, ⟨xs, hq⟩, q⟩ | ⟨a, ex, ⟨xs, hq⟩, q⟩ | ⟨x, ex, q⟩
  · subst ex
    cases r1
    obtain ⟨its, rv, p, hz⟩ := I1.list hq
    refine wpAny_pyIter_list p.isList ?_
    refine ⟨s1.heap.objs.size, [s1.heap.objs.size], _, _, H1, rfl, I1.kept (t' := s1.toks) fun b o e => Heap.get?_push_of_some _ e, turn_list a _, ⟨_, Heap.get?_push_size _ rfl, rfl, rfl⟩, fun b hb => ?_, q⟩
    have e : b = s1.heap.objs.size := by simpa using hb
    subst e
    exact I1.fpOk (Nat.le_refl _) (I1.hok.fresh (Nat.le_refl _))
  · subst ex
    cases r1
    obtain ⟨its, rv, p, hz⟩ := I1.tuple hq
    refine wpAny_pyIter_tuple (show s1.heap.IsTuple a its.toArray from p) ?_
    refine ⟨s1.heap.objs.size, [s1.heap.objs.size], _, _, H1, rfl, I1.kept (t' := s1.toks) fun b o e => Heap.get?_push_of_some _ e, turn_tuple a _, ⟨_, Heap.get?_push_size _ rfl, rfl, rfl⟩, fun b hb => ?_, q⟩
    have e : b = s1.heap.objs.size := by simpa using hb
    subst e
    exact I1.fpOk (Nat.le_refl _) (I1.hok.fresh (Nat.le_refl _))
  · subst ex
    obtain ⟨t, rfl⟩ := r1
    cases ha : x.cps.all (· < 128)
    · exact wpAny_pyIter_wide ha (pi_one (tk := s1.toks) I1 _ (turn_str _ x t "str_iterator" (.inr rfl)) ⟨_, Heap.get?_push_size _ rfl, rfl, rfl⟩ q)
    · exact wpAny_pyIter_ascii ha (pi_one (tk := s1.toks) I1 _ (turn_str _ x t "str_ascii_iterator" (.inl rfl)) ⟨_, Heap.get?_push_size _ rfl, rfl, rfl⟩ q)
theorem lift_it {K : PySem.W.Frag} {te : TEd} (σ : L2.St) (H : Hp) (Z : It → Hp → Prop) (w : liftI K (itOf te) σ H Z) : iAny K (lift K te) σ H Z := by
  obtain ⟨R, τ, h, P, sr, hr, w, post⟩ := w
  refine ⟨R, τ, h, _, sr, hr, w, fun R1 h1 H1 d v E1 hr1 rd w1 => ?_⟩
  have w1 := w1
  split at w1
  · rename_i xs
    obtain ⟨a, vs, rfl, q, r⟩ := rd.tup
    exact .inr (.inl ⟨a, rfl, ⟨vs, q⟩, post _ _ _ _ _ E1 hr1 w1 (walks_tup q r)⟩)
  · rename_i xs
    obtain ⟨a, vs, rfl, g, q, r, ne⟩ := rd
    refine .inl ⟨a, rfl, ⟨vs, .of q⟩, post _ _ _ _ _ E1 hr1 w1 (walks_lst (fun R' h' H' E => .of (E.frame a _ q ne)) r)⟩
  · have rd' : R0 K H1 R1 h1.length (.rl _) v := rd
    simp only [R0] at rd'
    obtain ⟨a, vs, rfl, q, r⟩ := rd'
    exact .inl ⟨a, rfl, ⟨vs, q.sq⟩, post _ _ _ _ _ E1 hr1 w1 (walks_lst (fun R' h' H' E => (E.frz a vs q).sq) r)⟩
  · cases rd.strE
    exact .inr (.inr ⟨_, rfl, post _ _ _ _ _ E1 hr1 w1.2 walks_str⟩)
  · rename_i j
    obtain ⟨hj, rfl⟩ := rd.locE
    split at w1
    · rename_i xs e
      obtain ⟨_, vs, hw, r⟩ := hr1.lst e
      exact .inl ⟨_, rfl, ⟨vs, .of hw⟩, post _ _ _ _ _ E1 hr1 w1 (walks_live hj)⟩
    · exact w1.elim
  · exact w1.elim
end Py

namespace Py
open PySem PySem.Spec PyProof.Rows L2

/-! ### targets -/
def gAll : List Nat → TGs
  | [] => gNil
  | i :: is => gCons (gName i) (gAll is)
def gOf (K : PySem.W.Frag) : Pat → TG
  | .nm i => gName i
  | .tp is => gTup K is.length (gAll is)
theorem SRel.set {K : PySem.W.Frag} {H : Hp} {R : Nat → Addr} {n i : Nat} {τ : Sd} {σ : L2.St} {d : D} {v : V} (s : SRel K H R n τ σ) (r : R0 K H R n d v) : SRel K H R n (τ.set i (some d)) (σ.set i (some v)) := by
  refine ⟨by rw [List.length_set, List.length_set]; exact s.len, fun j e q => ?_⟩
  by_cases hj : i = j
  · subst hj
    by_cases hi : i < τ.length
    · rw [List.getElem?_set_self hi] at q
      cases q
      exact ⟨v, List.getElem?_set_self (by rw [← s.len]; exact hi), r⟩
    · rw [List.getElem?_eq_none (by simpa using hi)] at q
      cases q
  · rw [List.getElem?_set_ne hj] at q ⊢
    exact s.at_ j e q
theorem SRel.wipe {K : PySem.W.Frag} {H : Hp} {R : Nat → Addr} {n : Nat} {τ : Sd} {σ : L2.St} (s : SRel K H R n τ σ) : ∀ vs : List Nat, SRel K H R n (wipeD τ vs) (L2.wipe σ vs)
  | [] => s
  | i :: vs => by
    have t := SRel.wipe s vs
    unfold wipeD L2.wipe
    refine ⟨by rw [List.length_set, List.length_set]; exact t.len, fun j e q => ?_⟩
    by_cases hj : i = j
    · subst hj
      by_cases hi : i < (wipeD τ vs).length
      · rw [List.getElem?_set_self hi] at q
        cases q
      · rw [List.getElem?_eq_none (by simpa using hi)] at q
        cases q
    · rw [List.getElem?_set_ne hj] at q ⊢
      exact t.at_ j e q
theorem wipe_set (σ : L2.St) (i : Nat) (x : Option V) : ∀ vs : List Nat, i ∈ vs → L2.wipe (σ.set i x) vs = L2.wipe σ vs
  | [], h => by cases h
  | v :: vs, h => by
    unfold L2.wipe
    by_cases hm : i ∈ vs
    · rw [wipe_set σ i x vs hm]
    · have e : i = v := by
        rcases List.mem_cons.mp h with e | h
        · exact e
        · exact absurd h hm
      subst e
      have go : ∀ ws : List Nat, i ∉ ws → L2.wipe (σ.set i x) ws = (L2.wipe σ ws).set i x := by
        intro ws
        induction ws with
        | nil => intro _; rfl
        | cons w ws ih =>
          intro hn
          unfold L2.wipe
          rw [ih fun z => hn (List.mem_cons_of_mem _ z), List.set_comm _ _ (fun z => hn (by rw [z]; exact List.mem_cons_self))]
      rw [go vs hm, List.set_set]
theorem wipe_twice (σ : L2.St) : ∀ vs ws : List Nat, (∀ v ∈ vs, v ∈ ws) → L2.wipe (L2.wipe σ vs) ws = L2.wipe σ ws
  | [], ws, _ => rfl
  | v :: vs, ws, h => by
    show L2.wipe ((L2.wipe σ vs).set v none) ws = _
    rw [wipe_set _ v none ws (h v List.mem_cons_self)]
    exact wipe_twice σ vs ws fun u hu => h u (List.mem_cons_of_mem _ hu)
theorem bind_all {K : PySem.W.Frag} {H : Hp} {R : Nat → Addr} {n : Nat} {Q : L2.St → Hp → Prop} : ∀ {is : List Nat} {ds : List D} {vs : List V} {τ : Sd} {σ : L2.St} {ws : List Nat}, R0s K H R n ds vs → SRel K H R n τ σ → ds.length = is.length → (∀ i ∈ is, i ∈ ws) →
    (∀ σ', SRel K H R n (setAll τ is ds) σ' → L2.wipe σ' ws = L2.wipe σ ws → Q σ' H) → gAll is vs σ H Q
  | [], ds, vs, τ, σ, ws, r, s, hl, _, h => by
    have e : ds = [] := List.eq_nil_of_length_eq_zero hl
    subst e
    simp only [R0s] at r
    exact ⟨r, h σ s rfl⟩
  | i :: is, [], vs, τ, σ, ws, r, s, hl, _, h => by cases hl
  | i :: is, d :: ds, vs, τ, σ, ws, r, s, hl, hm, h => by
    simp only [R0s] at r
    obtain ⟨v, us, rfl, r1, r2⟩ := r
    refine ⟨v, us, rfl, ?_⟩
    refine bind_all r2 (s.set r1) (by simpa using hl) (fun j hj => hm j (List.mem_cons_of_mem _ hj)) fun σ' s' hw => h σ' s' ?_
    rw [hw, wipe_set _ _ _ _ (hm i List.mem_cons_self)]
theorem bind_sim {K : PySem.W.Frag} {H : Hp} {R : Nat → Addr} {n : Nat} {Q : L2.St → Hp → Prop} {p : Pat} {d : D} {v : V} {τ : Sd} {σ : L2.St} {k : Sd → Prop} (r : R0 K H R n d v) (s : SRel K H R n τ σ) (w : bindW p d τ k)
    (h : ∀ τ' σ', SRel K H R n τ' σ' → L2.wipe σ' p.ix = L2.wipe σ p.ix → k τ' → Q σ' H) : gOf K p v σ H Q := by
  cases p with
  | nm i => exact h _ _ (s.set r) (wipe_set _ _ _ _ (by simp [Pat.ix])) w
  | tp is =>
    cases d with
    | tup ds =>
      obtain ⟨w1, w2⟩ : ds.length = is.length ∧ k (setAll τ is ds) := w
      simp only [R0] at r
      obtain ⟨a, vs, rfl, q, r⟩ := r
      refine ⟨a, vs, rfl, q, by rw [← R0s_len r]; exact w1, ?_⟩
      exact bind_all r s w1 (fun i hi => hi) fun σ' s' hw => h _ σ' s' hw w2
    | _ => exact w.elim

def isName : Expr → Option Str
  | .Name x _ => some x
  | _ => none
/-- a name that may be stored, at slot i -/
def chkN (N : List Str) (ss : Scope) (i : Nat) (x : Str) : Bool := decide (N[i]? = some x) && (decide (ss.names.lookup x = some .local) || decide (ss.names.lookup x = some .cell))
def chkE1 (N : List Str) (ss : Scope) (i : Nat) (e : Expr) : Bool := match isName e with | some x => chkN N ss i x | none => false
def chkNs (N : List Str) (ss : Scope) : List Nat → List Expr → Bool
  | [], [] => true
  | i :: is, e :: es => chkE1 N ss i e && chkNs N ss is es
  | _, _ => false
def chkP (N : List Str) (ss : Scope) : Pat → Expr → Bool
  | .nm i, e => chkE1 N ss i e
  | .tp is, .Tuple es _ _ => chkNs N ss is es
  | _, _ => false
theorem isName_ok {e : Expr} {x : Str} (h : isName e = some x) : ∃ p, e = .Name x p := by
  cases e <;> first | cases h | skip
  exact ⟨_, rfl⟩
section
variable {T : Tab} {cl : CallD} {N : List Str} {sc ss : Scope} {X : Cx}
theorem pg_nm (g : Good T cl N sc ss X) {i : Nat} {x : Str} {p : Pos} (h : chkN N ss i x = true) : PG X (.Name x p) (gName i) := by
  unfold chkN at h
  simp only [Bool.and_eq_true, Bool.or_eq_true, decide_eq_true_eq] at h
  obtain ⟨a, b⟩ := g.st x h.2
  exact pg_name (by rw [g.hN]; exact g.nd) (by rw [g.hN]; exact h.1) a b
theorem chkE1_ok {i : Nat} {e : Expr} (h : chkE1 N ss i e = true) : ∃ x p, e = .Name x p ∧ chkN N ss i x = true := by
  unfold chkE1 at h
  split at h
  · rename_i x ex
    obtain ⟨p, rfl⟩ := isName_ok ex
    exact ⟨x, p, rfl, h⟩
  · cases h
theorem pg_all (g : Good T cl N sc ss X) : ∀ {is : List Nat} {es : List Expr}, chkNs N ss is es = true → PGs X es (gAll is) ∧ (assignEach es X.env).length = is.length ∧ (assignEach es X.env).findIdx? (·.1) = none
  | [], [], _ => ⟨pgs_nil, rfl, rfl⟩
  | [], _ :: _, h => by cases h
  | _ :: _, [], h => by cases h
  | i :: is, e :: es, h => by
    unfold chkNs at h
    rw [Bool.and_eq_true] at h
    obtain ⟨h1, h2⟩ := h
    obtain ⟨x, p, rfl, h1⟩ := chkE1_ok h1
    obtain ⟨a, b, c⟩ := pg_all g h2
    refine ⟨pgs_cons (pg_nm g h1) a rfl, ?_, ?_⟩
    · show (assignEach es X.env).length + 1 = is.length + 1
      rw [b]
    · show List.findIdx? (·.1) ((false, _) :: assignEach es X.env) = none
      rw [List.findIdx?_cons]
      simp [c]
theorem pg_of (g : Good T cl N sc ss X) {p : Pat} {e : Expr} (h : chkP N ss p e = true) : PG X e (gOf X.K p) := by
  cases p with
  | nm i =>
    obtain ⟨x, q, rfl, h1⟩ := chkE1_ok (show chkE1 N ss i e = true from h)
    exact pg_nm g h1
  | tp is =>
    cases e with
    | Tuple es k pos =>
      obtain ⟨a, b, c⟩ := pg_all g (show chkNs N ss is es = true from h)
      exact pg_tup g.calm a b c
    | _ => cases h
end
end Py

namespace Py
open PySem PySem.Spec PyProof.Rows L2

/-! ### a comprehension -/
section
variable {K : PySem.W.Frag} {R R1 : Nat → Addr} {h h1 : Hd} {H H1 : Hp}
/-- a list of HandS's that is no place of ours is written -/
theorem Ext.side {p : Addr} {o : HO} {vs : List V} (E : Ext K R h H R1 h1 H1) (hn : H p = none) (hp : H1 p = some (.lst vs)) : Ext K R h H R1 h1 (upd H1 p o) where
  len := E.len
  agr := E.agr
  fresh := E.fresh
  frame := fun a ob e n => by rw [upd_ne (ne_of_none e hn)]; exact E.frame a ob e n
  stay := fun a ob e => by rw [upd_ne (ne_of_none e hn)]; exact E.stay a ob e
  tup := fun a ws r => (E.tup a ws r).imp (rd_wr hp (by intro z; cases z) fun ob z => by cases z) id
  frz := fun a ws r => (E.frz a ws r).imp (fun ⟨ob, r⟩ => ⟨ob, by rw [upd_ne (ne_of r hp (by intro z; cases z))]; exact r⟩) id
theorem side_r0s {p : Addr} {o : HO} {vs : List V} {n : Nat} (hp : H1 p = some (.lst vs)) {ds : List D} {us : List V} (r : R0s K H1 R1 n ds us) : R0s K (upd H1 p o) R1 n ds us :=
  R0s_mono (fun a ws r => r.imp (fun ⟨ob, r⟩ => ⟨ob, by rw [upd_ne (ne_of r hp (by intro z; cases z))]; exact r⟩) id) (fun a ws r => r.imp (rd_wr hp (by intro z; cases z) fun ob z => by cases z) id) (fun i hi => ⟨hi, rfl⟩) ds us r
theorem HRel.side {p : Addr} {o : HO} {vs : List V} (hr : HRel K H1 R1 h1) (hp : H1 p = some (.lst vs)) (ne : ∀ i, i < h1.length → R1 i ≠ p) : HRel K (upd H1 p o) R1 h1 := by
  refine ⟨hr.inj, fun i ob e => ?_⟩
  have hi : i < h1.length := (List.getElem?_eq_some_iff.mp e).1
  have x := hr.obj i ob e
  cases ob with
  | lst ds => obtain ⟨ws, a, b⟩ := x; exact ⟨ws, by rw [upd_ne (ne i hi)]; exact a, side_r0s hp b⟩
  | dct tk ks ws =>
    show dcRel K (upd H1 p o) R1 h1.length tk ks ws (upd H1 p o (R1 i))
    rw [upd_ne (ne i hi)]
    rcases x with ⟨t, kvs, a, b, c⟩ | ⟨t, kvs, a, b, c⟩
    · exact .inl ⟨t, kvs, a, b, side_r0s hp c⟩
    · exact .inr ⟨t, kvs, a, b, side_r0s hp c⟩
  | ins c fs => exact x.elim
end
theorem comp_sim {K : PySem.W.Frag} {it : TId} {p : Pat} {cond : TTd} {elt : TEd} (σ : L2.St) (H : Hp) (Q : VK) (w : lift K (compE it p cond elt) σ H Q) :
    tLc (liftI K it) (gOf K p) (liftT K cond) (lift K elt) p.ix σ H Q := by
  obtain ⟨R, τ, h, P, sr, hr, w, post⟩ := w
  refine ⟨R, τ, h, _, sr, hr, w, fun R1 h1 H1 wk J E1 hr1 w1 wlk => ?_⟩
  intro D hD
  have hDH : H D = none := E1.none_of hD
  -- the invariant
  refine ⟨fun i m H' => m = wk.xs.length - i ∧ i ≤ wk.xs.length ∧ ∃ R' h' acc av, Ext K R1 h1 H1 R' h' H' ∧ HRel K H' R' h' ∧ (∀ j, j < h'.length → R' j ≠ D) ∧ H' D = some (.lst av) ∧ R0s K H' R' h'.length acc av ∧
      compW wk.ok p cond elt (wipeD τ p.ix) (fun acc h2 => P (.tl acc) h2) (wk.xs.drop i) acc h', ⟨wk.xs.length, by simp, Nat.zero_le _, R1, h1, [], [], Ext.laid hD, hr1.laid hD, hr1.nep hD, upd_same, by simp only [R0s], w1⟩, ?_⟩
  rintro i m H2 ⟨rfl, hi, R2, h2, acc, av, E2, hr2, nD, eD, ra, cw⟩
  by_cases hlt : i < wk.xs.length
  · refine .inr ?_
    rw [List.drop_eq_getElem_cons hlt] at cw
    obtain ⟨ok, cw⟩ := cw
    obtain ⟨wgo, wstop, wyld⟩ := wlk R2 h2 H2 E2 hr2 ok
    refine ⟨wgo i hlt, _, fun H' q => ⟨wk.xs.length - (i + 1), by omega, q⟩, fun x H3 y => ?_⟩
    obtain ⟨d, ed, E3, hr3, rd⟩ := wyld i x H3 hlt y
    rw [List.getElem?_eq_getElem hlt] at ed
    cases ed
    have eD3 : H3 D = some (.lst av) := E3.frame _ _ eD nD
    have sw : SRel K H3 R2 h2.length (wipeD τ p.ix) (L2.wipe σ p.ix) := E3.srel (E2.srel (E1.srel (sr.wipe p.ix)))
    refine bind_sim rd sw cw fun τ' σ' s' hw cw' => ?_
    refine ⟨by rw [hw, wipe_twice _ _ _ fun v hv => hv], R2, τ', h2, _, s', hr3, cw', fun R4 h4 H4 b E4 hr4 cw4 => ?_⟩
    have nD4 := E4.ne eD3 nD
    have eD4 : H4 D = some (.lst av) := E4.frame _ _ eD3 nD
    have E14 := (E2.trans E3).trans E4
    cases b with
    | false =>
      rw [if_neg Bool.false_ne_true] at cw4
      refine iteF ?_
      exact ⟨rfl, hlt, R4, h4, acc, av, E14, hr4, nD4, eD4, E4.r0s (E3.r0s ra), cw4⟩
    | true =>
      rw [if_pos rfl] at cw4
      refine iteT ?_
      refine ⟨R4, τ', h4, _, E4.srel s', hr4, cw4, fun R5 h5 H5 y v E5 hr5 ry cw5 => ?_⟩
      obtain ⟨R6, h6, y', E6, hr6, ag, ry', cw6⟩ := mat_ok E5 hr5 ry cw5
      have eD5 : H5 D = some (.lst av) := E5.frame _ _ eD4 nD4
      have nD6 := E6.ne eD4 nD4
      obtain ⟨hz, cw6⟩ := cw6
      have ra6 : R0s K H5 R6 h6.length acc av := E6.r0s (E4.r0s (E3.r0s ra))
      refine ⟨av, eD5, by rw [← R0s_len ra6]; exact hz, rfl, hlt, R6, h6, acc ++ [y'], av ++ [v], (E14.trans E6).side hD eD5, hr6.side eD5 nD6, nD6, upd_same, side_r0s eD5 (R0s_append ra6 (R0s_one ry')), cw6⟩
  · have e : i = wk.xs.length := by omega
    subst e
    rw [List.drop_eq_nil_of_le (Nat.le_refl _)] at cw
    obtain ⟨ok, cw⟩ := cw
    obtain ⟨wgo, wstop, wyld⟩ := wlk R2 h2 H2 E2 hr2 ok
    exact .inl ⟨wstop _ (Nat.le_refl _), post R2 h2 H2 (.tl acc) (.ref D) (E1.trans E2) hr2 ⟨D, av, rfl, hDH, eD, ra, nD⟩ cw⟩
end Py

namespace Py
open PySem PySem.Spec PyProof.Rows L2

/-! ### what the syntax of an operation is -/
def glC (sc : Scope) (x : Str) : Bool := decide (sc.names.lookup x = some .globalImplicit)
def binA (op : Operator) : Expr → Option (List Expr)
  | .BinOp l o r _ => if o = op then some [l, r] else none
  | _ => none
def cmpA (op : CmpOp) : Expr → Option (List Expr)
  | .Compare l [o] [r] _ => if o = op ∧ noSet r = true then some [l, r] else none
  | _ => none
def call1 (T : Tab) (sc : Scope) (x : Str) : Expr → Option (List Expr)
  | .Call (.Name y _) [a] [] _ => if y = x ∧ x ∈ T.bn ∧ glC sc x = true ∧ noStar a = true then some [a] else none
  | _ => none
def callSet (T : Tab) (sc : Scope) (x : Str) : Expr → Option (List Expr)
  | .Call (.Name y _) [.Call (.Name z _) [a] [] _] [] _ => if y = x ∧ z = ("set" : Str) ∧ x ∈ T.bn ∧ ("set" : Str) ∈ T.bn ∧ glC sc x = true ∧ glC sc ("set" : Str) = true ∧ noStar a = true then some [a] else none
  | _ => none
def call2 (T : Tab) (sc : Scope) (x : Str) : Expr → Option (List Expr)
  | .Call (.Name y _) [a, b] [] _ => if y = x ∧ x ∈ T.bn ∧ glC sc x = true ∧ noStar a = true ∧ noStar b = true then some [a, b] else none
  | _ => none
def callX2 (T : Tab) (sc : Scope) (id : String) : Expr → Option (List Expr)
  | .Call (.Name y _) [a, b] [] _ => if T.ex.lookup y = some id ∧ glC sc y = true ∧ noStar a = true ∧ noStar b = true ∧ (y == ("__debug__" : Str)) = false then some [a, b] else none
  | _ => none
def meth0 (m : Str) : Expr → Option (List Expr)
  | .Call (.Attribute o n apos) [] [] pos => if n = m ∧ noSuper o = true ∧ (apos.endLine == pos.line) = true then some [o] else none
  | _ => none
def meth1 (m : Str) : Expr → Option (List Expr)
  | .Call (.Attribute o n apos) [a] [] pos => if n = m ∧ noSuper o = true ∧ (apos.endLine == pos.line) = true ∧ noStar a = true then some [o, a] else none
  | _ => none
def tyName : String → Str
  | "int" => "int" | "bool" => "bool" | "str" => "str" | "tuple" => "tuple" | "list" => "list" | "dict" => "dict" | _ => "?"
def instA (T : Tab) (sc : Scope) (t : String) : Expr → Option (List Expr)
  | .Call (.Name y _) [a, .Name c _] [] _ => if y = ("isinstance" : Str) ∧ ("isinstance" : Str) ∈ T.bn ∧ glC sc ("isinstance" : Str) = true ∧ noStar a = true ∧ t ∈ instTypes ∧ c = tyName t ∧ c ∈ T.bn ∧ glC sc c = true then some [a] else none
  | _ => none
def primArgs (T : Tab) (sc : Scope) : Prim → Expr → Option (List Expr)
  | .add, e => binA .Add e
  | .sub, e => binA .Sub e
  | .mul, e => binA .Mult e
  | .fdiv, e => binA .FloorDiv e
  | .mod, e => binA .Mod e
  | .pow, e => binA .Pow e
  | .neg, .UnaryOp .USub a _ => some [a]
  | .eq, e => cmpA .Eq e
  | .ne, e => cmpA .NotEq e
  | .lt, e => cmpA .Lt e
  | .le, e => cmpA .LtE e
  | .gt, e => cmpA .Gt e
  | .ge, e => cmpA .GtE e
  | .is_, e => cmpA .Is e
  | .isnot, e => cmpA .IsNot e
  | .in_, e => cmpA .In e
  | .notin, e => cmpA .NotIn e
  | .idx, .Subscript o i _ => if noSlice i = true then some [o, i] else none
  | .slLo, .Subscript o (.Slice (some a) none none _) _ => some [o, a]
  | .slHi, .Subscript o (.Slice none (some a) none _) _ => some [o, a]
  | .rev, .Subscript o (.Slice none none (some (.UnaryOp .USub (.Constant (.int 1) _ _) _)) _) _ => some [o]
  | .len, e => call1 T sc "len" e
  | .abs, e => call1 T sc "abs" e
  | .int1, e => call1 T sc "int" e
  | .gcd, e => callX2 T sc "math.gcd" e
  | .list, e => call1 T sc "list" e
  | .tuple, e => call1 T sc "tuple" e
  | .bits, e => meth0 "bit_length" e
  | .inst t, e => instA T sc t e
  | .pop, e => meth0 "pop" e
  | .reverse, e => meth0 "reverse" e
  | .any, e => call1 T sc "any" e
  | .all, e => call1 T sc "all" e
  | .sum, e => call1 T sc "sum" e
  | .maxL, e => call1 T sc "max" e
  | .minL, e => call1 T sc "min" e
  | .sorted, e => call1 T sc "sorted" e
  | .max2, e => call2 T sc "max" e
  | .min2, e => call2 T sc "min" e
  | .sortedSet, e => callSet T sc "sorted" e
  | .lenSet, e => callSet T sc "len" e
  | _, _ => none

def hd2 : List Expr → Option (Expr × List Expr)
  | o :: r => some (o, r)
  | [] => none
def methArgs (T : Tab) (sc : Scope) : MP → Expr → Option (Expr × List Expr)
  | .append, e => (meth1 "append" e).bind hd2
theorem binA_inv {op : Operator} {e : Expr} {es : List Expr} (h : binA op e = some es) : ∃ l r pos, e = .BinOp l op r pos ∧ es = [l, r] := by
  unfold binA at h
  split at h
  · split at h
    · rename_i q; subst q; cases h; exact ⟨_, _, _, rfl, rfl⟩
    · cases h
  · cases h
theorem cmpA_inv {op : CmpOp} {e : Expr} {es : List Expr} (h : cmpA op e = some es) : ∃ l r pos, e = .Compare l [op] [r] pos ∧ es = [l, r] ∧ noSet r = true := by
  unfold cmpA at h
  split at h
  · split at h
    · rename_i q; obtain ⟨q, z⟩ := q; subst q; cases h; exact ⟨_, _, _, rfl, rfl, z⟩
    · cases h
  · cases h
theorem call1_inv {T : Tab} {sc : Scope} {x : Str} {e : Expr} {es : List Expr} (h : call1 T sc x e = some es) : ∃ a p pos, e = .Call (.Name x p) [a] [] pos ∧ es = [a] ∧ x ∈ T.bn ∧ sc.names.lookup x = some .globalImplicit ∧ noStar a = true := by
  unfold call1 at h
  split at h
  · split at h
    · rename_i q; obtain ⟨q, z1, z2, z3⟩ := q; subst q; cases h; exact ⟨_, _, _, rfl, rfl, z1, of_decide_eq_true z2, z3⟩
    · cases h
  · cases h
theorem callSet_inv {T : Tab} {sc : Scope} {x : Str} {e : Expr} {es : List Expr} (h : callSet T sc x e = some es) : ∃ a p p2 q pos, e = .Call (.Name x p) [.Call (.Name "set" p2) [a] [] q] [] pos ∧ es = [a] ∧ x ∈ T.bn ∧ ("set" : Str) ∈ T.bn ∧
    sc.names.lookup x = some .globalImplicit ∧ sc.names.lookup ("set" : Str) = some .globalImplicit ∧ noStar a = true := by
  unfold callSet at h
  split at h
  · split at h
    · rename_i q; obtain ⟨q1, q2, z1, z2, z3, z4, z5⟩ := q; subst q1 q2; cases h; exact ⟨_, _, _, _, _, rfl, rfl, z1, z2, of_decide_eq_true z3, of_decide_eq_true z4, z5⟩
    · cases h
  · cases h
theorem call2_inv {T : Tab} {sc : Scope} {x : Str} {e : Expr} {es : List Expr} (h : call2 T sc x e = some es) : ∃ a b p pos, e = .Call (.Name x p) [a, b] [] pos ∧ es = [a, b] ∧ x ∈ T.bn ∧ sc.names.lookup x = some .globalImplicit ∧ noStar a = true ∧ noStar b = true := by
  unfold call2 at h
  split at h
  · split at h
    · rename_i q; obtain ⟨rfl, z0, z2, z3, z4⟩ := q; cases h; exact ⟨_, _, _, _, rfl, rfl, z0, of_decide_eq_true z2, z3, z4⟩
    · cases h
  · cases h
theorem callX2_inv {T : Tab} {sc : Scope} {id : String} {e : Expr} {es : List Expr} (h : callX2 T sc id e = some es) : ∃ x a b p pos, e = .Call (.Name x p) [a, b] [] pos ∧ es = [a, b] ∧ T.ex.lookup x = some id ∧ sc.names.lookup x = some .globalImplicit ∧ noStar a = true ∧ noStar b = true ∧ (x == ("__debug__" : Str)) = false := by
  unfold callX2 at h
  split at h
  · split at h
    · rename_i q; obtain ⟨z0, z2, z3, z4, z5⟩ := q; cases h; exact ⟨_, _, _, _, _, rfl, rfl, z0, of_decide_eq_true z2, z3, z4, z5⟩
    · cases h
  · cases h
theorem meth0_inv {m : Str} {e : Expr} {es : List Expr} (h : meth0 m e = some es) : ∃ o apos pos, e = .Call (.Attribute o m apos) [] [] pos ∧ es = [o] ∧ noSuper o = true ∧ (apos.endLine == pos.line) = true := by
  unfold meth0 at h
  split at h
  · split at h
    · rename_i q; obtain ⟨q, z1, z2⟩ := q; subst q; cases h; exact ⟨_, _, _, rfl, rfl, z1, z2⟩
    · cases h
  · cases h
theorem meth1_inv {m : Str} {e : Expr} {es : List Expr} (h : meth1 m e = some es) : ∃ o a apos pos, e = .Call (.Attribute o m apos) [a] [] pos ∧ es = [o, a] ∧ noSuper o = true ∧ (apos.endLine == pos.line) = true ∧ noStar a = true := by
  unfold meth1 at h
  split at h
  · split at h
    · rename_i q; obtain ⟨q, z1, z2, z3⟩ := q; subst q; cases h; exact ⟨_, _, _, _, rfl, rfl, z1, z2, z3⟩
    · cases h
  · cases h
theorem instA_inv {T : Tab} {sc : Scope} {t : String} {e : Expr} {es : List Expr} (h : instA T sc t e = some es) : ∃ a p q pos, e = .Call (.Name "isinstance" p) [a, .Name (tyName t) q] [] pos ∧ es = [a] ∧ ("isinstance" : Str) ∈ T.bn ∧ sc.names.lookup ("isinstance" : Str) = some .globalImplicit ∧ noStar a = true ∧
    t ∈ instTypes ∧ tyName t ∈ T.bn ∧ sc.names.lookup (tyName t) = some .globalImplicit := by
  unfold instA at h
  split at h
  · split at h
    · rename_i q; obtain ⟨q, z1, z2, z3, z4, z5, z6, z7⟩ := q; subst q z5; cases h; exact ⟨_, _, _, _, rfl, rfl, z1, of_decide_eq_true z2, z3, z4, z6, of_decide_eq_true z7⟩
    · cases h
  · cases h

/-! ### the arguments' readings -/
def ArgsOk (cl : CallD) (gl : List (Str × D)) (X : Cx) : CE → List Expr → Prop
  | .anil, [] => True
  | .acons a r, e :: es => PE X e (lift X.K (wp cl gl a).e) ∧ ArgsOk cl gl X r es
  | _, _ => False
section
variable {T : Tab} {cl : CallD} {gl : List (Str × D)} {N : List Str} {sc ss : Scope} {X : Cx}
theorem ArgsOk.nil {as : CE} (h : ArgsOk cl gl X as []) : as = .anil := by
  cases as <;> first | rfl | exact False.elim h
theorem ArgsOk.cons {as : CE} {e : Expr} {es : List Expr} (h : ArgsOk cl gl X as (e :: es)) : ∃ a r, as = .acons a r ∧ PE X e (lift X.K (wp cl gl a).e) ∧ ArgsOk cl gl X r es := by
  cases as <;> first | exact ⟨_, _, rfl, h.1, h.2⟩ | exact False.elim h
theorem ArgsOk.one {as : CE} {e : Expr} (h : ArgsOk cl gl X as [e]) : ∃ a, as = .acons a .anil ∧ PE X e (lift X.K (wp cl gl a).e) := by
  obtain ⟨a, r, rfl, h1, h2⟩ := h.cons
  cases h2.nil
  exact ⟨a, rfl, h1⟩
theorem ArgsOk.two {as : CE} {e f : Expr} (h : ArgsOk cl gl X as [e, f]) : ∃ a b, as = .acons a (.acons b .anil) ∧ PE X e (lift X.K (wp cl gl a).e) ∧ PE X f (lift X.K (wp cl gl b).e) := by
  obtain ⟨a, r, rfl, h1, h2⟩ := h.cons
  obtain ⟨b, rfl, h3⟩ := h2.one
  exact ⟨a, b, rfl, h1, h3⟩
theorem ArgsOk.three {as : CE} {e f k : Expr} (h : ArgsOk cl gl X as [e, f, k]) : ∃ a b c, as = .acons a (.acons b (.acons c .anil)) ∧ PE X e (lift X.K (wp cl gl a).e) ∧ PE X f (lift X.K (wp cl gl b).e) ∧ PE X k (lift X.K (wp cl gl c).e) := by
  obtain ⟨a, r, rfl, h1, h2⟩ := h.cons
  obtain ⟨b, c, rfl, h3, h4⟩ := h2.two
  exact ⟨a, b, c, rfl, h1, h3, h4⟩

/-- arguments that each get a place -/
def liftA (K : PySem.W.Frag) (t : TAd) : TA := fun σ H Q => ∃ R τ h P, SRel K H R h.length τ σ ∧ HRel K H R h ∧ t τ h P ∧
  ∀ R' h' H' ds vs, Ext K R h H R' h' H' → HRel K H' R' h' → R0s K H' R' h'.length ds vs → P ds h' → Q vs H'
theorem args_ok : ∀ {as : CE} {es : List Expr}, es.all noStar = true → ArgsOk cl gl X as es → PA X es (liftA X.K ((wp cl gl as).a true))
  | as, [], _, h => by
    cases h.nil
    refine PA.imp pa_nil fun σ H Q ⟨R, τ, h, P, sr, hr, w, post⟩ => ?_
    exact post R h H [] [] .refl hr (by simp only [R0s]) w
  | as, e :: es, hs, h => by
    rw [List.all_cons, Bool.and_eq_true] at hs
    obtain ⟨a, r, rfl, h1, h2⟩ := h.cons
    refine PA.imp (pa_cons h1 (args_ok hs.2 h2) (star_cons hs.1)) fun σ H Q ⟨R, τ, h, P, sr, hr, w, post⟩ => ?_
    refine ⟨R, τ, h, _, sr, hr, w, fun R1 h1 H1 d v E1 hr1 rd w1 => ?_⟩
    obtain ⟨R2, h2, d', E2, hr2, ag, rd', w2⟩ := mat_ok E1 hr1 rd w1
    refine ⟨R2, τ, h2, _, E2.srel sr, hr2, w2, fun R3 h3 H3 ds vs E3 hr3 rs w3 => ?_⟩
    refine post R3 h3 H3 (d' :: ds) (v :: vs) (E2.trans E3) hr3 ?_ w3
    simp only [R0s]
    exact ⟨v, vs, rfl, E3.r0 rd', rs⟩

/-! ### operations -/
theorem s_bin {op : Operator} {r : R2} {p : D → D → Hd → PD → Prop} {ta tb : TEd} {l r' : Expr} {pos : Pos} (ho : OpR X (binaryOp op) r) (sm : Sim2 X.K r p) (ha : PE X l (lift X.K ta)) (hb : PE X r' (lift X.K tb)) :
    PE X (.BinOp l op r' pos) (lift X.K fun τ h Q => ta τ h fun x h1 => tb τ h1 fun y h2 => p x y h2 Q) := PE.imp (pe_op ho ha hb) fun σ H Q w => lift_bin sm σ H Q w
theorem s_cmp {op : CmpOp} {r : R2} {p : D → D → Hd → PD → Prop} {ta tb : TEd} {l r' : Expr} {pos : Pos} (ho : OpR X (compareOp op) r) (sm : Sim2 X.K r p) (hn : noSet r' = true) (ha : PE X l (lift X.K ta)) (hb : PE X r' (lift X.K tb)) :
    PE X (.Compare l [op] [r'] pos) (lift X.K fun τ h Q => ta τ h fun x h1 => tb τ h1 fun y h2 => p x y h2 Q) := PE.imp (pe_cmpR ho ha hb (noSet_mark hn)) fun σ H Q w => lift_bin sm σ H Q w
theorem s_call1 {x : Str} {id : String} {r : List V → Hp → VK → Prop} {p : D → Hd → PD → Prop} {ta : TEd} {a : Expr} {q pos : Pos} (g : Good T cl N sc ss X) (hc : CallR X (.builtin id) r) (sm : CSim1 X.K r p) (hv : bootBuiltins x = some (.builtin id))
    (hx : x ∈ T.bn) (hg : sc.names.lookup x = some .globalImplicit) (hs : noStar a = true) (ha : PE X a (lift X.K ta)) (hn : x ≠ "__name__" := by decide) (hd : (x == ("__debug__" : Str)) = false := by decide) :
    PE X (.Call (.Name x q) [a] [] pos) (lift X.K fun τ h Q => ta τ h fun x h1 => p x h1 Q) :=
  PE.imp (pe_callB hc (by unfold Gl Env.kindOf; rw [g.hsc]; exact hg) (g.bn x hx) hv (pa_cons ha pa_nil (star_cons hs)) hn hd (star_cons hs) rfl) fun σ H Q w => lift_un (r := fun x H Q => r [x] H Q) sm σ H Q w
theorem s_call2 {x : Str} {id : String} {r : List V → Hp → VK → Prop} {p : D → D → Hd → PD → Prop} {ta tb : TEd} {a b : Expr} {q pos : Pos} (g : Good T cl N sc ss X) (hc : CallR X (.builtin id) r) (sm : CSim2 X.K r p) (hv : bootBuiltins x = some (.builtin id))
    (hx : x ∈ T.bn) (hg : sc.names.lookup x = some .globalImplicit) (hs : noStar a = true) (hs2 : noStar b = true) (ha : PE X a (lift X.K ta)) (hb : PE X b (lift X.K tb)) (hn : x ≠ "__name__" := by decide) (hd : (x == ("__debug__" : Str)) = false := by decide) :
    PE X (.Call (.Name x q) [a, b] [] pos) (lift X.K fun τ h Q => ta τ h fun x h1 => tb τ h1 fun y h2 => p x y h2 Q) :=
  PE.imp (pe_callB hc (by unfold Gl Env.kindOf; rw [g.hsc]; exact hg) (g.bn x hx) hv (pa_cons ha (pa_cons hb pa_nil (star_cons hs2)) (star_cons hs)) hn hd (star_cons hs) (star_any (by simp [hs2]))) fun σ H Q w => lift_bin (r := fun x y H Q => r [x, y] H Q) sm σ H Q w
theorem s_ty1 {x : Str} {id : String} {r : List V → Hp → VK → Prop} {p : D → Hd → PD → Prop} {ta : TEd} {a : Expr} {q pos : Pos} (g : Good T cl N sc ss X) (hc : CallR X (.type id) r) (sm : CSim1 X.K r p) (hv : bootBuiltins x = some (.type id))
    (hx : x ∈ T.bn) (hg : sc.names.lookup x = some .globalImplicit) (hs : noStar a = true) (ha : PE X a (lift X.K ta)) (hn : x ≠ "__name__" := by decide) (hd : (x == ("__debug__" : Str)) = false := by decide) :
    PE X (.Call (.Name x q) [a] [] pos) (lift X.K fun τ h Q => ta τ h fun x h1 => p x h1 Q) :=
  PE.imp (pe_callTy hc (by unfold Gl Env.kindOf; rw [g.hsc]; exact hg) (g.bn x hx) hv (pa_cons ha pa_nil (star_cons hs)) hn hd (star_cons hs) rfl) fun σ H Q w => lift_un (r := fun x H Q => r [x] H Q) sm σ H Q w
theorem s_callX2 {x : Str} {id : String} {r : List V → Hp → VK → Prop} {p : D → D → Hd → PD → Prop} {ta tb : TEd} {a b : Expr} {q pos : Pos} (g : Good T cl N sc ss X) (hc : CallR X (.builtin id) r) (sm : CSim2 X.K r p)
    (hx : T.ex.lookup x = some id) (hg : sc.names.lookup x = some .globalImplicit) (hs : noStar a = true) (hs2 : noStar b = true) (hd : (x == ("__debug__" : Str)) = false) (ha : PE X a (lift X.K ta)) (hb : PE X b (lift X.K tb)) :
    PE X (.Call (.Name x q) [a, b] [] pos) (lift X.K fun τ h Q => ta τ h fun x h1 => tb τ h1 fun y h2 => p x y h2 Q) :=
  PE.imp (pe_callBfun hc (by unfold Gl Env.kindOf; rw [g.hsc]; exact hg) (g.ex x id hx) (pa_cons ha (pa_cons hb pa_nil (star_cons hs2)) (star_cons hs)) hd (star_cons hs) (star_any (by simp [hs2]))) fun σ H Q w => lift_bin (r := fun x y H Q => r [x, y] H Q) sm σ H Q w
/-- the types of lists -/
theorem ty_list {K : PySem.W.Frag} {H : Hp} {a : Addr} {vs : List V} (h : H a = some (.lst vs)) : tyV K "list" (.ref a) H := .inl ⟨rfl, vs, .of h⟩
def SimM0 (K : PySem.W.Frag) (T : String) (r : V → List V → Hp → VK → Prop) (p : D → Hd → PD → Prop) : Prop := Sim1 K (fun x H Q => tyV K T x H ∧ r x [] H Q) p
theorem s_meth0 {T0 id : String} {m : Str} {r : V → List V → Hp → VK → Prop} {p : D → Hd → PD → Prop} {ta : TEd} {o : Expr} {apos pos : Pos} (pa : PlainAttrs T0) (slot : Slot T0 m id) (hty : typeOf (.builtin id) = pure (.type "method_descriptor")) (hm : MtR X id r)
    (sm : SimM0 X.K T0 r p) (hs : noSuper o = true) (hl : (apos.endLine == pos.line) = true) (ha : PE X o (lift X.K ta)) : PE X (.Call (.Attribute o m apos) [] [] pos) (lift X.K fun τ h Q => ta τ h fun x h1 => p x h1 Q) :=
  PE.imp (pe_bm0 pa slot hty hm ha (noSuper_ok hs) hl) fun σ H Q w => lift_un (r := fun x H Q => tyV X.K T0 x H ∧ r x [] H Q) sm σ H Q w
end
end Py

namespace Py
open PySem PySem.Spec PyProof.Rows L2
section
variable {T : Tab} {cl : CallD} {gl : List (Str × D)} {N : List Str} {sc ss : Scope} {X : Cx}

theorem sim_popM {K : PySem.W.Frag} : SimM0 K "list" rPop popW := by
  intro R h H G x v P Q hr rx w p
  refine ⟨?_, sim_pop R h H G x v P Q hr rx w p⟩
  unfold popW at w
  split at w
  · obtain ⟨hi, rfl⟩ := rx.locE
    split at w
    · rename_i xs e
      obtain ⟨_, vs, hw, r⟩ := hr.lst e
      exact ty_list hw
    · exact w.elim
  · exact w.elim
theorem sim_reverseM {K : PySem.W.Frag} : SimM0 K "list" rReverse reverseW := by
  intro R h H G x v P Q hr rx w p
  refine ⟨?_, sim_reverse R h H G x v P Q hr rx w p⟩
  unfold reverseW at w
  split at w
  · obtain ⟨hi, rfl⟩ := rx.locE
    split at w
    · rename_i xs e
      obtain ⟨_, vs, hw, r⟩ := hr.lst e
      exact ty_list hw
    · exact w.elim
  · exact w.elim
theorem s_append {ta : TEd} {as : CE} {o a : Expr} {apos pos : Pos} (hs : noSuper o = true) (hl : (apos.endLine == pos.line) = true) (hn : noStar a = true) (ho : PE X o (lift X.K ta)) (ha : ArgsOk cl gl X as [a]) :
    PE X (.Call (.Attribute o "append" apos) [a] [] pos) (lift X.K (methE .append ta (wp cl gl as).a)) := by
  have hns : [a].all noStar = true := by simp [hn]
  refine PE.imp (pe_bm PySem.F.plainAttrs_list PySem.F.slot_list_append PySem.F.type_list_append mt_append ho (args_ok hns ha) (noSuper_ok hs) ?_ hl (star_cons hn) rfl) fun σ H Q w => ?_
  · rw [star_all hns]
    rfl
  · obtain ⟨R, τ, h, P, sr, hr, w, post⟩ := w
    refine ⟨R, τ, h, _, sr, hr, w, fun R1 h1 H1 x v E1 hr1 rx w1 => ?_⟩
    obtain ⟨ty, w1⟩ := w1
    obtain ⟨xs, ex⟩ := Option.isSome_iff_exists.mp ty
    obtain ⟨b, vs, rfl, hb, rb⟩ := rx.mlst hr1 ex
    refine ⟨ty_list hb, R1, τ, h1, _, E1.srel sr, hr1, w1, fun R2 h2 H2 ds us E2 hr2 rs w2 => ?_⟩
    match ds, w2 with
    | [y], w2 =>
      simp only [R0s] at rs
      obtain ⟨u, us', rfl, ry, rfl⟩ := rs
      exact sim_append R2 h2 H2 H x y (.ref b) u P Q hr2 (E2.rt rx) ry w2 ((post.on E1).on E2)
    | [], w2 => exact w2.elim
    | _ :: _ :: _, w2 => exact w2.elim

theorem s_sl2 {ta tb tc : TEd} {o a b : Expr} {p pos : Pos} (ho : PE X o (lift X.K ta)) (ha : PE X a (lift X.K tb)) (hb : PE X b (lift X.K tc)) : PE X (.Subscript o (.Slice (some a) (some b) none p) pos) (lift X.K (sl2E ta tb tc)) := by
  refine PE.imp (pe_slice ok_sl ho (po_some ha) (po_some hb)) fun σ H Q w => ?_
  obtain ⟨R, τ, h, P, sr, hr, w, post⟩ := w
  refine ⟨R, τ, h, _, sr, hr, w, fun R1 h1 H1 x v E1 hr1 rx w1 => ⟨R1, τ, h1, _, E1.srel sr, hr1, w1, fun R2 h2 H2 y u E2 hr2 ry w2 => ?_⟩⟩
  cases y with
  | int i =>
    cases ry.intE
    refine ⟨i, rfl, R2, τ, h2, _, E2.srel (E1.srel sr), hr2, w2, fun R3 h3 H3 z u' E3 hr3 rz w3 => ?_⟩
    cases z with
    | int j =>
      cases rz.intE
      exact ⟨j, rfl, sim_sl R3 h3 H3 H x v P Q hr3 (E3.rt (E2.rt rx)) w3 (((post.on E1).on E2).on E3)⟩
    | _ => exact w3.elim
  | _ => exact w2.elim
/-! ### an operation's reading -/
theorem tyName_boot : ∀ t ∈ instTypes, bootBuiltins (tyName t) = some (.type t) ∧ tyName t ≠ "__name__" ∧ (tyName t == ("__debug__" : Str)) = false := by decide +kernel
theorem prim_ok (g : Good T cl N sc ss X) {p : Prim} {e : Expr} {es : List Expr} {as : CE} (hp : primArgs T sc p e = some es) (ha : ArgsOk cl gl X as es) : PE X e (lift X.K (wp cl gl (.prim p as)).e) := by
  have bin : ∀ {op : Operator} {r : R2}, binA op e = some es → OpR X (binaryOp op) r → Sim2 X.K r (fun x y h Q => wpP p [x, y] h Q) → PE X e (lift X.K (wp cl gl (.prim p as)).e) := by
    intro op r h1 h2 h3
    obtain ⟨l, r', pos, rfl, rfl⟩ := binA_inv h1
    obtain ⟨a1, b1, rfl, ha1, hb1⟩ := ha.two
    exact s_bin (ta := (wp cl gl a1).e) (tb := (wp cl gl b1).e) h2 h3 ha1 hb1
  have cmp : ∀ {op : CmpOp} {r : R2}, cmpA op e = some es → OpR X (compareOp op) r → Sim2 X.K r (fun x y h Q => wpP p [x, y] h Q) → PE X e (lift X.K (wp cl gl (.prim p as)).e) := by
    intro op r h1 h2 h3
    obtain ⟨l, r', pos, rfl, rfl, hn⟩ := cmpA_inv h1
    obtain ⟨a1, b1, rfl, ha1, hb1⟩ := ha.two
    exact s_cmp (ta := (wp cl gl a1).e) (tb := (wp cl gl b1).e) h2 h3 hn ha1 hb1
  have fun1 : ∀ {x : Str} {id : String} {r : List V → Hp → VK → Prop}, call1 T sc x e = some es → CallR X (.builtin id) r → CSim1 X.K r (fun x h Q => wpP p [x] h Q) → bootBuiltins x = some (.builtin id) → x ≠ "__name__" → (x == ("__debug__" : Str)) = false →
      PE X e (lift X.K (wp cl gl (.prim p as)).e) := by
    intro x id r h1 h2 h3 h4 h5 h6
    obtain ⟨a, q, pos, rfl, rfl, z1, z2, z3⟩ := call1_inv h1
    obtain ⟨a1, rfl, ha1⟩ := ha.one
    exact s_call1 (ta := (wp cl gl a1).e) (p := fun x h Q => wpP p [x] h Q) g h2 h3 h4 z1 z2 z3 ha1 h5 h6
  have ty1 : ∀ {x : Str} {id : String} {r : List V → Hp → VK → Prop}, call1 T sc x e = some es → CallR X (.type id) r → CSim1 X.K r (fun x h Q => wpP p [x] h Q) → bootBuiltins x = some (.type id) → x ≠ "__name__" → (x == ("__debug__" : Str)) = false →
      PE X e (lift X.K (wp cl gl (.prim p as)).e) := by
    intro x id r h1 h2 h3 h4 h5 h6
    obtain ⟨a, q, pos, rfl, rfl, z1, z2, z3⟩ := call1_inv h1
    obtain ⟨a1, rfl, ha1⟩ := ha.one
    exact s_ty1 (ta := (wp cl gl a1).e) (p := fun x h Q => wpP p [x] h Q) g h2 h3 h4 z1 z2 z3 ha1 h5 h6
  cases p with
  | add => exact bin hp ok_add sim_add
  | sub => exact bin hp op_sub sim_sub
  | mul => exact bin hp ok_mul sim_mul
  | fdiv => exact bin hp ok_fdiv sim_fdiv
  | mod => exact bin hp op_modN sim_mod
  | pow => exact bin hp op_pow sim_pow
  | neg =>
    unfold primArgs at hp
    split at hp <;> first | contradiction | skip
    cases hp
    obtain ⟨a1, rfl, ha1⟩ := ha.one
    exact PE.imp (pe_un un_neg ha1) fun σ H Q w => lift_un sim_neg σ H Q w
  | eq => exact cmp hp (op_eq.or (op_eqD g.hu)) sim_eq
  | ne => exact cmp hp (op_ne.or (op_neD g.hu)) sim_ne
  | lt => exact cmp hp op_lt sim_ord
  | le => exact cmp hp op_le sim_ord
  | gt => exact cmp hp op_gt sim_ord
  | ge => exact cmp hp op_ge sim_ord
  | is_ => exact cmp hp ok_is sim_is
  | isnot => exact cmp hp ok_isnot sim_isnot
  | in_ => exact cmp hp op_in_seq sim_in
  | notin => exact cmp hp op_notIn_seq sim_notin
  | idx =>
    unfold primArgs at hp
    split at hp <;> first | contradiction | skip
    split at hp
    · rename_i hs
      cases hp
      obtain ⟨a1, b1, rfl, ha1, hb1⟩ := ha.two
      exact PE.imp (pe_ix ix_seq ha1 hb1 (noSlice_plain hs)) fun σ H Q w => lift_bin (p := idxW) sim_idx σ H Q w
    · cases hp
  | slLo =>
    unfold primArgs at hp
    split at hp <;> first | contradiction | skip
    cases hp
    obtain ⟨a1, b1, rfl, ha1, hb1⟩ := ha.two
    exact PE.imp (pe_slice ok_sl ha1 (po_some hb1) po_none) fun σ H Q w => lift_bin (r := fun x y H Q => ∃ i, y = .int i ∧ rSlD X.K x (some i) none H Q) (p := fun x y h Q => wpP .slLo [x, y] h Q) (by
      intro R h H G G' x y v u P Q hr rx ry w p
      have w : (match partW y with | some i => slW x (some i) none h P | none => False) := w
      cases y with
      | int i => cases ry.intE; exact ⟨i, rfl, sim_sl R h H G x v P Q hr rx w p⟩
      | _ => exact w.elim) σ H Q w
  | slHi =>
    unfold primArgs at hp
    split at hp <;> first | contradiction | skip
    cases hp
    obtain ⟨a1, b1, rfl, ha1, hb1⟩ := ha.two
    exact PE.imp (pe_slice ok_sl ha1 po_none (po_some hb1)) fun σ H Q w => lift_bin (r := fun x y H Q => ∃ i, y = .int i ∧ rSlD X.K x none (some i) H Q) (p := fun x y h Q => wpP .slHi [x, y] h Q) (by
      intro R h H G G' x y v u P Q hr rx ry w p
      have w : (match partW y with | some i => slW x none (some i) h P | none => False) := w
      cases y with
      | int i => cases ry.intE; exact ⟨i, rfl, sim_sl R h H G x v P Q hr rx w p⟩
      | _ => exact w.elim) σ H Q w
  | rev =>
    unfold primArgs at hp
    split at hp <;> first | contradiction | skip
    cases hp
    obtain ⟨a1, rfl, ha1⟩ := ha.one
    exact PE.imp (pe_revL ha1) fun σ H Q w => lift_un (r := fun x H Q => ∃ a xs, x = .ref a ∧ SqL X.K H a xs ∧ ∀ p, H p = none → Q (.ref p) (upd H p (.lst xs.reverse))) (p := revW) sim_rev σ H Q w
  | len => exact fun1 hp call_len sim_len (by decide +kernel) (by decide) (by decide)
  | abs => exact fun1 hp call_abs sim_abs (by decide +kernel) (by decide) (by decide)
  | int1 => exact ty1 hp call_int1 sim_int (by decide +kernel) (by decide) (by decide)
  | gcd =>
    obtain ⟨x, a, b, q, pos, rfl, rfl, z1, z2, z3, z4, z5⟩ := callX2_inv hp
    obtain ⟨a1, b1, rfl, ha1, hb1⟩ := ha.two
    exact s_callX2 (ta := (wp cl gl a1).e) (tb := (wp cl gl b1).e) (p := gcdW) g cr_gcd sim_gcd z1 z2 z3 z4 z5 ha1 hb1
  | any => exact fun1 hp (cr_any g.calm) sim_any (by decide +kernel) (by decide) (by decide)
  | all => exact fun1 hp (cr_all g.calm) sim_all (by decide +kernel) (by decide) (by decide)
  | sum => exact fun1 hp (cr_sum g.calm) sim_sum (by decide +kernel) (by decide) (by decide)
  | maxL => exact fun1 hp (cr_max g.calm) sim_maxL (by decide +kernel) (by decide) (by decide)
  | minL => exact fun1 hp (cr_min g.calm) sim_minL (by decide +kernel) (by decide) (by decide)
  | sorted => exact fun1 hp (cr_sortedI.or cr_sortT) sim_sorted (by decide +kernel) (by decide) (by decide)
  | sortedSet =>
    obtain ⟨a, p1, p2, q, pos, rfl, rfl, z1, z2, z3, z4, z5⟩ := callSet_inv hp
    obtain ⟨a1, rfl, ha1⟩ := ha.one
    exact PE.imp (pe_srtSet g.calm (by unfold Gl Env.kindOf; rw [g.hsc]; exact z3) (g.bn _ z1) (by unfold Gl Env.kindOf; rw [g.hsc]; exact z4) (g.bn _ z2) ha1 (star_cons z5)) fun σ H Q w => lift_un (p := sortedSetW) sim_sortedSet σ H Q w
  | lenSet =>
    obtain ⟨a, p1, p2, q, pos, rfl, rfl, z1, z2, z3, z4, z5⟩ := callSet_inv hp
    obtain ⟨a1, rfl, ha1⟩ := ha.one
    exact PE.imp (pe_lnSet g.calm (by unfold Gl Env.kindOf; rw [g.hsc]; exact z3) (g.bn _ z1) (by unfold Gl Env.kindOf; rw [g.hsc]; exact z4) (g.bn _ z2) ha1 (star_cons z5)) fun σ H Q w => lift_un (p := lenSetW) sim_lenSet σ H Q w
  | max2 =>
    obtain ⟨a, b, q, pos, rfl, rfl, z1, z2, z3, z4⟩ := call2_inv hp
    obtain ⟨a1, b1, rfl, ha1, hb1⟩ := ha.two
    exact s_call2 (ta := (wp cl gl a1).e) (tb := (wp cl gl b1).e) (p := max2W) g (call_max2 g.calm) sim_max2 (by decide +kernel) z1 z2 z3 z4 ha1 hb1
  | min2 =>
    obtain ⟨a, b, q, pos, rfl, rfl, z1, z2, z3, z4⟩ := call2_inv hp
    obtain ⟨a1, b1, rfl, ha1, hb1⟩ := ha.two
    exact s_call2 (ta := (wp cl gl a1).e) (tb := (wp cl gl b1).e) (p := min2W) g (call_min2 g.calm) sim_min2 (by decide +kernel) z1 z2 z3 z4 ha1 hb1
  | list => exact ty1 hp call_list_of sim_list (by decide +kernel) (by decide) (by decide)
  | tuple => exact ty1 hp call_tuple_of sim_tuple (by decide +kernel) (by decide) (by decide)
  | bits =>
    obtain ⟨o, apos, pos, rfl, rfl, z1, z2⟩ := meth0_inv (show meth0 "bit_length" e = some es from hp)
    obtain ⟨a1, rfl, ha1⟩ := ha.one
    exact PE.imp (pe_bits ha1 (noSuper_ok z1) z2) fun σ H Q w => lift_un sim_bits σ H Q w
  | inst t =>
    obtain ⟨a, q, q2, pos, rfl, rfl, z1, z2, z3, z4, z5, z6⟩ := instA_inv (show instA T sc t e = some es from hp)
    obtain ⟨a1, rfl, ha1⟩ := ha.one
    obtain ⟨b1, b2, b3⟩ := tyName_boot t z4
    exact PE.imp (pe_callB call_isi (by unfold Gl Env.kindOf; rw [g.hsc]; exact z2) (g.bn _ z1) (by decide +kernel) (pa_cons ha1 (pa_cons (pe_bltn (v := .ty t) (by unfold Gl Env.kindOf; rw [g.hsc]; exact z6) (g.bn _ z5) b1 rfl b2 b3) pa_nil rfl) (star_cons z3)) (by decide) (by decide) (star_cons z3) rfl)
      fun σ H Q w => lift_un (r := fun x H Q => rIsi X.K [x, .ty t] H Q) (p := instW t) (sim_inst z4) σ H Q w
  | pop =>
    obtain ⟨o, apos, pos, rfl, rfl, z1, z2⟩ := meth0_inv (show meth0 "pop" e = some es from hp)
    obtain ⟨a1, rfl, ha1⟩ := ha.one
    exact s_meth0 (ta := (wp cl gl a1).e) (p := popW) PySem.F.plainAttrs_list PySem.F.slot_list_pop PySem.F.type_list_pop mt_pop sim_popM z1 z2 ha1
  | reverse =>
    obtain ⟨o, apos, pos, rfl, rfl, z1, z2⟩ := meth0_inv (show meth0 "reverse" e = some es from hp)
    obtain ⟨a1, rfl, ha1⟩ := ha.one
    exact s_meth0 (ta := (wp cl gl a1).e) (p := reverseW) PySem.F.plainAttrs_list PySem.F.slot_list_reverse PySem.F.type_list_reverse mt_reverse sim_reverseM z1 z2 ha1
end
end Py

namespace Py
open PySem PySem.Spec PyProof.Rows L2
section
variable {T : Tab} {cl : CallD} {N : List Str} {sc ss : Scope} {X : Cx}
/-! ### tests -/
theorem R0s_empty {K : PySem.W.Frag} {H : Hp} {R : Nat → Addr} {n : Nat} : ∀ {xs : List D} {vs : List V}, R0s K H R n xs vs → xs.isEmpty = vs.isEmpty
  | [], vs, r => by simp only [R0s] at r; subst r; rfl
  | x :: xs, vs, r => by simp only [R0s] at r; obtain ⟨v, us, rfl, _⟩ := r; rfl
theorem t_of_e {e : Expr} {te : TEd} (h : PE X e (lift X.K te)) (hp : plainTest e = true) : PT X e (liftT X.K (tstOf te)) := by
  refine PT.imp (pt_truth h (plainTest_ok hp)) fun σ H Q ⟨R, τ, h, P, sr, hr, w, post⟩ => ?_
  refine ⟨R, τ, h, _, sr, hr, w, fun R1 h1 H1 d v E1 hr1 rd w1 => ?_⟩
  have w1 : (match truth h1 d with | some k => P k h1 | none => False) := w1
  split at w1
  · rename_i k ek
    refine ⟨k, ?_, post R1 h1 H1 k E1 hr1 w1⟩
    unfold truth at ek
    split at ek
    · cases rd.nonE; cases ek; rfl
    · cases rd.blE; cases ek; rfl
    · cases rd.intE; cases ek; rfl
    · obtain ⟨a, vs, rfl, q, r⟩ := rd.tup
      cases ek
      refine .inr (.inl ⟨vs, q, ?_⟩)
      rw [R0s_empty r]
    · cases ek
    · split at ek
      · rename_i xs ex
        cases ek
        obtain ⟨a, vs, rfl, q, r⟩ := rd.lst hr1 ex
        refine .inl ⟨vs, q, ?_⟩
        rw [R0s_empty r]
      · cases ek
  · exact w1.elim
theorem s_cmpT {op : CmpOp} {r : R2} {q : D → D → Hd → (Bool → Hd → Prop) → Prop} {ta tb : TEd} {l r' : Expr} {pos : Pos} (ho : OpR X (compareOp op) r) (sm : Sim2 X.K r (fun x y h Q => q x y h (bo Q))) (hn : noSet r' = true) (ha : PE X l (lift X.K ta)) (hb : PE X r' (lift X.K tb)) :
    PT X (.Compare l [op] [r'] pos) (liftT X.K (tstOf fun τ h Q => ta τ h fun x h1 => tb τ h1 fun y h2 => q x y h2 (bo Q))) := by
  refine PT.imp (pt_cmpR ho ha hb (noSet_mark hn)) fun σ H Q ⟨R, τ, h, P, sr, hr, w, post⟩ => ?_
  refine lift_bin sm σ H _ ⟨R, τ, h, (fun d h' => match d with | .bl k => P k h' | _ => False), sr, hr, w, fun R1 h1 H1 d v E1 hr1 rd w1 => ?_⟩
  cases d with
  | bl k => cases rd.blE; exact ⟨k, rfl, post R1 h1 H1 k E1 hr1 w1⟩
  | _ => exact w1.elim
/-- a < b < c -/
def ordOp : Prim → Option (CmpOp × (Int → Int → Bool))
  | .lt => some (.Lt, fun i j => decide (i < j))
  | .le => some (.LtE, fun i j => decide (i ≤ j))
  | .gt => some (.Gt, fun i j => decide (j < i))
  | .ge => some (.GtE, fun i j => decide (j ≤ i))
  | _ => none
theorem ordOp_ok {p : Prim} {op : CmpOp} {f : Int → Int → Bool} (h : ordOp p = some (op, f)) : OpR X (compareOp op) (rI0 fun i j => .bl (f i j)) ∧ (∀ x y h Q, wpP p [x, y] h Q = ordW f x y h (bo Q)) ∧ op ≠ .In ∧ op ≠ .NotIn := by
  cases p <;> first | (cases h; done) | skip
  · cases h; exact ⟨op_lt, fun _ _ _ _ => rfl, by decide, by decide⟩
  · cases h; exact ⟨op_le, fun _ _ _ _ => rfl, by decide, by decide⟩
  · cases h; exact ⟨op_gt, fun _ _ _ _ => rfl, by decide, by decide⟩
  · cases h; exact ⟨op_ge, fun _ _ _ _ => rfl, by decide, by decide⟩
theorem lastMarks2 {o1 o2 : CmpOp} {b c : Expr} (h1 : o2 ≠ .In) (h2 : o2 ≠ .NotIn) : lastMarks [o1, o2] [b, c] = false := by
  show behindInMarks o2 c = false
  exact nobehind c h1 h2
theorem chain_sim {K : PySem.W.Frag} {p q : Prim} {f k : Int → Int → Bool} {ta tb tc : TEd} (h1 : ∀ x y h Q, wpP p [x, y] h Q = ordW f x y h (bo Q)) (h2 : ∀ x y h Q, wpP q [x, y] h Q = ordW k x y h (bo Q))
    (σ : L2.St) (H : Hp) (Q : VK) (w : lift K (chainE p q ta tb tc) σ H Q) : tChain (rI0 fun i j => .bl (f i j)) (rI0 fun i j => .bl (k i j)) (lift K ta) (lift K tb) (lift K tc) σ H Q := by
  obtain ⟨R, τ, h, P, sr, hr, w, post⟩ := w
  refine ⟨R, τ, h, _, sr, hr, w, fun R1 h1' H1 x v E1 hr1 rx w1 => ⟨R1, τ, h1', _, E1.srel sr, hr1, w1, fun R2 h2' H2 y u E2 hr2 ry w2 => ?_⟩⟩
  have w2 := w2
  rw [h1] at w2
  unfold ordW at w2
  split at w2
  · cases rx.intE; cases ry.intE
    refine ⟨_, _, rfl, rfl, _, rfl, ?_⟩
    obtain ⟨c, ec, w2⟩ := w2
    cases ec
    split
    · rename_i hc
      rw [if_pos hc] at w2
      refine ⟨R2, τ, h2', _, E2.srel (E1.srel sr), hr2, w2, fun R3 h3 H3 z u' E3 hr3 rz w3 => ?_⟩
      have w3 := w3
      rw [h2] at w3
      unfold ordW at w3
      split at w3
      · rename_i e1 e2
        cases e1
        cases rz.intE
        exact ⟨_, _, rfl, rfl, (((post.on E1).on E2).on E3).bl hr3 w3⟩
      · exact w3.elim
    · rename_i hc
      rw [if_neg hc] at w2
      exact ((post.on E1).on E2).bl hr2 w2
  · exact w2.elim
end
end Py

namespace Py
open PySem PySem.Spec PyProof.Rows L2

def visC (sc : Scope) (x : Str) : Bool := (decide (sc.names.lookup x = some .local) || decide (sc.names.lookup x = some .cell) || decide (sc.names.lookup x = some .free)) && !(x == ("__debug__" : Str)) && !(x == ("__classdict__" : Str))
def cstC : D → Const → Bool
  | .non, .none => true
  | .bl b, .bool c => b == c
  | .int i, .int j => decide (i = j)
  | .str x, .str y => decide (x = y)
  | _, _ => false
def isCmp : Prim → Bool
  | .eq => true | .ne => true | .lt => true | .le => true | .gt => true | .ge => true | .is_ => true | .isnot => true | .in_ => true | .notin => true | _ => false
def ownOf (N : List Str) (p : Pat) : List (Str × Nat) := p.ix.map fun i => (N.getD i "", i)
mutual
/-- is e the syntax of c (m: as a test)? -/
def chk (T : Tab) (N : List Str) : CE → Bool → Scope → Expr → Bool
  | .var i, _, sc, .Name x _ => decide (N[i]? = some x) && visC sc x
  | .cst d, _, _, .Constant c _ _ => cstC d c
  | .glob i, _, sc, .Name x _ => glC sc x && !(x == ("__debug__" : Str)) && decide ((T.gl[i]?).map (·.1) = some x)
  | .tup as, _, sc, .Tuple es _ _ => chkA T N as sc es
  | .lst as, _, sc, .List es _ => chkA T N as sc es
  | .prim p as, m, sc, e => (match primArgs T sc p e with | some es => chkA T N as sc es | none => false) && (!m || plainTest e || isCmp p)
  | .meth k o as, _, sc, e => (match methArgs T sc k e with | some (r, es) => chk T N o false sc r && chkA T N as sc es | none => false)
  | .call f as, _, sc, .Call (.Name x _) es [] _ => decide (T.fn[f]? = some x) && glC sc x && !(x == ("__debug__" : Str)) && chkA T N as sc es
  | .ife t a b, m, sc, .IfExp t' a' b' _ => !m && chk T N t true sc t' && chk T N a false sc a' && chk T N b false sc b'
  | .and_ a b, m, sc, .BoolOp .And (x :: y :: rest) pos => chk T N a m sc x && (match rest with | [] => chk T N b m sc y | z :: r => chk T N b m sc (.BoolOp .And (y :: z :: r) pos))
  | .or_ a b, m, sc, .BoolOp .Or (x :: y :: rest) pos => chk T N a m sc x && (match rest with | [] => chk T N b m sc y | z :: r => chk T N b m sc (.BoolOp .Or (y :: z :: r) pos))
  | .not_ a, m, sc, .UnaryOp .Not x _ => chk T N a m sc x
  | .chain p q a b c, _, sc, .Compare x [o1, o2] [y, z] _ => (match ordOp p, ordOp q with | some (p1, _), some (q1, _) => decide (p1 = o1) && decide (q1 = o2) | _, _ => false) && chk T N a false sc x && chk T N b false sc y && chk T N c false sc z
  | .sl2 a b c, _, sc, .Subscript x (.Slice (some y) (some z) none _) _ => chk T N a false sc x && chk T N b false sc y && chk T N c false sc z
  | .r1 a, _, sc, .Call (.Name x _) [y] [] _ => decide (x = "range") && decide (("range" : Str) ∈ T.bn) && glC sc "range" && noStar y && chk T N a false sc y
  | .r2 a b, _, sc, .Call (.Name x _) [y, z] [] _ => decide (x = "range") && decide (("range" : Str) ∈ T.bn) && glC sc "range" && noStar y && noStar z && chk T N a false sc y && chk T N b false sc z
  | .comp p it cd c elt, _, sc, .ListComp e' [⟨tg, iter, ifs, k⟩] scope _ => decide (k = 0) && blkC N sc scope (ownOf N p) && noSet iter && chk T N it false sc iter && chkP N scope p tg && chk T N elt false (relS scope sc) e' &&
      (match cd, ifs with | none, [] => true | some _, [i] => chk T N c true (relS scope sc) i | _, _ => false)
  | _, _, _, _ => false
def chkA (T : Tab) (N : List Str) : CE → Scope → List Expr → Bool
  | .anil, _, [] => true
  | .acons a r, sc, e :: es => noStar e && chk T N a false sc e && chkA T N r sc es
  | _, _, _ => false
end
end Py

namespace Py
open PySem PySem.Spec PyProof.Rows L2

def isBoolE : Expr → Bool
  | .BoolOp _ _ _ => true
  | _ => false
structure Snd (T : Tab) (cl : CallD) (N : List Str) (c : CE) : Prop where
  e : ∀ {m : Bool} {sc ss : Scope} {X : Cx} {e : Expr}, Good T cl N sc ss X → chk T N c m sc e = true → PE X e (lift X.K (wp cl T.gl c).e)
  t : ∀ {sc ss : Scope} {X : Cx} {e : Expr}, Good T cl N sc ss X → chk T N c true sc e = true → PT X e (liftT X.K (wp cl T.gl c).t) ∧ (isBoolE e = true → PW X e (liftT X.K (wp cl T.gl c).t))
  i : ∀ {m : Bool} {sc ss : Scope} {X : Cx} {e tg : Expr}, Good T cl N sc ss X → chk T N c m sc e = true → PI X tg e (liftI X.K (wp cl T.gl c).i)
  a : ∀ {sc ss : Scope} {X : Cx} {es : List Expr}, Good T cl N sc ss X → chkA T N c sc es = true → ArgsOk cl T.gl X c es ∧ es.all noStar = true
theorem PI.imp {X : Cx} {tg e : Expr} {t u : TI} (p : PI X tg e t) (h : ∀ σ H Q, u σ H Q → t σ H Q) : PI X tg e u := ⟨fun pins s σ H Q I w => p.run pins s σ H Q I (h _ _ _ w)⟩
theorem i_of_e {X : Cx} {tg e : Expr} {te : TEd} (h : PE X e (lift X.K te)) : PI X tg e (liftI X.K (itOf te)) := PI.imp (pi_any h) fun σ H Q w => lift_it σ H Q w
theorem pe_no {X : Cx} {e : Expr} : PE X e (lift X.K noE) := ⟨fun _ _ _ _ _ _ ⟨_, _, _, _, _, _, w, _⟩ => w.elim⟩
section
variable {T : Tab} {cl : CallD} {N : List Str}
/-- a plain piece of syntax: its value alone -/
theorem Snd.plain {c : CE} {te : TEd} (hw : wp cl T.gl c = mkR te) (he : ∀ {m : Bool} {sc ss : Scope} {X : Cx} {e : Expr}, Good T cl N sc ss X → chk T N c m sc e = true → PE X e (lift X.K te))
    (hp : ∀ {sc : Scope} {e : Expr}, chk T N c true sc e = true → plainTest e = true) (ha : ∀ sc es, chkA T N c sc es = false) : Snd T cl N c := by
  refine ⟨fun g h => by rw [hw]; exact he g h, fun g h => ⟨by rw [hw]; exact t_of_e (he g h) (hp h), fun z => ?_⟩, fun g h => by rw [hw]; exact i_of_e (he g h), fun g h => by rw [ha] at h; cases h⟩
  have q := hp h
  rename_i e
  cases e <;> first | (cases z; done) | (cases q; done)
theorem snd_var {i : Nat} : Snd T cl N (.var i) := by
  refine Snd.plain (te := varE i) rfl (fun {m sc ss X e} g h => ?_) (fun {sc e} h => ?_) (fun sc es => by cases es <;> rfl)
  · cases e with
    | Name x p =>
      simp only [chk, Bool.and_eq_true, Bool.not_eq_true', decide_eq_true_eq, visC, Bool.or_eq_true] at h
      obtain ⟨h1, ⟨h2, h3⟩, h4⟩ := h
      refine PE.imp (pe_var (i := i) (by rw [g.hN]; exact h1) (by rw [g.hsc]; rcases h2 with (a | a) | a; exact .inl a; exact .inr (.inl a); exact .inr (.inr a)) h3 h4) fun σ H Q ⟨R, τ, h, P, sr, hr, w, post⟩ => ?_
      have w : (match τ[i]? with | some (some d) => P d h | _ => False) := w
      split at w
      · rename_i d ed
        obtain ⟨v, ev, rv⟩ := sr.at_ i d ed
        exact ⟨v, ev, post.here hr (.of rv) w⟩
      · exact w.elim
    | _ => simp [chk] at h
  · cases e <;> first | rfl | (simp [chk] at h)
theorem snd_cst {d : D} : Snd T cl N (.cst d) := by
  refine Snd.plain (te := cstE d) rfl (fun {m sc ss X e} g h => ?_) (fun {sc e} h => ?_) (fun sc es => by cases es <;> rfl)
  · cases e with
    | Constant c k p =>
      simp only [chk] at h
      unfold cstC at h
      split at h
      · exact PE.imp pe_non fun σ H Q ⟨R, τ, h, P, sr, hr, w, post⟩ => post.non hr w
      · have h := beq_iff_eq.mp h; subst h
        exact PE.imp pe_bl fun σ H Q ⟨R, τ, h, P, sr, hr, w, post⟩ => post.bl hr w
      · have h := of_decide_eq_true h; subst h
        exact PE.imp pe_int fun σ H Q ⟨R, τ, h, P, sr, hr, w, post⟩ => post.int hr w
      · have h := of_decide_eq_true h; subst h
        exact PE.imp pe_str fun σ H Q ⟨R, τ, h, P, sr, hr, w, post⟩ => post.str hr w
      · cases h
    | _ => simp [chk] at h
  · cases e <;> first | rfl | (simp [chk] at h)
theorem snd_glob {i : Nat} : Snd T cl N (.glob i) := by
  refine Snd.plain (te := globE T.gl i) rfl (fun {m sc ss X e} g h => ?_) (fun {sc e} h => ?_) (fun sc es => by cases es <;> rfl)
  · cases e with
    | Name x p =>
      simp only [chk, Bool.and_eq_true, Bool.not_eq_true', decide_eq_true_eq, glC] at h
      obtain ⟨⟨h1, h2⟩, h3⟩ := h
      cases q : T.gl[i]? with
      | none => rw [q] at h3; cases h3
      | some pr =>
        obtain ⟨y, d⟩ := pr
        rw [q] at h3
        have e : y = x := by simpa using h3
        subst e
        obtain ⟨u, v, a, b, c⟩ := g.gl y d (List.mem_of_getElem? q)
        refine PE.imp (pe_glob (v := v) (by unfold Gl Env.kindOf; rw [g.hsc]; exact h1) a b h2) fun σ H Q ⟨R, τ, h, P, sr, hr, w, post⟩ => ?_
        have w : (match T.gl[i]? with | some (_, d) => P d h | none => False) := w
        rw [q] at w
        exact post.here hr (.of (c H R h.length)) w
    | _ => simp [chk] at h
  · cases e <;> first | rfl | (simp [chk] at h)
theorem snd_tup {as : CE} (ih : Snd T cl N as) : Snd T cl N (.tup as) := by
  refine Snd.plain (te := tupE (wp cl T.gl as).a) rfl (fun {m sc ss X e} g h => ?_) (fun {sc e} h => ?_) (fun sc es => by cases es <;> rfl)
  · cases e with
    | Tuple es k p =>
      obtain ⟨ha, hs⟩ := ih.a g (show chkA T N as sc es = true from by simpa [chk] using h)
      refine PE.imp (pe_tup (args_ok hs ha)) fun σ H Q ⟨R, τ, h, P, sr, hr, w, post⟩ => ?_
      refine ⟨R, τ, h, _, sr, hr, w, fun R1 h1 H1 ds vs E1 hr1 rs w1 => ⟨by rw [← R0s_len rs]; exact w1.1, fun p hp => (post.on E1).tup hr1 hp rs w1.2⟩⟩
    | _ => simp [chk] at h
  · cases e <;> first | rfl | (simp [chk] at h)
theorem snd_lst {as : CE} (ih : Snd T cl N as) : Snd T cl N (.lst as) := by
  refine Snd.plain (te := lstE (wp cl T.gl as).a) rfl (fun {m sc ss X e} g h => ?_) (fun {sc e} h => ?_) (fun sc es => by cases es <;> rfl)
  · cases e with
    | List es p =>
      obtain ⟨ha, hs⟩ := ih.a g (show chkA T N as sc es = true from by simpa [chk] using h)
      refine PE.imp (pe_lst (args_ok hs ha)) fun σ H Q ⟨R, τ, h, P, sr, hr, w, post⟩ => ?_
      refine ⟨R, τ, h, _, sr, hr, w, fun R1 h1 H1 ds vs E1 hr1 rs w1 => ⟨by rw [← R0s_len rs]; exact w1.1, fun p hp => (post.on E1).tl hr1 hp rs w1.2⟩⟩
    | _ => simp [chk] at h
  · cases e <;> first | rfl | (simp [chk] at h)
theorem snd_call {f : Nat} {as : CE} (ih : Snd T cl N as) : Snd T cl N (.call f as) := by
  refine Snd.plain (te := callE cl f (wp cl T.gl as).a) rfl (fun {m sc ss X e} g h => ?_) (fun {sc e} h => ?_) (fun sc es => by cases es <;> rfl)
  · cases e with
    | Call fn es kw p =>
      cases fn with
      | Name x q =>
        cases kw with
        | nil =>
          simp only [chk, Bool.and_eq_true, Bool.not_eq_true', decide_eq_true_eq, glC] at h
          obtain ⟨⟨⟨h1, h2⟩, h3⟩, h4⟩ := h
          obtain ⟨ha, hs⟩ := ih.a g h4
          obtain ⟨fa, fd, ps, k, F, hr, hm, hk, hb⟩ := g.fn f x h1
          have hg : Gl X x := by unfold Gl Env.kindOf; rw [g.hsc]; exact h2
          have fin : ∀ σ H Q, lift X.K (callE cl f (wp cl T.gl as).a) σ H Q → tCall (spD X.K cl f) [] E0 (liftA X.K ((wp cl T.gl as).a true)) σ H Q := by
            intro σ H Q ⟨R, τ, h, P, sr, hr, w, post⟩
            refine ⟨R, τ, h, _, sr, hr, w, fun R1 h1 H1 ds vs E1 hr1 rs w1 => ?_⟩
            show spD X.K cl f (vs ++ []) H1 Q E0
            rw [List.append_nil]
            exact ⟨R1, h1, ds, P, rs, hr1, w1, post.on E1⟩
          cases es with
          | nil =>
            have e0 := ha.nil
            subst e0
            refine PE.imp (pe_call0 F hr hg hm hk hb .nil pass0 h3) fun σ H Q w => ?_
            obtain ⟨R, τ, h, P, sr, hr, w, post⟩ := w
            exact ⟨R, h, [], P, by simp [R0s], hr, w, post⟩
          | cons e1 es =>
            have hs' := hs
            rw [List.all_cons, Bool.and_eq_true] at hs'
            exact PE.imp (pe_call F hr hg hm hk hb .nil pass0 (args_ok hs ha) h3 (star_cons hs'.1) (star_any hs'.2)) fin
        | cons _ _ => simp [chk] at h
      | _ => simp [chk] at h
    | _ => simp [chk] at h
  · cases e <;> first | rfl | (simp [chk] at h)
theorem snd_meth {k : MP} {o as : CE} (ho : Snd T cl N o) (ih : Snd T cl N as) : Snd T cl N (.meth k o as) := by
  have inv : ∀ {m : Bool} {sc : Scope} {e : Expr}, chk T N (.meth k o as) m sc e = true → ∃ r es, methArgs T sc k e = some (r, es) ∧ chk T N o false sc r = true ∧ chkA T N as sc es = true := by
    intro m sc e h
    have h : (match methArgs T sc k e with | some (r, es) => chk T N o false sc r && chkA T N as sc es | none => false) = true := by cases e <;> exact h
    split at h
    · rename_i r es q
      rw [Bool.and_eq_true] at h
      exact ⟨r, es, q, h.1, h.2⟩
    · cases h
  refine Snd.plain (te := methE k (wp cl T.gl o).e (wp cl T.gl as).a) rfl (fun {m sc ss X e} g h => ?_) (fun {sc e} h => ?_) (fun sc es => by cases es <;> rfl)
  · obtain ⟨r, es, q, h1, h2⟩ := inv h
    obtain ⟨ha, hs⟩ := ih.a g h2
    cases k with
    | append =>
      have q : (meth1 "append" e).bind hd2 = some (r, es) := q
      cases z : meth1 "append" e with
      | none => rw [z] at q; cases q
      | some l =>
        rw [z] at q
        obtain ⟨o', a', apos, pos, rfl, rfl, z1, z2, z3⟩ := meth1_inv z
        cases q
        exact s_append z1 z2 z3 (ho.e g h1) ha
  · obtain ⟨r, es, q, h1, h2⟩ := inv h
    cases k with
    | append =>
      have q : (meth1 "append" e).bind hd2 = some (r, es) := q
      cases z : meth1 "append" e with
      | none => rw [z] at q; cases q
      | some l =>
        obtain ⟨o', a', apos, pos, rfl, rfl, z1, z2, z3⟩ := meth1_inv z
        rfl
end
end Py

namespace Py
open PySem PySem.Spec PyProof.Rows L2
section
variable {T : Tab} {cl : CallD} {N : List Str}
theorem primArgs_bool {sc : Scope} {p : Prim} {o : BoolOp} {vs : List Expr} {pos : Pos} : primArgs T sc p (.BoolOp o vs pos) = none := by
  cases p <;> rfl
theorem snd_prim {p : Prim} {as : CE} (ih : Snd T cl N as) : Snd T cl N (.prim p as) := by
  have inv : ∀ {m : Bool} {sc : Scope} {e : Expr}, chk T N (.prim p as) m sc e = true → ∃ es, primArgs T sc p e = some es ∧ chkA T N as sc es = true ∧ (m = true → plainTest e = true ∨ isCmp p = true) := by
    intro m sc e h
    have h : ((match primArgs T sc p e with | some es => chkA T N as sc es | none => false) && (!m || plainTest e || isCmp p)) = true := by cases e <;> exact h
    rw [Bool.and_eq_true] at h
    obtain ⟨h, h2⟩ := h
    split at h
    · rename_i es q
      refine ⟨es, q, h, fun hm => ?_⟩
      subst hm
      simpa using h2
    · cases h
  have he : ∀ {m : Bool} {sc ss : Scope} {X : Cx} {e : Expr}, Good T cl N sc ss X → chk T N (.prim p as) m sc e = true → PE X e (lift X.K (wp cl T.gl (.prim p as)).e) := by
    intro m sc ss X e g h
    obtain ⟨es, q, h1, _⟩ := inv h
    exact prim_ok g q (ih.a g h1).1
  refine ⟨fun g h => he g h, fun {sc ss X e} g h => ?_, fun g h => i_of_e (he g h), fun {sc ss X es} g h => by cases es <;> cases h⟩
  obtain ⟨es, q, h1, h2⟩ := inv h
  refine ⟨?_, fun z => ?_⟩
  · rcases h2 rfl with h2 | h2
    · exact t_of_e (he g h) h2
    · obtain ⟨ha, _⟩ := ih.a g h1
      have cmp : ∀ {op : CmpOp} {r : R2} {f : D → D → Hd → (Bool → Hd → Prop) → Prop}, cmpA op e = some es → OpR X (compareOp op) r → Sim2 X.K r (fun x y h Q => f x y h (bo Q)) → (∀ x y h Q, wpP p [x, y] h Q = f x y h (bo Q)) → PT X e (liftT X.K (wp cl T.gl (.prim p as)).t) := by
        intro op r f k1 k2 k3 k4
        clear h2
        obtain ⟨l, r', pos, rfl, rfl, hn⟩ := cmpA_inv k1
        obtain ⟨a1, b1, rfl, ha1, hb1⟩ := ha.two
        have z := s_cmpT (ta := (wp cl T.gl a1).e) (tb := (wp cl T.gl b1).e) k2 k3 hn ha1 hb1 (pos := pos)
        have e : (fun (τ : Sd) (h : Hd) (Q : PD) => (wp cl T.gl a1).e τ h fun x h1 => (wp cl T.gl b1).e τ h1 fun y h2 => f x y h2 (bo Q)) = (wp cl T.gl (.prim p (.acons a1 (.acons b1 .anil)))).e := by
          funext τ h Q
          show _ = (wp cl T.gl a1).e τ h fun x h1 => (wp cl T.gl b1).e τ h1 fun y h2 => wpP p [x, y] h2 Q
          congr 1
          funext x h1
          congr 1
          funext y h2
          rw [k4]
        rw [e] at z
        exact z
      cases p <;> first | (cases h2; done) | skip
      · exact cmp (f := eqW) q (op_eq.or (op_eqD g.hu)) sim_eq (fun _ _ _ _ => rfl)
      · exact cmp (f := fun x y h K => eqW x y h fun b h => K (!b) h) q (op_ne.or (op_neD g.hu)) sim_ne (fun _ _ _ _ => rfl)
      · exact cmp (f := ordW fun i j => decide (i < j)) q op_lt sim_ord (fun _ _ _ _ => rfl)
      · exact cmp (f := ordW fun i j => decide (i ≤ j)) q op_le sim_ord (fun _ _ _ _ => rfl)
      · exact cmp (f := ordW fun i j => decide (j < i)) q op_gt sim_ord (fun _ _ _ _ => rfl)
      · exact cmp (f := ordW fun i j => decide (j ≤ i)) q op_ge sim_ord (fun _ _ _ _ => rfl)
      · exact cmp (f := isW) q ok_is sim_is (fun _ _ _ _ => rfl)
      · exact cmp (f := fun x y h K => isW x y h fun b h => K (!b) h) q ok_isnot sim_isnot (fun _ _ _ _ => rfl)
      · exact cmp (f := inW) q op_in_seq sim_in (fun _ _ _ _ => rfl)
      · exact cmp (f := fun x y h K => inW x y h fun b h => K (!b) h) q op_notIn_seq sim_notin (fun _ _ _ _ => rfl)
  · cases e <;> first | (cases z; done) | skip
    rw [primArgs_bool] at q
    cases q
theorem snd_ife {t a b : CE} (ht : Snd T cl N t) (ha : Snd T cl N a) (hb : Snd T cl N b) : Snd T cl N (.ife t a b) := by
  have he : ∀ {m : Bool} {sc ss : Scope} {X : Cx} {e : Expr}, Good T cl N sc ss X → chk T N (.ife t a b) m sc e = true → PE X e (lift X.K (wp cl T.gl (.ife t a b)).e) := by
    intro m sc ss X e g h
    cases e with
    | IfExp t' a' b' p =>
      simp only [chk, Bool.and_eq_true] at h
      obtain ⟨⟨⟨_, h1⟩, h2⟩, h3⟩ := h
      refine PE.imp (pe_ifExp (ht.t g h1).1 (ha.e g h2) (hb.e g h3)) fun σ H Q ⟨R, τ, h, P, sr, hr, w, post⟩ => ?_
      refine ⟨R, τ, h, _, sr, hr, w, fun R1 h1 H1 k E1 hr1 w1 => ?_⟩
      cases k with
      | true => rw [if_pos rfl] at w1; exact iteT ⟨R1, τ, h1, P, E1.srel sr, hr1, w1, post.on E1⟩
      | false => rw [if_neg Bool.false_ne_true] at w1; exact iteF ⟨R1, τ, h1, P, E1.srel sr, hr1, w1, post.on E1⟩
    | _ => simp [chk] at h
  refine ⟨fun g h => he g h, fun {sc ss X e} g h => ?_, fun g h => i_of_e (he g h), fun {sc ss X es} g h => by cases es <;> cases h⟩
  cases e <;> simp [chk] at h
theorem snd_not {a : CE} (ha : Snd T cl N a) : Snd T cl N (.not_ a) := by
  have he : ∀ {m : Bool} {sc ss : Scope} {X : Cx} {e : Expr}, Good T cl N sc ss X → chk T N (.not_ a) m sc e = true → PE X e (lift X.K (wp cl T.gl (.not_ a)).e) := by
    intro m sc ss X e g h
    cases e with
    | UnaryOp op x p =>
      cases op <;> first | (simp [chk] at h; done) | skip
      have h1 : chk T N a m sc x = true := h
      refine PE.imp (pe_not (ha.e g h1)) fun σ H Q ⟨R, τ, h, P, sr, hr, w, post⟩ => ?_
      refine ⟨R, τ, h, _, sr, hr, w, fun R1 h1 H1 d v E1 hr1 rd w1 => ?_⟩
      obtain ⟨k, rfl, w1⟩ := w1
      cases rd.blE
      exact ⟨k, rfl, (post.on E1).bl hr1 w1⟩
    | _ => simp [chk] at h
  refine ⟨fun g h => he g h, fun {sc ss X e} g h => ?_, fun g h => i_of_e (he g h), fun {sc ss X es} g h => by cases es <;> cases h⟩
  cases e with
  | UnaryOp op x p =>
    cases op <;> first | (simp [chk] at h; done) | skip
    have h1 : chk T N a true sc x = true := h
    refine ⟨PT.imp (pt_not (ha.t g h1).1) fun σ H Q ⟨R, τ, h, P, sr, hr, w, post⟩ => ?_, fun z => by cases z⟩
    exact ⟨R, τ, h, _, sr, hr, w, fun R1 h1 H1 k E1 hr1 w1 => post R1 h1 H1 _ E1 hr1 w1⟩
  | _ => simp [chk] at h
theorem snd_and {a b : CE} (ha : Snd T cl N a) (hb : Snd T cl N b) : Snd T cl N (.and_ a b) := by
  have inv : ∀ {m : Bool} {sc : Scope} {e : Expr}, chk T N (.and_ a b) m sc e = true → ∃ x y rest pos, e = .BoolOp .And (x :: y :: rest) pos ∧ chk T N a m sc x = true ∧ ((rest = [] ∧ chk T N b m sc y = true) ∨ (∃ z r, rest = z :: r ∧ chk T N b m sc (.BoolOp .And (y :: z :: r) pos) = true)) := by
    intro m sc e h
    cases e with
    | BoolOp op vs pos =>
      cases op <;> first | (simp [chk] at h; done) | skip
      match vs, h with
      | [], h => simp [chk] at h
      | [_], h => simp [chk] at h
      | [x, y], h =>
        simp only [chk, Bool.and_eq_true] at h
        exact ⟨x, y, [], pos, rfl, h.1, .inl ⟨rfl, h.2⟩⟩
      | x :: y :: z :: r, h =>
        simp only [chk, Bool.and_eq_true] at h
        exact ⟨x, y, z :: r, pos, rfl, h.1, .inr ⟨z, r, rfl, h.2⟩⟩
    | _ => simp [chk] at h
  have he : ∀ {m : Bool} {sc ss : Scope} {X : Cx} {e : Expr}, Good T cl N sc ss X → chk T N (.and_ a b) m sc e = true → PE X e (lift X.K (wp cl T.gl (.and_ a b)).e) := by
    intro m sc ss X e g h
    obtain ⟨x, y, rest, pos, rfl, h1, h2⟩ := inv h
    have hB : PE X (.BoolOp .And (y :: rest) pos) (lift X.K (wp cl T.gl b).e) := by
      rcases h2 with ⟨rfl, h2⟩ | ⟨z, r, rfl, h2⟩
      · exact pe_one (hb.e g h2)
      · exact hb.e g h2
    refine PE.imp (pe_and (ha.e g h1) hB) fun σ H Q ⟨R, τ, h, P, sr, hr, w, post⟩ => ?_
    refine ⟨R, τ, h, _, sr, hr, w, fun R1 h1 H1 d v E1 hr1 rd w1 => ?_⟩
    obtain ⟨k, rfl, w1⟩ := w1
    cases rd.blE
    refine ⟨k, rfl, ?_⟩
    cases k with
    | true => rw [if_pos rfl] at w1; exact iteT ⟨R1, τ, h1, P, E1.srel sr, hr1, w1, post.on E1⟩
    | false => rw [if_neg Bool.false_ne_true] at w1; exact iteF ((post.on E1).bl hr1 w1)
  refine ⟨fun g h => he g h, fun {sc ss X e} g h => ?_, fun g h => i_of_e (he g h), fun {sc ss X es} g h => by cases es <;> cases h⟩
  obtain ⟨x, y, rest, pos, rfl, h1, h2⟩ := inv h
  have hB : PW X (.BoolOp .And (y :: rest) pos) (liftT X.K (wp cl T.gl b).t) := by
    rcases h2 with ⟨rfl, h2⟩ | ⟨z, r, rfl, h2⟩
    · exact pw_and1 (hb.t g h2).1
    · exact (hb.t g h2).2 rfl
  have hW : PW X (.BoolOp .And (x :: y :: rest) pos) (liftT X.K (wp cl T.gl (.and_ a b)).t) := ⟨fun wh pins s σ H Q I ⟨R, τ, h, P, sr, hr, w, post⟩ => (pw_and (ha.t g h1).1 hB).run wh pins s σ H Q I
    ⟨R, τ, h, _, sr, hr, w, fun R1 h1 H1 k E1 hr1 w1 => by
      cases k with
      | true => rw [if_pos rfl] at w1; exact iteT ⟨R1, τ, h1, P, E1.srel sr, hr1, w1, fun R2 h2 H2 k2 E2 hr2 w2 => post R2 h2 H2 k2 (E1.trans E2) hr2 w2⟩
      | false => rw [if_neg Bool.false_ne_true] at w1; exact iteF (post R1 h1 H1 false E1 hr1 w1)⟩⟩
  exact ⟨hW.pt, fun _ => hW⟩
theorem snd_or {a b : CE} (ha : Snd T cl N a) (hb : Snd T cl N b) : Snd T cl N (.or_ a b) := by
  have inv : ∀ {m : Bool} {sc : Scope} {e : Expr}, chk T N (.or_ a b) m sc e = true → ∃ x y rest pos, e = .BoolOp .Or (x :: y :: rest) pos ∧ chk T N a m sc x = true ∧ ((rest = [] ∧ chk T N b m sc y = true) ∨ (∃ z r, rest = z :: r ∧ chk T N b m sc (.BoolOp .Or (y :: z :: r) pos) = true)) := by
    intro m sc e h
    cases e with
    | BoolOp op vs pos =>
      cases op <;> first | (simp [chk] at h; done) | skip
      match vs, h with
      | [], h => simp [chk] at h
      | [_], h => simp [chk] at h
      | [x, y], h =>
        simp only [chk, Bool.and_eq_true] at h
        exact ⟨x, y, [], pos, rfl, h.1, .inl ⟨rfl, h.2⟩⟩
      | x :: y :: z :: r, h =>
        simp only [chk, Bool.and_eq_true] at h
        exact ⟨x, y, z :: r, pos, rfl, h.1, .inr ⟨z, r, rfl, h.2⟩⟩
    | _ => simp [chk] at h
  have he : ∀ {m : Bool} {sc ss : Scope} {X : Cx} {e : Expr}, Good T cl N sc ss X → chk T N (.or_ a b) m sc e = true → PE X e (lift X.K (wp cl T.gl (.or_ a b)).e) := by
    intro m sc ss X e g h
    obtain ⟨x, y, rest, pos, rfl, h1, h2⟩ := inv h
    have hB : PE X (.BoolOp .Or (y :: rest) pos) (lift X.K (wp cl T.gl b).e) := by
      rcases h2 with ⟨rfl, h2⟩ | ⟨z, r, rfl, h2⟩
      · exact pe_one (hb.e g h2)
      · exact hb.e g h2
    refine PE.imp (pe_or (ha.e g h1) hB) fun σ H Q ⟨R, τ, h, P, sr, hr, w, post⟩ => ?_
    refine ⟨R, τ, h, _, sr, hr, w, fun R1 h1 H1 d v E1 hr1 rd w1 => ?_⟩
    obtain ⟨k, rfl, w1⟩ := w1
    cases rd.blE
    refine ⟨k, rfl, ?_⟩
    cases k with
    | false => rw [if_neg Bool.false_ne_true] at w1; exact iteF ⟨R1, τ, h1, P, E1.srel sr, hr1, w1, post.on E1⟩
    | true => rw [if_pos rfl] at w1; exact iteT ((post.on E1).bl hr1 w1)
  refine ⟨fun g h => he g h, fun {sc ss X e} g h => ?_, fun g h => i_of_e (he g h), fun {sc ss X es} g h => by cases es <;> cases h⟩
  obtain ⟨x, y, rest, pos, rfl, h1, h2⟩ := inv h
  have hB : PW X (.BoolOp .Or (y :: rest) pos) (liftT X.K (wp cl T.gl b).t) := by
    rcases h2 with ⟨rfl, h2⟩ | ⟨z, r, rfl, h2⟩
    · exact pw_or1 (hb.t g h2).1
    · exact (hb.t g h2).2 rfl
  have hW : PW X (.BoolOp .Or (x :: y :: rest) pos) (liftT X.K (wp cl T.gl (.or_ a b)).t) := ⟨fun wh pins s σ H Q I ⟨R, τ, h, P, sr, hr, w, post⟩ => (pw_or (ha.t g h1).1 hB).run wh pins s σ H Q I
    ⟨R, τ, h, _, sr, hr, w, fun R1 h1 H1 k E1 hr1 w1 => by
      cases k with
      | false => rw [if_neg Bool.false_ne_true] at w1; exact iteF ⟨R1, τ, h1, P, E1.srel sr, hr1, w1, fun R2 h2 H2 k2 E2 hr2 w2 => post R2 h2 H2 k2 (E1.trans E2) hr2 w2⟩
      | true => rw [if_pos rfl] at w1; exact iteT (post R1 h1 H1 true E1 hr1 w1)⟩⟩
  exact ⟨hW.pt, fun _ => hW⟩
theorem snd_chain {p q : Prim} {a b c : CE} (ha : Snd T cl N a) (hb : Snd T cl N b) (hc : Snd T cl N c) : Snd T cl N (.chain p q a b c) := by
  have inv : ∀ {m : Bool} {sc : Scope} {e : Expr}, chk T N (.chain p q a b c) m sc e = true → ∃ x y z o1 o2 f k pos, e = .Compare x [o1, o2] [y, z] pos ∧ ordOp p = some (o1, f) ∧ ordOp q = some (o2, k) ∧ chk T N a false sc x = true ∧ chk T N b false sc y = true ∧ chk T N c false sc z = true := by
    intro m sc e h
    cases e with
    | Compare x ops es pos =>
      match ops, es, h with
      | [o1, o2], [y, z], h =>
        simp only [chk, Bool.and_eq_true] at h
        obtain ⟨⟨⟨h2, h3⟩, h4⟩, h5⟩ := h
        split at h2
        · rename_i p1 f q1 k e1 e2
          simp only [Bool.and_eq_true, decide_eq_true_eq] at h2
          obtain ⟨rfl, rfl⟩ := h2
          exact ⟨x, y, z, _, _, f, k, pos, rfl, e1, e2, h3, h4, h5⟩
        · cases h2
      | [], _, h => simp [chk] at h
      | [_], _, h => simp [chk] at h
      | _ :: _ :: _ :: _, _, h => simp [chk] at h
      | [_, _], [], h => simp [chk] at h
      | [_, _], [_], h => simp [chk] at h
      | [_, _], _ :: _ :: _ :: _, h => simp [chk] at h
    | _ => simp [chk] at h
  have he : ∀ {m : Bool} {sc ss : Scope} {X : Cx} {e : Expr}, Good T cl N sc ss X → chk T N (.chain p q a b c) m sc e = true → PE X e (lift X.K (wp cl T.gl (.chain p q a b c)).e) := by
    intro m sc ss X e g h
    obtain ⟨x, y, z, o1, o2, f, k, pos, rfl, e1, e2, h1, h2, h3⟩ := inv h
    obtain ⟨r1, w1, n1, n2⟩ := ordOp_ok (X := X) e1
    obtain ⟨r2, w2, n3, n4⟩ := ordOp_ok (X := X) e2
    exact PE.imp (pe_chain r1 r2 (ha.e g h1) (hb.e g h2) (hc.e g h3) (lastMarks2 n3 n4)) fun σ H Q w => chain_sim w1 w2 σ H Q w
  refine ⟨fun g h => he g h, fun {sc ss X e} g h => ?_, fun g h => i_of_e (he g h), fun {sc ss X es} g h => by cases es <;> cases h⟩
  obtain ⟨x, y, z, o1, o2, f, k, pos, rfl, e1, e2, h1, h2, h3⟩ := inv h
  obtain ⟨r1, w1, n1, n2⟩ := ordOp_ok (X := X) e1
  obtain ⟨r2, w2, n3, n4⟩ := ordOp_ok (X := X) e2
  refine ⟨PT.imp (pt_chain r1 r2 (ha.e g h1) (hb.e g h2) (hc.e g h3) (lastMarks2 n3 n4)) fun σ H Q ⟨R, τ, h, P, sr, hr, w, post⟩ => ?_, fun z => by cases z⟩
  refine chain_sim (p := p) (q := q) (ta := (wp cl T.gl a).e) (tb := (wp cl T.gl b).e) (tc := (wp cl T.gl c).e) w1 w2 σ H _ ⟨R, τ, h, (fun d h' => match d with | .bl k => P k h' | _ => False), sr, hr, ?_, fun R1 h1 H1 d v E1 hr1 rd w1 => ?_⟩
  · have w : chainE p q (wp cl T.gl a).e (wp cl T.gl b).e (wp cl T.gl c).e τ h (fun d h' => match truth h' d with | some k => P k h' | none => False) := w
    unfold chainE at w ⊢
    simp only [w2] at w ⊢
    exact w
  · cases d with
    | bl k => cases rd.blE; exact ⟨k, rfl, post R1 h1 H1 k E1 hr1 w1⟩
    | _ => exact w1.elim
theorem snd_sl2 {a b c : CE} (ha : Snd T cl N a) (hb : Snd T cl N b) (hc : Snd T cl N c) : Snd T cl N (.sl2 a b c) := by
  have inv : ∀ {m : Bool} {sc : Scope} {e : Expr}, chk T N (.sl2 a b c) m sc e = true → ∃ x y z p pos, e = .Subscript x (.Slice (some y) (some z) none p) pos ∧ chk T N a false sc x = true ∧ chk T N b false sc y = true ∧ chk T N c false sc z = true := by
    intro m sc e h
    cases e with
    | Subscript x i pos =>
      cases i with
      | Slice lo hi st p =>
        match lo, hi, st, h with
        | some y, some z, none, h =>
          simp only [chk, Bool.and_eq_true] at h
          exact ⟨x, y, z, p, pos, rfl, h.1.1, h.1.2, h.2⟩
        | none, _, _, h => simp [chk] at h
        | some _, none, _, h => simp [chk] at h
        | some _, some _, some _, h => simp [chk] at h
      | _ => simp [chk] at h
    | _ => simp [chk] at h
  refine Snd.plain (te := sl2E (wp cl T.gl a).e (wp cl T.gl b).e (wp cl T.gl c).e) rfl (fun {m sc ss X e} g h => ?_) (fun {sc e} h => ?_) (fun sc es => by cases es <;> rfl)
  · obtain ⟨x, y, z, p, pos, rfl, h1, h2, h3⟩ := inv h
    exact s_sl2 (ha.e g h1) (hb.e g h2) (hc.e g h3)
  · obtain ⟨x, y, z, p, pos, rfl, _⟩ := inv h
    rfl
theorem snd_nil : Snd T cl N .anil := by
  refine ⟨fun {m sc ss X e} g h => ?_, fun {sc ss X e} g h => ?_, fun {m sc ss X e tg} g h => ?_, fun {sc ss X es} g h => ?_⟩
  · cases e <;> simp [chk] at h
  · cases e <;> simp [chk] at h
  · cases e <;> simp [chk] at h
  · cases es with
    | nil => exact ⟨trivial, rfl⟩
    | cons _ _ => simp [chkA] at h
theorem snd_cons {a r : CE} (ha : Snd T cl N a) (hr : Snd T cl N r) : Snd T cl N (.acons a r) := by
  refine ⟨fun {m sc ss X e} g h => ?_, fun {sc ss X e} g h => ?_, fun {m sc ss X e tg} g h => ?_, fun {sc ss X es} g h => ?_⟩
  · cases e <;> simp [chk] at h
  · cases e <;> simp [chk] at h
  · cases e <;> simp [chk] at h
  · cases es with
    | nil => simp [chkA] at h
    | cons e es =>
      simp only [chkA, Bool.and_eq_true] at h
      obtain ⟨⟨h1, h2⟩, h3⟩ := h
      obtain ⟨h4, h5⟩ := hr.a g h3
      exact ⟨⟨ha.e g h2, h4⟩, by rw [List.all_cons, h1, h5]; rfl⟩
theorem snd_r1 {a : CE} (ha : Snd T cl N a) : Snd T cl N (.r1 a) := by
  have inv : ∀ {m : Bool} {sc : Scope} {e : Expr}, chk T N (.r1 a) m sc e = true → ∃ y p pos, e = .Call (.Name "range" p) [y] [] pos ∧ ("range" : Str) ∈ T.bn ∧ sc.names.lookup ("range" : Str) = some .globalImplicit ∧ noStar y = true ∧ chk T N a false sc y = true := by
    intro m sc e h
    cases e with
    | Call fn es kw pos =>
      cases fn with
      | Name x p =>
        match es, kw, h with
        | [y], [], h =>
          simp only [chk, Bool.and_eq_true, decide_eq_true_eq, glC] at h
          obtain ⟨⟨⟨⟨rfl, h2⟩, h3⟩, h4⟩, h5⟩ := h
          exact ⟨y, p, pos, rfl, h2, h3, h4, h5⟩
        | [], _, h => simp [chk] at h
        | [_], _ :: _, h => simp [chk] at h
        | _ :: _ :: _, _, h => simp [chk] at h
      | _ => simp [chk] at h
    | _ => simp [chk] at h
  refine ⟨fun g h => pe_no, fun {sc ss X e} g h => ?_, fun {m sc ss X e tg} g h => ?_, fun {sc ss X es} g h => by cases es <;> cases h⟩
  · obtain ⟨y, p, pos, rfl, _⟩ := inv h
    exact ⟨t_of_e pe_no rfl, fun z => by cases z⟩
  · obtain ⟨y, p, pos, rfl, h1, h2, h3, h4⟩ := inv h
    refine PI.imp (pi_range1 (by unfold Gl Env.kindOf; rw [g.hsc]; exact h2) (g.bn _ h1) (pa_cons (ha.e g h4) pa_nil (star_cons h3)) (star_cons h3)) fun σ H Z ⟨R, τ, h, P, sr, hr, w, post⟩ => ?_
    refine ⟨R, τ, h, _, sr, hr, w, fun R1 h1 H1 d v E1 hr1 rd w1 => ?_⟩
    cases d with
    | int n =>
      cases rd.intE
      obtain ⟨⟨b1, b2⟩, w1⟩ := w1
      exact ⟨n, rfl, b1, b2, post R1 h1 H1 _ _ E1 hr1 w1 walks_range⟩
    | _ => exact w1.elim
theorem snd_r2 {a b : CE} (ha : Snd T cl N a) (hb : Snd T cl N b) : Snd T cl N (.r2 a b) := by
  have inv : ∀ {m : Bool} {sc : Scope} {e : Expr}, chk T N (.r2 a b) m sc e = true → ∃ y z p pos, e = .Call (.Name "range" p) [y, z] [] pos ∧ ("range" : Str) ∈ T.bn ∧ sc.names.lookup ("range" : Str) = some .globalImplicit ∧ noStar y = true ∧ noStar z = true ∧ chk T N a false sc y = true ∧ chk T N b false sc z = true := by
    intro m sc e h
    cases e with
    | Call fn es kw pos =>
      cases fn with
      | Name x p =>
        match es, kw, h with
        | [y, z], [], h =>
          simp only [chk, Bool.and_eq_true, decide_eq_true_eq, glC] at h
          obtain ⟨⟨⟨⟨⟨⟨rfl, h2⟩, h3⟩, h4⟩, h5⟩, h6⟩, h7⟩ := h
          exact ⟨y, z, p, pos, rfl, h2, h3, h4, h5, h6, h7⟩
        | [], _, h => simp [chk] at h
        | [_], _, h => simp [chk] at h
        | [_, _], _ :: _, h => simp [chk] at h
        | _ :: _ :: _ :: _, _, h => simp [chk] at h
      | _ => simp [chk] at h
    | _ => simp [chk] at h
  refine ⟨fun g h => pe_no, fun {sc ss X e} g h => ?_, fun {m sc ss X e tg} g h => ?_, fun {sc ss X es} g h => by cases es <;> cases h⟩
  · obtain ⟨y, z, p, pos, rfl, _⟩ := inv h
    exact ⟨t_of_e pe_no rfl, fun z => by cases z⟩
  · obtain ⟨y, z, p, pos, rfl, h1, h2, h3, h4, h5, h6⟩ := inv h
    refine PI.imp (pi_range2 (by unfold Gl Env.kindOf; rw [g.hsc]; exact h2) (g.bn _ h1) (pa_cons (ha.e g h5) (pa_cons (hb.e g h6) pa_nil (star_cons h4)) (star_cons h3)) (by rw [star_cons h3, star_cons h4]; rfl) (by rw [star_cons h4]; rfl)) fun σ H Z ⟨R, τ, h, P, sr, hr, w, post⟩ => ?_
    refine ⟨R, τ, h, _, sr, hr, w, fun R1 h1 H1 d v E1 hr1 rd w1 => ⟨R1, τ, h1, _, E1.srel sr, hr1, w1, fun R2 h2 H2 d2 v2 E2 hr2 rd2 w2 => ?_⟩⟩
    cases d with
    | int i =>
      cases d2 with
      | int j =>
        cases rd.intE
        cases rd2.intE
        obtain ⟨b1, w2⟩ := w2
        exact ⟨i, j, rfl, b1, post R2 h2 H2 _ _ (E1.trans E2) hr2 w2 walks_range⟩
      | _ => exact w2.elim
    | _ => exact w2.elim
def condT (cl : CallD) (gl : List (Str × D)) : Option Unit → CE → TTd
  | none, _ => yesT
  | some _, c => (wp cl gl c).t
theorem compInv {p : Pat} {it : CE} {cd : Option Unit} {c elt : CE} {m : Bool} {sc : Scope} {e : Expr} (h : chk T N (.comp p it cd c elt) m sc e = true) : ∃ e' tg iter ifs scope pos, e = .ListComp e' [⟨tg, iter, ifs, 0⟩] scope pos ∧ blkC N sc scope (ownOf N p) = true ∧ noSet iter = true ∧ chk T N it false sc iter = true ∧ chkP N scope p tg = true ∧ chk T N elt false (relS scope sc) e' = true ∧
      ((cd = none ∧ ifs = []) ∨ ∃ u i, cd = some u ∧ ifs = [i] ∧ chk T N c true (relS scope sc) i = true) := by
  cases e with
  | ListComp e' gs scope pos =>
    match gs, h with
    | [⟨tg, iter, ifs, k⟩], h =>
      simp only [chk, Bool.and_eq_true, decide_eq_true_eq] at h
      obtain ⟨⟨⟨⟨⟨⟨rfl, h1⟩, h2⟩, h3⟩, h4⟩, h5⟩, h6⟩ := h
      refine ⟨e', tg, iter, ifs, scope, pos, rfl, h1, h2, h3, h4, h5, ?_⟩
      split at h6
      · exact .inl ⟨rfl, rfl⟩
      · exact .inr ⟨_, _, rfl, rfl, h6⟩
      · cases h6
    | [], h => simp [chk] at h
    | _ :: _ :: _, h => simp [chk] at h
  | _ => simp [chk] at h
theorem own_ix {p : Pat} : (ownOf N p).map (·.2) = p.ix := by unfold ownOf; rw [List.map_map]; exact List.map_id _
theorem comp_tests {cd : Option Unit} {c : CE} {sc ss scope : Scope} {X : Cx} {ifs : List Expr} (g : Good T cl N sc ss X) (hc : Snd T cl N c) (hk : scope.kind = .function) (h6 : (cd = none ∧ ifs = []) ∨ ∃ u i, cd = some u ∧ ifs = [i] ∧ chk T N c true (relS scope sc) i = true)
    (s : Shared) (H : Hp) (C : Addr) (l : List (Str × Addr)) (fp : List Addr) : PTs (X.blk s H scope (compEnvC scope l C X.env) fp) ifs (liftT X.K (condT cl T.gl cd c)) := by
  rcases h6 with ⟨rfl, rfl⟩ | ⟨u, i, rfl, rfl, h6⟩
  · exact ⟨fun pins s σ H Q I ⟨R, τ, h, P, sr, hr, w, post⟩ => pts_nil.run pins s σ H Q I (post R h H true .refl hr w)⟩
  · exact pts_one (hc.t (g.blk hk s H C l fp) h6).1
theorem comp_wp {p : Pat} {it : CE} {cd : Option Unit} {c elt : CE} : wp cl T.gl (.comp p it cd c elt) = mkR (compE (wp cl T.gl it).i p (condT cl T.gl cd c) (wp cl T.gl elt).e) := by cases cd <;> rfl
theorem snd_comp {p : Pat} {it : CE} {cd : Option Unit} {c elt : CE} (hi : Snd T cl N it) (hc : Snd T cl N c) (he0 : Snd T cl N elt) : Snd T cl N (.comp p it cd c elt) := by
  refine Snd.plain comp_wp (fun {m sc ss X e} g h => ?_) (fun {sc e} h => ?_) (fun sc es => by cases es <;> rfl)
  · obtain ⟨e', tg, iter, ifs, scope, pos, rfl, h1, h2, h3, h4, h5, h6⟩ := compInv h
    have ok := blkOk_by h1
    have P := pe_lc (X := X) (own := ownOf N p) (pos := pos) (elt := e') (te := lift X.K (wp cl T.gl elt).e) (g := gOf X.K p) g.calm (by rw [g.hN]; exact g.nd) (hi.i g h3) (by rw [g.hN, g.hsc]; exact ok)
      (fun s H C l fp => pg_of (g.blk ok.kind s H C l fp) h4) (comp_tests g hc ok.kind h6) (fun s H C l fp => he0.e (g.blk ok.kind s H C l fp) h5) (noSet_fold h2)
    rw [own_ix] at P
    exact PE.imp P fun σ H Q w => comp_sim σ H Q w
  · obtain ⟨e', tg, iter, ifs, scope, pos, rfl, _⟩ := compInv h
    rfl
/-- name = [..], stored within the comprehension's frame -/
theorem ss_setLc {i : Nat} {y : Str} {p : Pat} {it : CE} {cd : Option Unit} {c elt : CE} {sc : Scope} {X : Cx} {e : Expr} {py spos : Pos} (hi : Snd T cl N it) (hc : Snd T cl N c) (he0 : Snd T cl N elt) (g : Good T cl N sc sc X) (hy : N[i]? = some y)
    (hyl : sc.names.lookup y = some .local) (hsw : swapsWith e (some (.Name y py)) spos.line X.env = pure true) (h : chk T N (.comp p it cd c elt) false sc e = true) :
    ∃ tE, PS X (.Assign [.Name y py] e spos) (tAsg tE (gName i)) ∧ ∀ σ H Q, lift X.K (wp cl T.gl (.comp p it cd c elt)).e σ H Q → tE σ H Q := by
  obtain ⟨e', tg, iter, ifs, scope, pos, rfl, h1, h2, h3, h4, h5, h6⟩ := compInv h
  have ok := blkOk_by h1
  have P := ps_setLc (X := X) (own := ownOf N p) (pos := pos) (elt := e') (te := lift X.K (wp cl T.gl elt).e) (g := gOf X.K p) g.calm (by rw [g.hN]; exact g.nd) (by rw [g.hN]; exact hy) (by rw [g.hsc]; exact hyl) hsw (hi.i g h3) (by rw [g.hN, g.hsc]; exact ok)
    (fun s H C l fp => pg_of (g.blk ok.kind s H C l fp) h4) (comp_tests g hc ok.kind h6) (fun s H C l fp => he0.e (g.blk ok.kind s H C l fp) h5) (noSet_fold h2)
  rw [own_ix] at P
  exact ⟨_, P, fun σ H Q w => by rw [comp_wp] at w; exact comp_sim σ H Q w⟩
theorem snd (T : Tab) (cl : CallD) (N : List Str) : ∀ c : CE, Snd T cl N c
  | .var _ => snd_var
  | .cst _ => snd_cst
  | .glob _ => snd_glob
  | .anil => snd_nil
  | .acons a r => snd_cons (snd T cl N a) (snd T cl N r)
  | .tup as => snd_tup (snd T cl N as)
  | .lst as => snd_lst (snd T cl N as)
  | .prim _ as => snd_prim (snd T cl N as)
  | .meth _ o as => snd_meth (snd T cl N o) (snd T cl N as)
  | .call _ as => snd_call (snd T cl N as)
  | .ife t a b => snd_ife (snd T cl N t) (snd T cl N a) (snd T cl N b)
  | .and_ a b => snd_and (snd T cl N a) (snd T cl N b)
  | .or_ a b => snd_or (snd T cl N a) (snd T cl N b)
  | .not_ a => snd_not (snd T cl N a)
  | .chain _ _ a b c => snd_chain (snd T cl N a) (snd T cl N b) (snd T cl N c)
  | .sl2 a b c => snd_sl2 (snd T cl N a) (snd T cl N b) (snd T cl N c)
  | .r1 a => snd_r1 (snd T cl N a)
  | .r2 a b => snd_r2 (snd T cl N a) (snd T cl N b)
  | .comp _ it _ c elt => snd_comp (snd T cl N it) (snd T cl N c) (snd T cl N elt)
end
end Py

namespace Py
open PySem PySem.Spec PyProof.Rows L2

/-! ### statements -/
inductive CS where
  | nil | seq (s r : CS) | pass | brk | cont | expr (e : CE) | asg (p : Pat) (e : CE) | asgs (is : List Nat) (as : CE) | setIdx (o i e : CE) | aug (i : Nat) (p : Prim) (e : CE)
  | ret (e : CE) | retN | ite (t : CE) (a b : CS) | whil (t : CE) (b : CS) | forr (p : Pat) (it : CE) (b : CS)
/-- x op= y by values -/
def augW (p : Prim) (x y : D) (h : Hd) (Q : PD) : Prop := match p, x, y with
  | .add, .int i, .int j => Q (.int (i + j)) h
  | .sub, .int i, .int j => Q (.int (i - j)) h
  | .mul, .int i, .int j => CMul i j ∧ Q (.int (i * j)) h
  | .add, .loc a, y => match h[a]?, mutOf h y with
    | some (.lst xs), some ys => xs.length + ys.length ≤ sizeLine ∧ Q (.loc a) (h.set a (.lst (xs ++ ys)))
    | _, _ => False
  | _, _, _ => False
def forW (ok : Hd → Prop) (p : Pat) (body : TSd) (Z : Endd) : List D → Sd → Hd → Prop
  | [], τ, h => ok h ∧ Z.nx τ h
  | x :: xs, τ, h => ok h ∧ bindW p x τ fun τ' => body { Z with nx := forW ok p body Z xs, ct := forW ok p body Z xs, bk := Z.nx } τ' h
def whileW (t : TTd) (body : TSd) : TSd := fun Z τ h => ∃ W : Nat → Sd → Hd → Prop, (∃ m, W m τ h) ∧ ∀ m τ h, W m τ h →
  t τ h fun k h1 => if k = true then body { Z with nx := fun τ' h' => ∃ m', m' < m ∧ W m' τ' h', ct := fun τ' h' => ∃ m', m' < m ∧ W m' τ' h', bk := Z.nx } τ h1 else Z.nx τ h1
def asgS (p : Pat) (e : TEd) : TSd := fun Z τ h => e τ h fun d h1 => mat d h1 fun d' h2 => bindW p d' τ fun τ' => Z.nx τ' h2
def asgsS (is : List Nat) (as : Bool → TAd) : TSd := fun Z τ h => as true τ h fun ds h1 => (ds.length = is.length ∧ ds.length ≤ sizeLine) ∧ Z.nx (setAll τ is ds) h1
def setIdxS (o i e : TEd) : TSd := fun Z τ h => e τ h fun d h1 => mat d h1 fun d' h2 => o τ h2 fun x h3 => i τ h3 fun y h4 => setIdxW x y d' h4 fun h5 => Z.nx τ h5
def augS (i : Nat) (p : Prim) (e : TEd) : TSd := fun Z τ h => match τ[i]? with
  | some (some x) => e τ h fun y h1 => augW p x y h1 fun z h2 => Z.nx (τ.set i (some z)) h2
  | _ => False
def iteS (t : TTd) (a b : TSd) : TSd := fun Z τ h => t τ h fun k h1 => if k = true then a Z τ h1 else b Z τ h1
def forS (p : Pat) (it : TId) (body : TSd) : TSd := fun Z τ h => it τ h fun w h1 => forW w.ok p body Z w.xs τ h1
def wpS (cl : CallD) (gl : List (Str × D)) : CS → TSd
  | .nil => fun Z τ h => Z.nx τ h
  | .seq s r => fun Z τ h => wpS cl gl s { Z with nx := wpS cl gl r Z } τ h
  | .pass => fun Z τ h => Z.nx τ h
  | .brk => fun Z τ h => Z.bk τ h
  | .cont => fun Z τ h => Z.ct τ h
  | .expr e => fun Z τ h => (wp cl gl e).e τ h fun _ h1 => Z.nx τ h1
  | .asg p e => asgS p (wp cl gl e).e
  | .asgs is as => asgsS is (wp cl gl as).a
  | .setIdx o i e => setIdxS (wp cl gl o).e (wp cl gl i).e (wp cl gl e).e
  | .aug i p e => augS i p (wp cl gl e).e
  | .ret e => fun Z τ h => (wp cl gl e).e τ h Z.rt
  | .retN => fun Z _ h => Z.rt .non h
  | .ite t a b => iteS (wp cl gl t).t (wpS cl gl a) (wpS cl gl b)
  | .whil t b => whileW (wp cl gl t).t (wpS cl gl b)
  | .forr p it b => forS p (wp cl gl it).i (wpS cl gl b)

/-! ### the syntax of statements -/
def isComp : Expr → Bool
  | .ListComp _ _ _ _ => true
  | .SetComp _ _ _ _ => true
  | .DictComp _ _ _ _ _ => true
  | _ => false
/-- y = e is stored within the comprehension's frame -/
def swB (sc : Scope) (y : Str) (py : Pos) : Expr → Bool
  | .ListComp _ _ s pos => decide (sc.names.lookup y = some .local) && (py.line == pos.line) && !(s.names.any fun (n, k) => n == y && (k == .local || k == .cell))
  | _ => false
theorem noComp_sw {e : Expr} {t : Option Expr} {l : Nat} {env : Env} (h : isComp e = false) : swapsWith e t l env = pure false := by
  unfold swapsWith
  cases e <;> first | rfl | cases h
theorem noName_sw {e t : Expr} {l : Nat} {env : Env} (h : isName t = none) : swapsWith e (some t) l env = pure false := by
  unfold swapsWith
  cases t <;> first | cases h | skip
  all_goals (cases e <;> rfl)
theorem swB_ok {e : Expr} {y : Str} {py : Pos} {l : Nat} {env : Env} {sc : Scope} (hs : env.scope = sc) (hk : sc.kind = .function) (hc : isComp e = false ∨ ∃ a b c d, e = .ListComp a b c d) : swapsWith e (some (.Name y py)) l env = pure (swB sc y py e) := by
  rcases hc with hc | ⟨a, b, c, d, rfl⟩
  · rw [noComp_sw hc]
    cases e <;> first | rfl | cases hc
  · have hb : env.blockKind = .function := by unfold Env.blockKind; rw [hs, hk]; rfl
    unfold swapsWith swB Env.kindOf
    simp only [hb, hs, Expr.pos]
    by_cases q : sc.names.lookup y = some .local
    · rw [q]; simp
    · have q' : (sc.names.lookup y == some NameKind.local) = false := by simpa using q
      rw [q']; simp [q]
/-- a tuple of names given a written tuple: stored one by one (true), or as any tuple; none: not served -/
def swS (sc : Scope) (ts vs : List Expr) : Option Bool :=
  if !(ts.length == 2 || ts.length == 3) || vs.length != ts.length then some false
  else if vs.any (fun e => !noStar e) then some false
  else
    let line := (ts.head?.map (·.pos.line)).getD 0
    let names := ts.filterMap fun
      | .Name id pos => if sc.names.lookup id == some .local && pos.line == line then some id else none
      | _ => none
    if names.length != ts.length || names.eraseDups.length != names.length then some false
    else if vs.all (foldedForSure 8) then some false
    else if vs.all (constantsAlone 8) then none
    else some true
end Py

namespace Py
open PySem PySem.Spec PyProof.Rows L2
def swNames (sc : Scope) (ts : List Expr) : List Str := ts.filterMap fun
      | .Name id pos => if sc.names.lookup id == some .local && pos.line == (ts.head?.map (·.pos.line)).getD 0 then some id else none
      | _ => none
theorem swS_ok {sc : Scope} {env : Env} {ts vs : List Expr} {k1 k2 : Nat} {p1 p2 : Pos} (hs : env.scope = sc) (hk : sc.kind = .function) {b : Bool} (h : swS sc ts vs = some b) :
    swappedStores [.Tuple ts k1 p1] (.Tuple vs k2 p2) env = pure (if b = true then some (swNames sc ts) else none) := by
  have hb : env.blockKind = .function := by unfold Env.blockKind; rw [hs, hk]; rfl
  have hst : (vs.any fun e => !noStar e) = (vs.any fun | .Starred .. => true | _ => false) := by
    congr 1
    funext e
    cases e <;> rfl
  unfold swappedStores
  simp only [hb, hs, Env.kindOf]
  have e0 : (ScopeKind.function != ScopeKind.function) = false := rfl
  rw [e0, Bool.or_false]
  unfold swS at h
  rw [hst] at h
  dsimp only at h
  split at h
  · rename_i q
    cases h
    exact (if_pos q).trans rfl
  · rename_i q
    refine (if_neg q).trans ?_
    split at h
    · rename_i q2
      cases h
      exact (if_pos q2).trans rfl
    · rename_i q2
      refine (if_neg q2).trans ?_
      split at h
      · rename_i q3
        cases h
        exact (if_pos q3).trans rfl
      · rename_i q3
        refine (if_neg q3).trans ?_
        split at h
        · rename_i q4
          cases h
          exact (if_pos q4).trans rfl
        · rename_i q4
          refine (if_neg q4).trans ?_
          split at h
          · cases h
          · rename_i q5
            cases h
            exact (if_neg q5).trans rfl
end Py

namespace Py
open PySem PySem.Spec PyProof.Rows L2

structure SimZ (K : PySem.W.Frag) (R : Nat → Addr) (h : Hd) (H : Hp) (P : Endd) (Z : Ends) : Prop where
  nx : ∀ R' h' H' τ' σ', Ext K R h H R' h' H' → HRel K H' R' h' → SRel K H' R' h'.length τ' σ' → P.nx τ' h' → Z.nx σ' H'
  rt : ∀ R' h' H' d v, Ext K R h H R' h' H' → HRel K H' R' h' → RT K H' R' h'.length H d v → P.rt d h' → Z.rt v H'
  bk : ∀ R' h' H' τ' σ', Ext K R h H R' h' H' → HRel K H' R' h' → SRel K H' R' h'.length τ' σ' → P.bk τ' h' → Z.bk σ' H'
  ct : ∀ R' h' H' τ' σ', Ext K R h H R' h' H' → HRel K H' R' h' → SRel K H' R' h'.length τ' σ' → P.ct τ' h' → Z.ct σ' H'
theorem SimZ.on {K : PySem.W.Frag} {R R1 : Nat → Addr} {h h1 : Hd} {H H1 : Hp} {P : Endd} {Z : Ends} (s : SimZ K R h H P Z) (E : Ext K R h H R1 h1 H1) : SimZ K R1 h1 H1 P Z :=
  ⟨fun R' h' H' τ' σ' e a b c => s.nx R' h' H' τ' σ' (E.trans e) a b c, fun R' h' H' d v e a b c => s.rt R' h' H' d v (E.trans e) a (b.from fun _ => E.none_of) c,
    fun R' h' H' τ' σ' e a b c => s.bk R' h' H' τ' σ' (E.trans e) a b c, fun R' h' H' τ' σ' e a b c => s.ct R' h' H' τ' σ' (E.trans e) a b c⟩
theorem liftS_mk {K : PySem.W.Frag} {t : TSd} {Z : Ends} {σ : L2.St} {H : Hp} {R : Nat → Addr} {τ : Sd} {h : Hd} {P : Endd} (sr : SRel K H R h.length τ σ) (hr : HRel K H R h) (w : t P τ h) (s : SimZ K R h H P Z) : liftS K t Z σ H :=
  ⟨R, τ, h, P, sr, hr, w, s.nx, s.rt, s.bk, s.ct⟩
theorem liftS_el {K : PySem.W.Frag} {t : TSd} {Z : Ends} {σ : L2.St} {H : Hp} (w : liftS K t Z σ H) : ∃ R τ h P, SRel K H R h.length τ σ ∧ HRel K H R h ∧ t P τ h ∧ SimZ K R h H P Z := by
  obtain ⟨R, τ, h, P, a, b, c, d, e, f, g⟩ := w
  exact ⟨R, τ, h, P, a, b, c, d, e, f, g⟩
section
variable {X : Cx}
theorem ss_nil : PSs X [] (liftS X.K fun Z τ h => Z.nx τ h) := PSs.imp pss_nil fun Z σ H w => by
  obtain ⟨R, τ, h, P, sr, hr, w, s⟩ := liftS_el w
  exact s.nx R h H τ σ .refl hr sr w
theorem ss_cons {st : Stmt} {sts : List Stmt} {t u : TSd} (h1 : PS X st (liftS X.K t)) (h2 : PSs X sts (liftS X.K u)) : PSs X (st :: sts) (liftS X.K fun Z τ h => t { Z with nx := u Z } τ h) := PSs.imp (pss_cons h1 h2) fun Z σ H w => by
  obtain ⟨R, τ, h, P, sr, hr, w, s⟩ := liftS_el w
  exact liftS_mk (P := { P with nx := u P }) sr hr w ⟨fun R' h' H' τ' σ' E hr' sr' q => liftS_mk sr' hr' q (s.on E), s.rt, s.bk, s.ct⟩
theorem ss_pass {pos : Pos} : PS X (.Pass pos) (liftS X.K fun Z τ h => Z.nx τ h) := PS.imp ps_pass fun Z σ H w => by
  obtain ⟨R, τ, h, P, sr, hr, w, s⟩ := liftS_el w
  exact s.nx R h H τ σ .refl hr sr w
theorem ss_brk {pos : Pos} : PS X (.Break pos) (liftS X.K fun Z τ h => Z.bk τ h) := PS.imp ps_break fun Z σ H w => by
  obtain ⟨R, τ, h, P, sr, hr, w, s⟩ := liftS_el w
  exact s.bk R h H τ σ .refl hr sr w
theorem ss_cont {pos : Pos} : PS X (.Continue pos) (liftS X.K fun Z τ h => Z.ct τ h) := PS.imp ps_continue fun Z σ H w => by
  obtain ⟨R, τ, h, P, sr, hr, w, s⟩ := liftS_el w
  exact s.ct R h H τ σ .refl hr sr w
theorem ss_expr {e : Expr} {te : TEd} {pos : Pos} (he : PE X e (lift X.K te)) (hc : isComp e = false) : PS X (.Expr e pos) (liftS X.K fun Z τ h => te τ h fun _ h1 => Z.nx τ h1) := PS.imp (ps_expr he (noComp_sw hc)) fun Z σ H w => by
  obtain ⟨R, τ, h, P, sr, hr, w, s⟩ := liftS_el w
  exact ⟨R, τ, h, _, sr, hr, w, fun R1 h1 H1 d v E1 hr1 rd w1 => s.nx R1 h1 H1 τ σ E1 hr1 (E1.srel sr) w1⟩
theorem ss_ret {e : Expr} {te : TEd} {pos : Pos} (he : PE X e (lift X.K te)) : PS X (.Return (some e) pos) (liftS X.K fun Z τ h => te τ h Z.rt) := PS.imp (ps_ret he) fun Z σ H w => by
  obtain ⟨R, τ, h, P, sr, hr, w, s⟩ := liftS_el w
  exact ⟨R, τ, h, _, sr, hr, w, fun R1 h1 H1 d v E1 hr1 rd w1 => s.rt R1 h1 H1 d v E1 hr1 rd w1⟩
theorem ss_retN {pos : Pos} : PS X (.Return none pos) (liftS X.K fun Z _ h => Z.rt .non h) := PS.imp ps_retN fun Z σ H w => by
  obtain ⟨R, τ, h, P, sr, hr, w, s⟩ := liftS_el w
  exact s.rt R h H .non .non .refl hr (by simp only [RT, R0]) w
theorem ss_if {c : Expr} {a b : List Stmt} {t : TTd} {u1 u2 : TSd} {pos : Pos} (hc : PT X c (liftT X.K t)) (ha : PSs X a (liftS X.K u1)) (hb : PSs X b (liftS X.K u2)) : PS X (.If c a b pos) (liftS X.K (iteS t u1 u2)) := PS.imp (ps_if hc ha hb) fun Z σ H w => by
  obtain ⟨R, τ, h, P, sr, hr, w, s⟩ := liftS_el w
  refine ⟨R, τ, h, _, sr, hr, w, fun R1 h1 H1 k E1 hr1 w1 => ?_⟩
  cases k with
  | true => rw [if_pos rfl] at w1; exact iteT (liftS_mk (E1.srel sr) hr1 w1 (s.on E1))
  | false => rw [if_neg Bool.false_ne_true] at w1; exact iteF (liftS_mk (E1.srel sr) hr1 w1 (s.on E1))
theorem ss_while {c : Expr} {body : List Stmt} {t : TTd} {u : TSd} {pos : Pos} (hp : PassesOwn (model X.prog X.w) X.A X.env X.xe) (hc : PT X c (liftT X.K t)) (hb : PSs X body (liftS X.K u)) : PS X (.While c body [] pos) (liftS X.K (whileW t u)) := PS.imp (ps_while hp hc hb) fun Z σ H w => by
  obtain ⟨R, τ, h, P, sr, hr, w, s⟩ := liftS_el w
  obtain ⟨W, ⟨m0, w0⟩, turn⟩ := w
  refine ⟨fun m σ' H' => ∃ R' τ' h', Ext X.K R h H R' h' H' ∧ HRel X.K H' R' h' ∧ SRel X.K H' R' h'.length τ' σ' ∧ W m τ' h', ⟨m0, R, τ, h, .refl, hr, sr, w0⟩, ?_⟩
  rintro m σ1 H1 ⟨R1, τ1, h1, E1, hr1, sr1, w1⟩
  refine ⟨R1, τ1, h1, _, sr1, hr1, turn m τ1 h1 w1, fun R2 h2 H2 k E2 hr2 w2 => ?_⟩
  cases k with
  | true =>
    rw [if_pos rfl] at w2
    refine iteT ⟨_, fun σ' H' q => q, liftS_mk (E2.srel sr1) hr2 w2 ⟨fun R' h' H' τ' σ' E hr' sr' q => ?_, ((s.on E1).on E2).rt, ((s.on E1).on E2).nx, fun R' h' H' τ' σ' E hr' sr' q => ?_⟩⟩
    · obtain ⟨m', hm, q⟩ := q
      exact ⟨m', hm, R', τ', h', (E1.trans E2).trans E, hr', sr', q⟩
    · obtain ⟨m', hm, q⟩ := q
      exact ⟨m', hm, R', τ', h', (E1.trans E2).trans E, hr', sr', q⟩
  | false =>
    rw [if_neg Bool.false_ne_true] at w2
    exact iteF (s.nx R2 h2 H2 τ1 σ1 (E1.trans E2) hr2 (E2.srel sr1) w2)
theorem ss_for {tg iter : Expr} {body : List Stmt} {p : Pat} {t : TId} {u : TSd} {pos : Pos} (hp : PassesOwn (model X.prog X.w) X.A X.env X.xe) (hc : X.calm = true) (hi : PI X tg iter (liftI X.K t)) (hg : PG X tg (gOf X.K p)) (hb : PSs X body (liftS X.K u)) (hs : noSet iter = true) :
    PS X (.For tg iter body [] pos) (liftS X.K (forS p t u)) := PS.imp (ps_for hp hc hi hg hb (noSet_fold hs)) fun Z σ H w => by
  obtain ⟨R, τ, h, P, sr, hr, w, s⟩ := liftS_el w
  refine ⟨R, τ, h, _, sr, hr, w, fun R1 h1 H1 wk J E1 hr1 w1 wlk => ?_⟩
  refine ⟨fun i m σ' H' => m = wk.xs.length - i ∧ i ≤ wk.xs.length ∧ ∃ R' τ' h', Ext X.K R1 h1 H1 R' h' H' ∧ HRel X.K H' R' h' ∧ SRel X.K H' R' h'.length τ' σ' ∧ forW wk.ok p u P (wk.xs.drop i) τ' h',
    ⟨wk.xs.length, by simp, Nat.zero_le _, R1, τ, h1, .refl, hr1, E1.srel sr, w1⟩, ?_⟩
  rintro i m σ2 H2 ⟨rfl, hi, R2, τ2, h2, E2, hr2, sr2, w2⟩
  by_cases hlt : i < wk.xs.length
  · refine .inr ?_
    rw [List.drop_eq_getElem_cons hlt] at w2
    obtain ⟨ok, w2⟩ := w2
    obtain ⟨wgo, wstop, wyld⟩ := wlk R2 h2 H2 E2 hr2 ok
    refine ⟨wgo i hlt, _, fun σ' H' q => ⟨wk.xs.length - (i + 1), by omega, q⟩, fun x H3 y => ?_⟩
    obtain ⟨d, ed, E3, hr3, rd⟩ := wyld i x H3 hlt y
    rw [List.getElem?_eq_getElem hlt] at ed
    cases ed
    have E13 := (E1.trans E2).trans E3
    refine bind_sim rd (E3.srel sr2) w2 fun τ' σ' s' _ w3 => liftS_mk s' hr3 w3 ⟨fun R' h' H' τ4 σ4 E hr' sr' q => ?_, (s.on E13).rt, (s.on E13).nx, fun R' h' H' τ4 σ4 E hr' sr' q => ?_⟩
    · exact ⟨rfl, hlt, R', τ4, h', (E2.trans E3).trans E, hr', sr', q⟩
    · exact ⟨rfl, hlt, R', τ4, h', (E2.trans E3).trans E, hr', sr', q⟩
  · have e : i = wk.xs.length := by omega
    subst e
    rw [List.drop_eq_nil_of_le (Nat.le_refl _)] at w2
    obtain ⟨ok, w2⟩ := w2
    obtain ⟨wgo, wstop, wyld⟩ := wlk R2 h2 H2 E2 hr2 ok
    exact .inl ⟨wstop _ (Nat.le_refl _), s.nx R2 h2 H2 τ2 σ2 (E1.trans E2) hr2 sr2 w2⟩
/-- a target given a value that gets a place -/
theorem asg_sim {K : PySem.W.Frag} {p : Pat} {te : TEd} {tE : TE} (hT : ∀ σ H Q, lift K te σ H Q → tE σ H Q) (Z : Ends) (σ : L2.St) (H : Hp) (w : liftS K (asgS p te) Z σ H) : tAsg tE (gOf K p) Z σ H := by
  obtain ⟨R, τ, h, P, sr, hr, w, s⟩ := liftS_el w
  refine hT σ H _ ⟨R, τ, h, _, sr, hr, w, fun R1 h1 H1 d v E1 hr1 rd w1 => ?_⟩
  obtain ⟨R2, h2, d', E2, hr2, ag, rd', w2⟩ := mat_ok E1 hr1 rd w1
  exact bind_sim rd' (E2.srel sr) w2 fun τ' σ' s' _ w3 => s.nx R2 h2 H1 τ' σ' E2 hr2 s' w3
end
end Py

namespace Py
open PySem PySem.Spec PyProof.Rows L2
def isTupE : Expr → Bool
  | .Tuple _ _ _ => true
  | _ => false
def augOp : Prim → Option Operator
  | .add => some .Add | .sub => some .Sub | .mul => some .Mult | _ => none
def compOf : CE → Bool
  | .comp _ _ _ _ _ => true
  | _ => false
def asgNm : List Expr → Option Str
  | [.Name x _] => some x
  | _ => none
def asgTp : List Expr → Option (List Expr)
  | [.Tuple ts _ _] => some ts
  | _ => none
def asgC (N : List Str) (sc : Scope) (p : Pat) (e : CE) (ts : List Expr) (v : Expr) : Bool := match p with
  | .nm i => (match asgNm ts with | some x => chkN N sc i x && (!isComp v || compOf e) | none => false)
  | .tp is => (match asgTp ts with | some es => chkNs N sc is es && !isTupE v | none => false)
def asgT : List Expr → Expr → Option (List Expr × List Expr)
  | [.Tuple ts _ _], .Tuple vs _ _ => some (ts, vs)
  | _, _ => none
def parC (sc : Scope) : List Expr → List Expr → Bool
  | [.Name x p, .Name y q], [_, _] => decide (sc.names.lookup x = some .local) && decide (sc.names.lookup y = some .local) && decide (swNames sc [.Name x p, .Name y q] = [x, y])
  | [.Name x p, .Name y q, .Name z r], [_, _, _] => decide (sc.names.lookup x = some .local) && decide (sc.names.lookup y = some .local) && decide (sc.names.lookup z = some .local) && decide (swNames sc [.Name x p, .Name y q, .Name z r] = [x, y, z])
  | _, _ => false
def asgsC (sc : Scope) (ts vs : List Expr) : Bool := match swS sc ts vs with
  | some false => true
  | some true => parC sc ts vs
  | none => false
def subT : List Expr → Option (Expr × Expr)
  | [.Subscript o i _] => some (o, i)
  | _ => none
mutual
def chk1 (T : Tab) (N : List Str) : CS → Scope → Stmt → Bool
  | .pass, _, .Pass _ => true
  | .brk, _, .Break _ => true
  | .cont, _, .Continue _ => true
  | .expr e, sc, .Expr v _ => !isComp v && chk T N e false sc v
  | .asg p e, sc, .Assign ts v _ => asgC N sc p e ts v && chk T N e false sc v
  | .asgs is as, sc, .Assign ts v _ => (match asgT ts v with | some (ts, vs) => chkNs N sc is ts && decide (is.Nodup) && asgsC sc ts vs && chkA T N as sc vs | none => false)
  | .setIdx o i e, sc, .Assign ts v _ => (match subT ts with | some (o', i') => noSlice i' && chk T N o false sc o' && chk T N i false sc i' && chk T N e false sc v | none => false)
  | .aug i p e, sc, .AugAssign (.Name x _) op v _ => chkN N sc i x && decide (augOp p = some op) && chk T N e false sc v
  | .ret e, sc, .Return (some v) _ => chk T N e false sc v
  | .retN, _, .Return none _ => true
  | .ite t a b, sc, .If t' a' b' _ => chk T N t true sc t' && chkB T N a sc a' && chkB T N b sc b'
  | .whil t b, sc, .While t' b' [] _ => chk T N t true sc t' && chkB T N b sc b'
  | .forr p it b, sc, .For tg it' b' [] _ => chkP N sc p tg && noSet it' && chk T N it false sc it' && chkB T N b sc b'
  | _, _, _ => false
def chkB (T : Tab) (N : List Str) : CS → Scope → List Stmt → Bool
  | .nil, _, [] => true
  | .seq s r, sc, st :: sts => chk1 T N s sc st && chkB T N r sc sts
  | _, _, _ => false
end
structure SndS (T : Tab) (cl : CallD) (N : List Str) (c : CS) : Prop where
  s : ∀ {sc : Scope} {X : Cx} {st : Stmt}, Good T cl N sc sc X → PassesOwn (model X.prog X.w) X.A X.env X.xe → chk1 T N c sc st = true → PS X st (liftS X.K (wpS cl T.gl c))
  b : ∀ {sc : Scope} {X : Cx} {sts : List Stmt}, Good T cl N sc sc X → PassesOwn (model X.prog X.w) X.A X.env X.xe → chkB T N c sc sts = true → PSs X sts (liftS X.K (wpS cl T.gl c))
section
variable {T : Tab} {cl : CallD} {N : List Str}
theorem SndS.one {c : CS} (h : ∀ {sc : Scope} {X : Cx} {st : Stmt}, Good T cl N sc sc X → PassesOwn (model X.prog X.w) X.A X.env X.xe → chk1 T N c sc st = true → PS X st (liftS X.K (wpS cl T.gl c))) (hb : ∀ sc sts, chkB T N c sc sts = false) : SndS T cl N c :=
  ⟨h, fun g hp q => by rw [hb] at q; cases q⟩
theorem snS_pass : SndS T cl N .pass := SndS.one (fun {sc X st} g hp h => by
  cases st <;> first | (simp [chk1] at h; done) | exact ss_pass) (fun sc sts => by cases sts <;> rfl)
theorem snS_brk : SndS T cl N .brk := SndS.one (fun {sc X st} g hp h => by
  cases st <;> first | (simp [chk1] at h; done) | exact ss_brk) (fun sc sts => by cases sts <;> rfl)
theorem snS_cont : SndS T cl N .cont := SndS.one (fun {sc X st} g hp h => by
  cases st <;> first | (simp [chk1] at h; done) | exact ss_cont) (fun sc sts => by cases sts <;> rfl)
theorem snS_nil : SndS T cl N .nil := ⟨fun {sc X st} g hp h => by cases st <;> simp [chk1] at h, fun {sc X sts} g hp h => by
  cases sts with
  | nil => exact ss_nil
  | cons _ _ => simp [chkB] at h⟩
theorem snS_seq {s r : CS} (hs : SndS T cl N s) (hr : SndS T cl N r) : SndS T cl N (.seq s r) := ⟨fun {sc X st} g hp h => by cases st <;> simp [chk1] at h, fun {sc X sts} g hp h => by
  cases sts with
  | nil => simp [chkB] at h
  | cons st sts =>
    simp only [chkB, Bool.and_eq_true] at h
    exact ss_cons (t := wpS cl T.gl s) (u := wpS cl T.gl r) (hs.s g hp h.1) (hr.b g hp h.2)⟩
theorem snS_expr {e : CE} : SndS T cl N (.expr e) := SndS.one (fun {sc X st} g hp h => by
  cases st with
  | Expr v pos =>
    simp only [chk1, Bool.and_eq_true, Bool.not_eq_true'] at h
    exact ss_expr ((snd T cl N e).e g h.2) h.1
  | _ => simp [chk1] at h) (fun sc sts => by cases sts <;> rfl)
theorem snS_ret {e : CE} : SndS T cl N (.ret e) := SndS.one (fun {sc X st} g hp h => by
  cases st with
  | Return v pos =>
    cases v with
    | none => simp [chk1] at h
    | some v =>
      simp only [chk1] at h
      exact ss_ret ((snd T cl N e).e g h)
  | _ => simp [chk1] at h) (fun sc sts => by cases sts <;> rfl)
theorem snS_retN : SndS T cl N .retN := SndS.one (fun {sc X st} g hp h => by
  cases st with
  | Return v pos =>
    cases v with
    | none => exact ss_retN
    | some v => simp [chk1] at h
  | _ => simp [chk1] at h) (fun sc sts => by cases sts <;> rfl)
theorem snS_ite {t : CE} {a b : CS} (ha : SndS T cl N a) (hb : SndS T cl N b) : SndS T cl N (.ite t a b) := SndS.one (fun {sc X st} g hp h => by
  cases st with
  | If t' a' b' pos =>
    simp only [chk1, Bool.and_eq_true] at h
    exact ss_if ((snd T cl N t).t g h.1.1).1 (ha.b g hp h.1.2) (hb.b g hp h.2)
  | _ => simp [chk1] at h) (fun sc sts => by cases sts <;> rfl)
theorem snS_whil {t : CE} {b : CS} (hb : SndS T cl N b) : SndS T cl N (.whil t b) := SndS.one (fun {sc X st} g hp h => by
  cases st with
  | While t' b' o pos =>
    cases o with
    | nil =>
      simp only [chk1, Bool.and_eq_true] at h
      exact ss_while hp ((snd T cl N t).t g h.1).1 (hb.b g hp h.2)
    | cons _ _ => simp [chk1] at h
  | _ => simp [chk1] at h) (fun sc sts => by cases sts <;> rfl)
theorem snS_forr {p : Pat} {it : CE} {b : CS} (hb : SndS T cl N b) : SndS T cl N (.forr p it b) := SndS.one (fun {sc X st} g hp h => by
  cases st with
  | For tg it' b' o pos =>
    cases o with
    | nil =>
      simp only [chk1, Bool.and_eq_true] at h
      obtain ⟨⟨⟨h1, h2⟩, h3⟩, h4⟩ := h
      exact ss_for hp g.calm ((snd T cl N it).i g h3) (pg_of g h1) (hb.b g hp h4) h2
    | cons _ _ => simp [chk1] at h
  | _ => simp [chk1] at h) (fun sc sts => by cases sts <;> rfl)
theorem asgNm_inv {ts : List Expr} {x : Str} (h : asgNm ts = some x) : ∃ p, ts = [.Name x p] := by
  unfold asgNm at h
  split at h
  · cases h; exact ⟨_, rfl⟩
  · cases h
theorem asgTp_inv {ts es : List Expr} (h : asgTp ts = some es) : ∃ k p, ts = [.Tuple es k p] := by
  unfold asgTp at h
  split at h
  · cases h; exact ⟨_, _, rfl⟩
  · cases h
theorem asgC_nm {sc : Scope} {i : Nat} {e : CE} {ts : List Expr} {v : Expr} (h : asgC N sc (.nm i) e ts v = true) : ∃ x px, ts = [.Name x px] ∧ chkN N sc i x = true ∧ (isComp v = false ∨ compOf e = true) := by
  unfold asgC at h
  dsimp only at h
  split at h
  · rename_i x q
    obtain ⟨p, rfl⟩ := asgNm_inv q
    simp only [Bool.and_eq_true, Bool.or_eq_true, Bool.not_eq_true'] at h
    exact ⟨_, _, rfl, h.1, h.2⟩
  · cases h
theorem asgC_tp {sc : Scope} {is : List Nat} {e : CE} {ts : List Expr} {v : Expr} (h : asgC N sc (.tp is) e ts v = true) : ∃ es k p, ts = [.Tuple es k p] ∧ chkNs N sc is es = true ∧ isTupE v = false := by
  unfold asgC at h
  dsimp only at h
  split at h
  · rename_i es q
    obtain ⟨k, p, rfl⟩ := asgTp_inv q
    simp only [Bool.and_eq_true, Bool.not_eq_true'] at h
    exact ⟨_, _, _, rfl, h.1, h.2⟩
  · cases h
theorem snS_asg {p : Pat} {e : CE} : SndS T cl N (.asg p e) := SndS.one (fun {sc X st} g hp h => by
  cases st with
  | Assign ts v pos =>
    simp only [chk1, Bool.and_eq_true] at h
    obtain ⟨h0, h3⟩ := h
    cases p with
    | nm i =>
      obtain ⟨x, px, rfl, h1, h2⟩ := asgC_nm h0
      have h1' := h1
      unfold chkN at h1'
      simp only [Bool.and_eq_true, Bool.or_eq_true, decide_eq_true_eq] at h1'
      have hN : X.N.Nodup := by rw [g.hN]; exact g.nd
      have hl : isComp v = false ∨ ∃ a b c d, v = .ListComp a b c d := by
        rcases h2 with h2 | h2
        · exact .inl h2
        · cases e <;> first | (cases h2; done) | skip
          obtain ⟨e', tg, iter, ifs, scope, ps, rfl, _⟩ := compInv h3
          exact .inr ⟨_, _, _, _, rfl⟩
      have sw := swB_ok (y := x) (py := px) (l := pos.line) g.hsc g.kind hl
      cases q : swB sc x px v with
      | false =>
        rw [q] at sw
        obtain ⟨a, b⟩ := g.st x h1'.2
        exact PS.imp (ps_set hN (by rw [g.hN]; exact h1'.1) a ((snd T cl N e).e g h3) sw b) fun Z σ H w => asg_sim (p := .nm i) (fun _ _ _ z => z) Z σ H w
      | true =>
        rw [q] at sw
        have hloc : sc.names.lookup x = some .local := by
          unfold swB at q
          split at q
          · simp only [Bool.and_eq_true, decide_eq_true_eq] at q
            exact q.1.1
          · cases q
        have hce : compOf e = true := by
          rcases h2 with h2 | h2
          · unfold swB at q
            split at q
            · cases h2
            · cases q
          · exact h2
        cases e <;> first | (cases hce; done) | skip
        obtain ⟨tE, P, hE⟩ := ss_setLc (snd T cl N _) (snd T cl N _) (snd T cl N _) g h1'.1 hloc sw h3
        exact PS.imp P fun Z σ H w => asg_sim (p := .nm i) hE Z σ H w
    | tp is =>
      obtain ⟨es, k, p, rfl, h1, h2⟩ := asgC_tp h0
      have hw : swappedStores [.Tuple es k p] v X.env = pure none := by cases v <;> first | rfl | cases h2
      have hs : swapsWithSole [.Tuple es k p] v pos.line X.env = pure false := noName_sw (t := .Tuple es k p) (l := pos.line) (env := X.env) rfl
      exact PS.imp (ps_asg ((snd T cl N e).e g h3) (pg_of g (p := .tp is) (e := .Tuple es k p) h1) hs hw rfl) fun Z σ H w => asg_sim (p := .tp is) (fun _ _ _ z => z) Z σ H w
  | _ => simp [chk1] at h) (fun sc sts => by cases sts <;> rfl)
theorem asgT_inv {ts : List Expr} {v : Expr} {a b : List Expr} (h : asgT ts v = some (a, b)) : ∃ k p k2 p2, ts = [.Tuple a k p] ∧ v = .Tuple b k2 p2 := by
  unfold asgT at h
  split at h
  · cases h; exact ⟨_, _, _, _, rfl, rfl⟩
  · cases h
theorem subT_inv {ts : List Expr} {a b : Expr} (h : subT ts = some (a, b)) : ∃ p, ts = [.Subscript a b p] := by
  unfold subT at h
  split at h
  · cases h; exact ⟨_, rfl⟩
  · cases h
theorem set_sim {K : PySem.W.Frag} {to ti te : TEd} (Z : Ends) (σ : L2.St) (H : Hp) (w : liftS K (setIdxS to ti te) Z σ H) : tAsg (lift K te) (gSub (lift K to) (lift K ti) rSetL) Z σ H := by
  obtain ⟨R, τ, h, P, sr, hr, w, s⟩ := liftS_el w
  refine ⟨R, τ, h, _, sr, hr, w, fun R1 h1 H1 d v E1 hr1 rd w1 => ?_⟩
  obtain ⟨R2, h2, d', E2, hr2, ag, rd', w2⟩ := mat_ok E1 hr1 rd w1
  refine ⟨R2, τ, h2, _, E2.srel sr, hr2, w2, fun R3 h3 H3 x u E3 hr3 rx w3 => ⟨R3, τ, h3, _, E3.srel (E2.srel sr), hr3, w3, fun R4 h4 H4 y u2 E4 hr4 ry w4 => ?_⟩⟩
  unfold setIdxW at w4
  split at w4
  · obtain ⟨hi, rfl⟩ := (E4.rt rx).locE
    cases ry.intE
    split at w4
    · rename_i xs ex
      obtain ⟨_, vs, hw, r⟩ := hr4.lst ex
      split at w4
      · rename_i n en
        have E24 := (E2.trans E3).trans E4
        have rv := E4.r0 (E3.r0 rd')
        refine ⟨_, vs, _, n, rfl, rfl, hw, by rw [← R0s_len r]; exact en, ?_⟩
        have E5 : Ext K R4 h4 H4 R4 (h4.set _ (.lst (xs.set n d'))) (upd H4 (R4 _) (.lst (vs.set n v))) := .put hr4 hi hw True.intro
        exact s.nx R4 _ _ τ σ (E24.trans E5) (hr4.put hi hw True.intro ⟨_, upd_same, E5.r0s (R0s_set rv n r)⟩) ((E24.trans E5).srel sr) w4
      · exact w4.elim
    · exact w4.elim
  · exact w4.elim
theorem snS_set {o i e : CE} : SndS T cl N (.setIdx o i e) := SndS.one (fun {sc X st} g hp h => by
  cases st with
  | Assign ts v pos =>
    simp only [chk1] at h
    split at h
    · rename_i o' i' q
      simp only [Bool.and_eq_true] at h
      obtain ⟨⟨⟨h0, h1⟩, h2⟩, h3⟩ := h
      obtain ⟨p, rfl⟩ := subT_inv q
      have hw : swappedStores [.Subscript o' i' p] v X.env = pure none := by cases v <;> rfl
      have hs : swapsWithSole [.Subscript o' i' p] v pos.line X.env = pure false := noName_sw (t := .Subscript o' i' p) (l := pos.line) (env := X.env) rfl
      refine PS.imp (ps_asg ((snd T cl N e).e g h3) (pg_sub ((snd T cl N o).e g h1) ((snd T cl N i).e g h2) set_list ?_) hs hw rfl) fun Z σ H w => set_sim Z σ H w
      intro u
      cases i' <;> first | rfl | cases h0
    · cases h
  | _ => simp [chk1] at h) (fun sc sts => by cases sts <;> rfl)
end
end Py

namespace Py
open PySem PySem.Spec PyProof.Rows L2
section
variable {T : Tab} {cl : CallD} {N : List Str}
theorem tup_sim {K : PySem.W.Frag} {is : List Nat} {as : CE} (Z : Ends) (σ : L2.St) (H : Hp) (w : liftS K (asgsS is (wp cl T.gl as).a) Z σ H) : tAsg (tTup (liftA K ((wp cl T.gl as).a true))) (gTup K is.length (gAll is)) Z σ H := by
  obtain ⟨R, τ, h, P, sr, hr, w, s⟩ := liftS_el w
  refine ⟨R, τ, h, _, sr, hr, w, fun R1 h1 H1 ds vs E1 hr1 rs w1 => ?_⟩
  obtain ⟨⟨hl, hz⟩, w1⟩ := w1
  refine ⟨by rw [← R0s_len rs]; exact hz, fun p hp => ?_⟩
  have E2 : Ext K R1 h1 H1 R1 h1 (upd H1 p (.tup vs)) := .laid hp
  refine ⟨p, vs, rfl, .inl (.inl upd_same), by rw [← R0s_len rs]; exact hl, ?_⟩
  exact bind_all (E2.r0s rs) ((E1.trans E2).srel sr) hl (fun i hi => hi) fun σ' s' _ => s.nx R1 h1 _ _ σ' (E1.trans E2) (hr1.laid hp) s' w1
theorem parC_inv {sc : Scope} {ts vs : List Expr} (h : parC sc ts vs = true) :
    (∃ x p y q a b, ts = [.Name x p, .Name y q] ∧ vs = [a, b] ∧ sc.names.lookup x = some .local ∧ sc.names.lookup y = some .local ∧ swNames sc ts = [x, y]) ∨
    (∃ x p y q z r a b c, ts = [.Name x p, .Name y q, .Name z r] ∧ vs = [a, b, c] ∧ sc.names.lookup x = some .local ∧ sc.names.lookup y = some .local ∧ sc.names.lookup z = some .local ∧ swNames sc ts = [x, y, z]) := by
  unfold parC at h
  split at h
  · simp only [Bool.and_eq_true, decide_eq_true_eq] at h
    exact .inl ⟨_, _, _, _, _, _, rfl, rfl, h.1.1, h.1.2, h.2⟩
  · simp only [Bool.and_eq_true, decide_eq_true_eq] at h
    exact .inr ⟨_, _, _, _, _, _, _, _, _, rfl, rfl, h.1.1.1, h.1.1.2, h.1.2, h.2⟩
  · cases h
theorem chkN_at {sc : Scope} {i : Nat} {x : Str} {p : Pos} (h : chkE1 N sc i (.Name x p) = true) : N[i]? = some x := by
  obtain ⟨y, q, e, h1⟩ := chkE1_ok h
  cases e
  unfold chkN at h1
  simp only [Bool.and_eq_true, decide_eq_true_eq] at h1
  exact h1.1
theorem snS_asgs {is : List Nat} {as : CE} : SndS T cl N (.asgs is as) := SndS.one (fun {sc X st} g hp h => by
  cases st with
  | Assign ts v pos =>
    simp only [chk1] at h
    split at h
    · rename_i ts' vs q
      obtain ⟨k, p, k2, p2, rfl, rfl⟩ := asgT_inv q
      simp only [Bool.and_eq_true, decide_eq_true_eq] at h
      obtain ⟨⟨⟨h1, h2⟩, h3⟩, h4⟩ := h
      obtain ⟨ha, hs⟩ := (snd T cl N as).a g h4
      have hN : X.N.Nodup := by rw [g.hN]; exact g.nd
      have hsw : swapsWithSole [.Tuple ts' k p] (.Tuple vs k2 p2) pos.line X.env = pure false := noName_sw (e := .Tuple vs k2 p2) (t := .Tuple ts' k p) (l := pos.line) (env := X.env) rfl
      unfold asgsC at h3
      split at h3
      · rename_i qs
        have hw := swS_ok (env := X.env) (k1 := k) (k2 := k2) (p1 := p) (p2 := p2) g.hsc g.kind qs
        exact PS.imp (ps_asg (pe_tup (args_ok hs ha)) (pg_of g (p := .tp is) (e := .Tuple ts' k p) h1) hsw hw rfl) fun Z σ H w => tup_sim Z σ H w
      · rename_i qs
        have hw := swS_ok (env := X.env) (k1 := k) (k2 := k2) (p1 := p) (p2 := p2) g.hsc g.kind qs
        rw [if_pos rfl] at hw
        rcases parC_inv h3 with ⟨x, px, y, py, a, b, rfl, rfl, lx, ly, en⟩ | ⟨x, px, y, py, z, pz, a, b, c, rfl, rfl, lx, ly, lz, en⟩
        · rw [en] at hw
          match is, h1, h2 with
          | [i, j], h1, h2 =>
            unfold chkNs chkNs at h1
            simp only [Bool.and_eq_true] at h1
            have nij : i ≠ j := by simpa using h2
            have n1 := chkN_at h1.1
            have n2 := chkN_at h1.2.1
            rw [← g.hN] at n1 n2
            refine PS.imp (ps_par (i := i) (j := j) g.calm hN n1 n2 nij (by rw [g.hsc]; exact lx) (by rw [g.hsc]; exact ly) (args_ok hs ha) hw hsw) fun Z σ H w => ?_
            obtain ⟨R, τ, h, P, sr, hr, w, s⟩ := liftS_el w
            refine ⟨R, τ, h, _, sr, hr, w, fun R1 h1 H1 ds vs E1 hr1 rs w1 => ?_⟩
            obtain ⟨⟨hl, _⟩, w1⟩ := w1
            match ds, hl, rs, w1 with
            | [d1, d2], hl, rs, w1 =>
              simp only [R0s] at rs
              obtain ⟨v1, _, rfl, r1, v2, _, rfl, r2, rfl⟩ := rs
              exact ⟨v1, v2, rfl, s.nx R1 h1 H1 _ _ E1 hr1 (((E1.srel sr).set r1).set r2) w1⟩
            | [], hl, _, _ => cases hl
            | [_], hl, _, _ => cases hl
            | _ :: _ :: _ :: _, hl, _, _ => cases hl
          | [], h1, _ => cases h1
          | [_], h1, _ => simp [chkNs] at h1
          | _ :: _ :: _ :: _, h1, _ => simp [chkNs] at h1
        · rw [en] at hw
          match is, h1, h2 with
          | [i, j, l], h1, h2 =>
            unfold chkNs chkNs chkNs at h1
            simp only [Bool.and_eq_true] at h1
            have nij : (¬ i = j ∧ ¬ i = l) ∧ ¬ j = l := by simpa using h2
            have n1 := chkN_at h1.1
            have n2 := chkN_at h1.2.1
            have n3 := chkN_at h1.2.2.1
            rw [← g.hN] at n1 n2 n3
            refine PS.imp (ps_par3 (i := i) (j := j) (l := l) g.calm hN n1 n2 n3 nij.1.1 nij.1.2 nij.2 (by rw [g.hsc]; exact lx) (by rw [g.hsc]; exact ly) (by rw [g.hsc]; exact lz) (args_ok hs ha) hw hsw) fun Z σ H w => ?_
            obtain ⟨R, τ, h, P, sr, hr, w, s⟩ := liftS_el w
            refine ⟨R, τ, h, _, sr, hr, w, fun R1 h1 H1 ds vs E1 hr1 rs w1 => ?_⟩
            obtain ⟨⟨hl, _⟩, w1⟩ := w1
            match ds, hl, rs, w1 with
            | [d1, d2, d3], hl, rs, w1 =>
              simp only [R0s] at rs
              obtain ⟨v1, _, rfl, r1, v2, _, rfl, r2, v3, _, rfl, r3, rfl⟩ := rs
              exact ⟨v1, v2, v3, rfl, s.nx R1 h1 H1 _ _ E1 hr1 ((((E1.srel sr).set r1).set r2).set r3) w1⟩
            | [], hl, _, _ => cases hl
            | [_], hl, _, _ => cases hl
            | [_, _], hl, _, _ => cases hl
            | _ :: _ :: _ :: _ :: _, hl, _, _ => cases hl
          | [], h1, _ => cases h1
          | [_], h1, _ => simp [chkNs] at h1
          | [_, _], h1, _ => simp [chkNs] at h1
          | _ :: _ :: _ :: _ :: _, h1, _ => simp [chkNs] at h1
      · cases h3
    · cases h
  | _ => simp [chk1] at h) (fun sc sts => by cases sts <;> rfl)

/-! ### name op= e -/
def ipD (p : Prim) : V → V → Hp → VK → Prop := fun x y H Q => match p with
  | .add => rI0 (fun i j => .int (i + j)) x y H Q ∨ rExt2 x y H Q
  | .sub => rI0 (fun i j => .int (i - j)) x y H Q
  | .mul => rI CMul (fun i j => .int (i * j)) x y H Q
  | _ => False
theorem ipD_ok {X : Cx} {p : Prim} {op : Operator} (h : augOp p = some op) : PIp X op (ipD p) := by
  cases p <;> first | (cases h; done) | skip
  · cases h; exact iop_add.or iop_ext
  · cases h; exact iop_sub
  · cases h; exact iop_mul
theorem snS_aug {i : Nat} {p : Prim} {e : CE} : SndS T cl N (.aug i p e) := SndS.one (fun {sc X st} g hp h => by
  cases st with
  | AugAssign t op v pos =>
    cases t with
    | Name x px =>
      simp only [chk1, Bool.and_eq_true, decide_eq_true_eq] at h
      obtain ⟨⟨h1, h2⟩, h3⟩ := h
      unfold chkN at h1
      simp only [Bool.and_eq_true, Bool.or_eq_true, decide_eq_true_eq] at h1
      obtain ⟨a, b⟩ := g.st x h1.2
      refine PS.imp (ps_aug (by rw [g.hN]; exact g.nd) (by rw [g.hN]; exact h1.1) a ((snd T cl N e).e g h3) (ipD_ok h2) b) fun Z σ H w => ?_
      obtain ⟨R, τ, h, P, sr, hr, w, s⟩ := liftS_el w
      unfold wpS augS at w
      split at w
      · rename_i d ed
        obtain ⟨u, eu, ru⟩ := sr.at_ i d ed
        refine ⟨u, eu, R, τ, h, _, sr, hr, w, fun R1 h1 H1 y vy E1 hr1 ry w1 => ?_⟩
        have ru1 := E1.r0 ru
        have fin : ∀ {z : D} {vz : V}, R0 X.K H1 R1 h1.length z vz → P.nx (τ.set i (some z)) h1 → Z.nx (σ.set i (some vz)) H1 := fun {z vz} rz q => s.nx R1 h1 H1 _ _ E1 hr1 ((E1.srel sr).set rz) q
        unfold augW at w1
        split at w1
        · simp only [R0] at ru1; subst ru1; cases ry.intE
          exact .inl ⟨_, _, rfl, rfl, fin (by simp only [R0]) w1⟩
        · simp only [R0] at ru1; subst ru1; cases ry.intE
          exact ⟨_, _, rfl, rfl, fin (by simp only [R0]) w1⟩
        · simp only [R0] at ru1; subst ru1; cases ry.intE
          exact ⟨_, _, rfl, rfl, w1.1, fin (by simp only [R0]) w1.2⟩
        · split at w1
          · rename_i xs ys e1 e2
            simp only [R0] at ru1
            obtain ⟨hi, rfl⟩ := ru1
            obtain ⟨_, vs, hw, r⟩ := hr1.lst e1
            obtain ⟨b, ws, rfl, hb, rb⟩ := ry.mlst hr1 e2
            refine .inr ⟨_, b, vs, ws, rfl, rfl, hw, hb, by rw [← R0s_len r, ← R0s_len rb]; exact w1.1, ?_⟩
            have E2 : Ext X.K R1 h1 H1 R1 (h1.set _ (.lst (xs ++ ys))) (upd H1 (R1 _) (.lst (vs ++ ws))) := .put hr1 hi hw True.intro
            exact s.nx R1 _ _ _ _ (E1.trans E2) (hr1.put hi hw True.intro ⟨_, upd_same, E2.r0s (R0s_append r rb)⟩) (((E1.trans E2).srel sr).set (E2.r0 (d := .loc _) (show R0 X.K H1 R1 h1.length (.loc _) _ from by simp only [R0]; exact ⟨hi, trivial⟩))) w1.2
          · exact w1.elim
        · exact w1.elim
      · exact w.elim
    | _ => simp [chk1] at h
  | _ => simp [chk1] at h) (fun sc sts => by cases sts <;> rfl)
theorem sndS (T : Tab) (cl : CallD) (N : List Str) : ∀ c : CS, SndS T cl N c
  | .nil => snS_nil
  | .seq s r => snS_seq (sndS T cl N s) (sndS T cl N r)
  | .pass => snS_pass
  | .brk => snS_brk
  | .cont => snS_cont
  | .expr _ => snS_expr
  | .asg _ _ => snS_asg
  | .asgs _ _ => snS_asgs
  | .setIdx _ _ _ => snS_set
  | .aug _ _ _ => snS_aug
  | .ret _ => snS_ret
  | .retN => snS_retN
  | .ite _ a b => snS_ite (sndS T cl N a) (sndS T cl N b)
  | .whil _ b => snS_whil (sndS T cl N b)
  | .forr _ _ b => snS_forr (sndS T cl N b)
end
end Py

namespace Py
open PySem PySem.Spec PyProof.Rows L2

/-! ### defs -/
structure FD where
  name : Str
  ps : List Str
  N : List Str
  st : Stmt
  body : CS
def startD (N : List Str) (args : List D) : Sd := args.map some ++ List.replicate (N.length - args.length) none
/-- what stood is as it was, or holds no new place -/
def gcOK (h h' : Hd) : Prop := h.length ≤ h'.length ∧ ∀ i o, i < h.length → h'[i]? = some o → h[i]? = some o ∨ o.clean h.length
/-- a call's end: what the def made may be forgotten; a list that it made may be handed back as new -/
def Gc (h : Hd) (v : D) (h' : Hd) (Q : PD) : Prop := Q v h' ∨ (v.clean h.length ∧ gcOK h h' ∧ Q v (h'.take h.length)) ∨
  (∃ k xs, v = .loc k ∧ h.length ≤ k ∧ h'[k]? = some (.lst xs) ∧ D.cleans h.length xs ∧ gcOK h h' ∧ Q (.tl xs) (h'.take h.length))
def endZ (h : Hd) (Q : PD) : Endd := ⟨fun _ h' => Gc h .non h' Q, fun v h' => Gc h v h' Q, fun _ _ => False, fun _ _ => False⟩
def wpCall (gl : List (Str × D)) (F : List FD) : Nat → CallD
  | 0 => fun _ _ _ _ => False
  | d + 1 => fun f args h Q => match F[f]? with
    | some c => args.length = c.ps.length ∧ wpS (wpCall gl F d) gl c.body (endZ h Q) (startD c.N args) h
    | none => False
mutual
theorem clean_of {K : PySem.W.Frag} {H : Hp} {R : Nat → Addr} {n : Nat} : ∀ (d : D) (v : V), R0 K H R n d v → d.clean n
  | .non, _, _ => trivial
  | .bl _, _, _ => trivial
  | .int _, _, _ => trivial
  | .str _, _, _ => trivial
  | .tup ds, v, h => by
    simp only [R0] at h
    obtain ⟨a, vs, _, _, h⟩ := h
    simp only [D.clean]
    exact cleans_of ds vs h
  | .loc i, v, h => by
    simp only [R0] at h
    simp only [D.clean]
    exact h.1
  | .tl _, _, h => by simp only [R0] at h
  | .td _ _ _, _, h => by simp only [R0] at h
  | .rl ds, v, h => by
    simp only [R0] at h
    obtain ⟨a, vs, _, _, h⟩ := h
    simp only [D.clean]
    exact cleans_of ds vs h
theorem cleans_of {K : PySem.W.Frag} {H : Hp} {R : Nat → Addr} {n : Nat} : ∀ (ds : List D) (vs : List V), R0s K H R n ds vs → D.cleans n ds
  | [], _, _ => trivial
  | d :: ds, vs, h => by
    simp only [R0s] at h
    obtain ⟨v, us, _, h1, h2⟩ := h
    simp only [D.cleans]
    exact ⟨clean_of d v h1, cleans_of ds us h2⟩
end
section
variable {K : PySem.W.Frag} {R R' : Nat → Addr} {h h' : Hd} {H H' : Hp}
theorem Ext.take (E : Ext K R h H R' h' H') : Ext K R h H R' (h'.take h.length) H' where
  len := by rw [List.length_take]; exact Nat.le_min.mpr ⟨Nat.le_refl _, E.len⟩
  agr := E.agr
  fresh := fun i a b => by rw [List.length_take] at b; omega
  frame := E.frame
  stay := E.stay
  tup := E.tup
  frz := E.frz
theorem HRel.take (hr0 : HRel K H R h) (hr : HRel K H' R' h') (g : gcOK h h') : HRel K H' R' (h'.take h.length) := by
  have hl : (h'.take h.length).length = h.length := by rw [List.length_take]; exact Nat.min_eq_left g.1
  refine ⟨fun i j a b e => hr.inj i j (by rw [hl] at a; exact Nat.lt_of_lt_of_le a g.1) (by rw [hl] at b; exact Nat.lt_of_lt_of_le b g.1) e, fun i o e => ?_⟩
  have hi : i < h.length := by rw [← hl]; exact (List.getElem?_eq_some_iff.mp e).1
  rw [List.getElem?_take_of_lt hi] at e
  have x := hr.obj i o e
  have c : o.clean h.length := by
    rcases g.2 i o hi e with z | z
    · have y := hr0.obj i o z
      cases o with
      | lst ds => obtain ⟨vs, _, r⟩ := y; exact cleans_of _ _ r
      | dct tk ks ws => rcases y with ⟨_, kvs, _, _, r⟩ | ⟨_, kvs, _, _, r⟩ <;> exact cleans_of _ _ r
      | ins c fs => exact y.elim
    · exact z
  rw [hl]
  cases o with
  | lst ds => obtain ⟨vs, a, r⟩ := x; exact ⟨vs, a, R0s_clean _ _ c r⟩
  | dct tk ks ws =>
    rcases x with ⟨t, kvs, a, b, r⟩ | ⟨t, kvs, a, b, r⟩
    · exact .inl ⟨t, kvs, a, b, R0s_clean _ _ c r⟩
    · exact .inr ⟨t, kvs, a, b, R0s_clean _ _ c r⟩
  | ins c fs => exact x.elim
theorem gc_ok {P : PD} {Q : VK} {d : D} {v : V} (hr0 : HRel K H R h) (post : Post K R h H P Q) (E : Ext K R h H R' h' H') (hr : HRel K H' R' h') (rt : RT K H' R' h'.length H d v) (g : Gc h d h' P) : Q v H' := by
  rcases g with g | ⟨c, g, q⟩ | ⟨k, xs, rfl, hk, ek, c, g, q⟩
  · exact post R' h' H' d v E hr rt g
  · have hl : (h'.take h.length).length = h.length := by rw [List.length_take]; exact Nat.min_eq_left g.1
    refine post R' _ H' d v E.take (hr0.take hr g) ?_ q
    rw [hl]
    cases d with
    | tl ds =>
      obtain ⟨a, vs, e1, n, z, r, ne⟩ := rt
      exact ⟨a, vs, e1, n, z, R0s_clean _ _ (by simpa only [D.clean] using c) r, fun i hi => ne i (Nat.lt_of_lt_of_le hi E.len)⟩
    | td tk ks ws =>
      obtain ⟨a, e1, n, z, ne⟩ := rt
      simp only [D.clean] at c
      refine ⟨a, e1, n, ?_, fun i hi => ne i (Nat.lt_of_lt_of_le hi E.len)⟩
      rcases z with ⟨t, kvs, a, b, r⟩ | ⟨t, kvs, a, b, r⟩
      · exact .inl ⟨t, kvs, a, b, R0s_clean _ _ c.2 r⟩
      · exact .inr ⟨t, kvs, a, b, R0s_clean _ _ c.2 r⟩
    | _ => exact R0_clean (n := h'.length) _ _ c rt
  · have hl : (h'.take h.length).length = h.length := by rw [List.length_take]; exact Nat.min_eq_left g.1
    obtain ⟨hi, rfl⟩ := rt.locE
    obtain ⟨_, vs, hw, r⟩ := hr.lst ek
    refine post R' _ H' (.tl xs) _ E.take (hr0.take hr g) ?_ q
    rw [hl]
    exact ⟨_, vs, rfl, E.fresh k hk hi, hw, R0s_clean _ _ c r, fun i hi2 z => by
      have := hr.inj i k (Nat.lt_of_lt_of_le hi2 E.len) hi z
      omega⟩
theorem start_rel {N : List Str} {ds : List D} {vs : List V} {n : Nat} (r : R0s K H R n ds vs) : SRel K H R n (startD N ds) (L2.start N vs) := by
  have hl := R0s_len r
  refine ⟨by unfold startD L2.start; simp [hl], fun i d e => ?_⟩
  unfold startD at e
  by_cases hi : i < ds.length
  · rw [List.getElem?_append_left (by simpa using hi), List.getElem?_map] at e
    cases q : ds[i]? with
    | none => rw [q] at e; cases e
    | some d' =>
      rw [q] at e
      cases e
      obtain ⟨v, ev, rv⟩ := R0s_get r q
      refine ⟨v, ?_, rv⟩
      unfold L2.start
      rw [List.getElem?_append_left (by simp; omega), List.getElem?_map, ev]
      rfl
  · rw [List.getElem?_append_right (by simpa using hi), List.getElem?_replicate] at e
    split at e <;> cases e
end

/-! ### every def keeps its promise -/
/-- what the top has left -/
structure Top (T : Tab) (F : List FD) (K : PySem.W.Frag) (mg : Str → Option Value) : Prop where
  bn : ∀ x ∈ T.bn, mg x = none
  ex : ∀ x id, T.ex.lookup x = some id → mg x = some (.builtin id)
  gl : ∀ x d, (x, d) ∈ T.gl → ∃ u v, mg x = some u ∧ RelV v u ∧ ∀ H R n, R0 K H R n d v
  fn : ∀ c ∈ F, ∃ fa fd, Fun K c.name c.name c.st fa fd ∧ mg c.name = some (.ref fa) ∧ Binds K fd c.ps []
/-- what is read off the text -/
structure Txts (T : Tab) (F : List FD) : Prop where
  names : T.fn = F.map (·.name)
  sc : ∀ c ∈ F, FnScope c.N c.ps (defScope c.st)
  chk : ∀ c ∈ F, chkB T c.N c.body (defScope c.st) (defBody c.st) = true
theorem fns_ok {P : Program} {w : World} {K : PySem.W.Frag} {mg : Str → Option Value} {base : Heap} {T : Tab} {F : List FD} (tx : Txts T F) (tp : Top T F K mg) : ∀ (d f : Nat) (c : FD) (fa : Addr) (fd : FuncData), F[f]? = some c → Fun K c.name c.name c.st fa fd →
    FnOk P w K mg base CX0 d fa fd c.ps (spD K (wpCall T.gl F d) f)
  | 0, f, c, fa, fd, hf, FF => ⟨fun vs H Q E ⟨_, _, _, _, _, _, z, _⟩ => z.elim, fun _ _ _ _ _ _ _ _ _ _ _ _ _ ⟨_, _, _, _, _, _, z, _⟩ => z.elim⟩
  | d + 1, f, c, fa, fd, hf, FF => by
    have hm : c ∈ F := List.mem_of_getElem? hf
    have S := tx.sc c hm
    refine FF.ok S (fun vs H Q E h => ?_) (fun cdv A outer s H vs Q E hroom h => ?_)
    · obtain ⟨R, h, ds, P0, r, hr, z, _⟩ := h
      rw [← R0s_len r]
      have z : (match F[f]? with | some c => ds.length = c.ps.length ∧ wpS (wpCall T.gl F d) T.gl c.body (endZ h P0) (startD c.N ds) h | none => False) := z
      rw [hf] at z
      exact z.1
    · obtain ⟨R, hh, ds, P0, r, hr, z, post⟩ := h
      have z : (match F[f]? with | some c => ds.length = c.ps.length ∧ wpS (wpCall T.gl F d) T.gl c.body (endZ hh P0) (startD c.N ds) hh | none => False) := z
      rw [hf] at z
      refine ⟨_, (sndS T (wpCall T.gl F d) c.N c.body).b (sc := defScope c.st) ?_ PassesOwn.never (tx.chk c hm), liftS_mk (start_rel r) hr z.2 ⟨fun R' h' H' τ' σ' E hr' _ g => ?_, fun R' h' H' dd v E hr' rt g => ?_, fun _ _ _ _ _ _ _ _ g => g.elim, fun _ _ _ _ _ _ _ _ g => g.elim⟩⟩
      · refine ⟨rfl, S.nd, rfl, S.kind, rfl, fun x hx => ⟨hx, .inl rfl⟩, hroom.units, tp.bn, tp.ex, tp.gl, fun g x hx => ?_⟩
        rw [tx.names, List.getElem?_map] at hx
        cases q : F[g]? with
        | none => rw [q] at hx; cases hx
        | some c2 =>
          rw [q] at hx
          cases hx
          obtain ⟨fa2, fd2, FF2, hmg, hb⟩ := tp.fn c2 (List.mem_of_getElem? q)
          exact ⟨fa2, fd2, c2.ps, d, fns_ok tx tp d g c2 fa2 fd2 q FF2, hroom, hmg, FF2.kp, hb⟩
      · exact gc_ok (d := .non) (v := .non) hr post E hr' (by simp only [RT, R0]) g
      · exact gc_ok hr post E hr' rt g
/-- the law's promise, from its reading at the script -/
theorem law_sp {K : PySem.W.Frag} {gl : List (Str × D)} {F : List FD} {d f : Nat} {H : Hp} {a : Addr} {ns : List Int} (hO : Only H) (hS : SqL K H a (ns.map V.int)) (h : wpCall gl F d f [.rl (ns.map D.int)] [] (fun v _ => v = .bl true)) :
    spD K (wpCall gl F d) f [.ref a] H (fun v _ => v = .bl true) fun _ _ _ => False := by
  refine ⟨fun _ => 0, [], [.rl (ns.map D.int)], _, ?_, ⟨fun i j hi _ _ => absurd hi (Nat.not_lt_zero _), fun i o e => by simp at e⟩, h, fun R' h' H' d v E hr rt q => ?_⟩
  · simp only [R0s, R0]
    refine ⟨.ref a, [], rfl, ⟨a, ns.map V.int, rfl, ?_, ?_⟩, rfl⟩
    · rcases hS with (hS | ⟨o, hS⟩) | hS
      · rcases hO a with z | ⟨o, xs, z⟩
        · rw [z] at hS; cases hS
        · rw [z] at hS; cases hS
      · exact .inl ⟨o, hS⟩
      · exact .inr hS
    · clear hS h
      induction ns with
      | nil => simp [R0s]
      | cons n ns ih => simp only [List.map_cons, R0s, R0]; exact ⟨_, _, rfl, rfl, ih⟩
  · have q : d = .bl true := q
    subst q
    exact rt.blE
end Py

namespace Py
open PySem PySem.Spec PyProof.Rows L2

/-! ### rules of reading -/
theorem mem_of_lookup {α β : Type} [BEq α] [LawfulBEq α] {a : α} {b : β} : ∀ {l : List (α × β)}, l.lookup a = some b → (a, b) ∈ l
  | (c, d) :: l, h => by
    simp only [List.lookup] at h
    split at h
    · rename_i q; cases h; have := eq_of_beq q; subst this; exact List.mem_cons_self
    · exact List.mem_cons_of_mem _ (mem_of_lookup h)
theorem wx_pack : ∃ W : CallD → List (Str × D) → CE → RD, W = wp := ⟨wp, rfl⟩
noncomputable def wx : CallD → List (Str × D) → CE → RD := Classical.choose wx_pack
theorem wx_eq : wx = wp := Classical.choose_spec wx_pack
theorem ws_pack : ∃ W : CallD → List (Str × D) → CS → TSd, W = wpS := ⟨wpS, rfl⟩
noncomputable def ws : CallD → List (Str × D) → CS → TSd := Classical.choose ws_pack
theorem ws_eq : ws = wpS := Classical.choose_spec ws_pack
theorem px_pack : ∃ W : Prim → List D → Hd → PD → Prop, W = wpP := ⟨wpP, rfl⟩
noncomputable def px : Prim → List D → Hd → PD → Prop := Classical.choose px_pack
theorem px_eq : px = wpP := Classical.choose_spec px_pack
theorem call_of {gl : List (Str × D)} {F : List FD} {d f : Nat} {c : FD} {args : List D} {h : Hd} {Q : PD} (hf : F[f]? = some c) (hl : args.length = c.ps.length) (b : ws (wpCall gl F d) gl c.body (endZ h Q) (startD c.N args) h) : wpCall gl F (d + 1) f args h Q := by
  rw [ws_eq] at b
  show (match F[f]? with | some c => args.length = c.ps.length ∧ wpS (wpCall gl F d) gl c.body (endZ h Q) (startD c.N args) h | none => False)
  rw [hf]
  exact ⟨hl, b⟩
theorem gc_same {h h' : Hd} {v : D} {Q : PD} (q : Q v h') : Gc h v h' Q := .inl q
def atQ (o : Option D) (Q : PD) (h : Hd) : Prop := match o with
  | some v => Q v h
  | none => False
def lstQ (o : Option DO) (k : List D → Prop) : Prop := match o with
  | some (.lst xs) => k xs
  | _ => False
@[simp ↓] theorem lstQ_def {o : Option DO} {k : List D → Prop} : lstQ o k = (match o with | some (.lst xs) => k xs | _ => False) := rfl
@[simp] theorem lstQ_some {xs : List D} {k : List D → Prop} : lstQ (some (.lst xs)) k = k xs := rfl
def natQ (o : Option Nat) (k : Nat → Prop) : Prop := match o with
  | some n => k n
  | none => False
@[simp ↓] theorem natQ_def {o : Option Nat} {k : Nat → Prop} : natQ o k = (match o with | some n => k n | none => False) := rfl
@[simp] theorem natQ_some {n : Nat} {k : Nat → Prop} : natQ (some n) k = k n := rfl
@[simp ↓] theorem atQ_def {o : Option D} {Q : PD} {h : Hd} : atQ o Q h = (match o with | some v => Q v h | none => False) := rfl
def blQ (d : D) (k : Bool → Prop) : Prop := match d with
  | .bl b => k b
  | _ => False
theorem blQ_eq {d : D} {k : Bool → Prop} : (∃ b, d = .bl b ∧ k b) = blQ d k := by
  cases d <;> simp [blQ]
@[simp ↓] theorem blQ_bl {b : Bool} {k : Bool → Prop} : blQ (.bl b) k = k b := rfl
@[simp] theorem atQ_some {v : D} {Q : PD} {h : Hd} : atQ (some v) Q h = Q v h := rfl
theorem str_beq {a b : List Char} (h : a ≠ b) : (String.ofList a == String.ofList b) = false := beq_eq_false_iff_ne.mpr fun e => h (String.ofList_inj.mp e)
theorem sq_int_bool : (("int" : String) == "bool") = false := str_beq (by decide)
theorem sq_int_str : (("int" : String) == "str") = false := str_beq (by decide)
theorem sq_int_tuple : (("int" : String) == "tuple") = false := str_beq (by decide)
theorem sq_int_list : (("int" : String) == "list") = false := str_beq (by decide)
theorem sq_int_dict : (("int" : String) == "dict") = false := str_beq (by decide)
theorem sq_int_NoneType : (("int" : String) == "NoneType") = false := str_beq (by decide)
theorem sq_int_int : (("int" : String) == "int") = true := beq_self_eq_true _
theorem sq_bool_int : (("bool" : String) == "int") = false := str_beq (by decide)
theorem sq_bool_str : (("bool" : String) == "str") = false := str_beq (by decide)
theorem sq_bool_tuple : (("bool" : String) == "tuple") = false := str_beq (by decide)
theorem sq_bool_list : (("bool" : String) == "list") = false := str_beq (by decide)
theorem sq_bool_dict : (("bool" : String) == "dict") = false := str_beq (by decide)
theorem sq_bool_NoneType : (("bool" : String) == "NoneType") = false := str_beq (by decide)
theorem sq_bool_bool : (("bool" : String) == "bool") = true := beq_self_eq_true _
theorem sq_str_int : (("str" : String) == "int") = false := str_beq (by decide)
theorem sq_str_bool : (("str" : String) == "bool") = false := str_beq (by decide)
theorem sq_str_tuple : (("str" : String) == "tuple") = false := str_beq (by decide)
theorem sq_str_list : (("str" : String) == "list") = false := str_beq (by decide)
theorem sq_str_dict : (("str" : String) == "dict") = false := str_beq (by decide)
theorem sq_str_NoneType : (("str" : String) == "NoneType") = false := str_beq (by decide)
theorem sq_str_str : (("str" : String) == "str") = true := beq_self_eq_true _
theorem sq_tuple_int : (("tuple" : String) == "int") = false := str_beq (by decide)
theorem sq_tuple_bool : (("tuple" : String) == "bool") = false := str_beq (by decide)
theorem sq_tuple_str : (("tuple" : String) == "str") = false := str_beq (by decide)
theorem sq_tuple_list : (("tuple" : String) == "list") = false := str_beq (by decide)
theorem sq_tuple_dict : (("tuple" : String) == "dict") = false := str_beq (by decide)
theorem sq_tuple_NoneType : (("tuple" : String) == "NoneType") = false := str_beq (by decide)
theorem sq_tuple_tuple : (("tuple" : String) == "tuple") = true := beq_self_eq_true _
theorem sq_list_int : (("list" : String) == "int") = false := str_beq (by decide)
theorem sq_list_bool : (("list" : String) == "bool") = false := str_beq (by decide)
theorem sq_list_str : (("list" : String) == "str") = false := str_beq (by decide)
theorem sq_list_tuple : (("list" : String) == "tuple") = false := str_beq (by decide)
theorem sq_list_dict : (("list" : String) == "dict") = false := str_beq (by decide)
theorem sq_list_NoneType : (("list" : String) == "NoneType") = false := str_beq (by decide)
theorem sq_list_list : (("list" : String) == "list") = true := beq_self_eq_true _
theorem sq_dict_int : (("dict" : String) == "int") = false := str_beq (by decide)
theorem sq_dict_bool : (("dict" : String) == "bool") = false := str_beq (by decide)
theorem sq_dict_str : (("dict" : String) == "str") = false := str_beq (by decide)
theorem sq_dict_tuple : (("dict" : String) == "tuple") = false := str_beq (by decide)
theorem sq_dict_list : (("dict" : String) == "list") = false := str_beq (by decide)
theorem sq_dict_NoneType : (("dict" : String) == "NoneType") = false := str_beq (by decide)
theorem sq_dict_dict : (("dict" : String) == "dict") = true := beq_self_eq_true _
/-- what follows, kept shut -/
noncomputable def nxt (cl : CallD) (gl : List (Str × D)) (c : CS) : TSd := ws cl gl c
section
variable {cl : CallD} {gl : List (Str × D)} {τ : Sd} {h : Hd} {Z : Endd} {Q : PD}
theorem nxt_of {c : CS} (q : ws cl gl c Z τ h) : nxt cl gl c Z τ h := q
@[simp ↓ high] theorem r_seq1 {s : CS} : ws cl gl (.seq s .nil) Z τ h = ws cl gl s Z τ h := by (try simp only [nxt, wx_eq, ws_eq, px_eq]) <;> rfl
@[simp ↓] theorem r_seq {s r : CS} : ws cl gl (.seq s r) Z τ h = ws cl gl s ⟨nxt cl gl r Z, Z.rt, Z.bk, Z.ct⟩ τ h := by (try simp only [nxt, wx_eq, ws_eq, px_eq]) <;> rfl
@[simp ↓] theorem r_nil : ws cl gl .nil Z τ h = Z.nx τ h := by (try simp only [nxt, wx_eq, ws_eq, px_eq]) <;> rfl
@[simp ↓] theorem n_nil : nxt cl gl .nil Z τ h = Z.nx τ h := by simp only [nxt, ws_eq]; rfl
@[simp ↓] theorem z_nx {v : D} : (endZ h Q).nx τ = fun h' => Gc h .non h' Q := rfl
@[simp ↓] theorem z_rt : (endZ h Q).rt = fun v h' => Gc h v h' Q := rfl
@[simp ↓] theorem r_pass : ws cl gl .pass Z τ h = Z.nx τ h := by (try simp only [nxt, wx_eq, ws_eq, px_eq]) <;> rfl
@[simp ↓] theorem r_brk : ws cl gl .brk Z τ h = Z.bk τ h := by (try simp only [nxt, wx_eq, ws_eq, px_eq]) <;> rfl
@[simp ↓] theorem r_cont : ws cl gl .cont Z τ h = Z.ct τ h := by (try simp only [nxt, wx_eq, ws_eq, px_eq]) <;> rfl
@[simp ↓] theorem r_expr {e : CE} : ws cl gl (.expr e) Z τ h = (wx cl gl e).e τ h fun _ h1 => Z.nx τ h1 := by (try simp only [nxt, wx_eq, ws_eq, px_eq]) <;> rfl
@[simp ↓] theorem r_asg {i : Nat} {e : CE} : ws cl gl (.asg (.nm i) e) Z τ h = (wx cl gl e).e τ h fun d h1 => mat d h1 fun d' h2 => Z.nx (τ.set i (some d')) h2 := by (try simp only [nxt, wx_eq, ws_eq, px_eq]) <;> rfl
@[simp ↓] theorem r_asgt {is : List Nat} {e : CE} : ws cl gl (.asg (.tp is) e) Z τ h = (wx cl gl e).e τ h fun d h1 => mat d h1 fun d' h2 => bindW (.tp is) d' τ fun τ' => Z.nx τ' h2 := by (try simp only [nxt, wx_eq, ws_eq, px_eq]) <;> rfl
@[simp ↓] theorem r_asgs {is : List Nat} {as : CE} : ws cl gl (.asgs is as) Z τ h = (wx cl gl as).a true τ h fun ds h1 => (ds.length = is.length ∧ ds.length ≤ sizeLine) ∧ Z.nx (setAll τ is ds) h1 := by (try simp only [nxt, wx_eq, ws_eq, px_eq]) <;> rfl
@[simp ↓] theorem r_setIdx {o i e : CE} : ws cl gl (.setIdx o i e) Z τ h = (wx cl gl e).e τ h fun d h1 => mat d h1 fun d' h2 => (wx cl gl o).e τ h2 fun x h3 => (wx cl gl i).e τ h3 fun y h4 => setIdxW x y d' h4 fun h5 => Z.nx τ h5 := by (try simp only [nxt, wx_eq, ws_eq, px_eq]) <;> rfl
@[simp ↓] theorem r_aug {i : Nat} {p : Prim} {e : CE} : ws cl gl (.aug i p e) Z τ h = (match τ[i]? with
  | some (some x) => (wx cl gl e).e τ h fun y h1 => augW p x y h1 fun z h2 => Z.nx (τ.set i (some z)) h2
  | _ => False) := by (try simp only [nxt, wx_eq, ws_eq, px_eq]) <;> rfl
@[simp ↓] theorem r_ret {e : CE} : ws cl gl (.ret e) Z τ h = (wx cl gl e).e τ h Z.rt := by (try simp only [nxt, wx_eq, ws_eq, px_eq]) <;> rfl
@[simp ↓] theorem r_retN : ws cl gl .retN Z τ h = Z.rt .non h := by (try simp only [nxt, wx_eq, ws_eq, px_eq]) <;> rfl
@[simp ↓] theorem r_ite {t : CE} {a b : CS} : ws cl gl (.ite t a b) Z τ h = (wx cl gl t).t τ h fun k h1 => if k = true then nxt cl gl a Z τ h1 else nxt cl gl b Z τ h1 := by (try simp only [nxt, wx_eq, ws_eq, px_eq]) <;> rfl
@[simp ↓] theorem r_while {t : CE} {b : CS} : ws cl gl (.whil t b) Z τ h = whileW (wx cl gl t).t (ws cl gl b) Z τ h := by (try simp only [nxt, wx_eq, ws_eq, px_eq]) <;> rfl
@[simp ↓] theorem r_for {p : Pat} {it : CE} {b : CS} : ws cl gl (.forr p it b) Z τ h = (wx cl gl it).i τ h fun w h1 => forW w.ok p (ws cl gl b) Z w.xs τ h1 := by (try simp only [nxt, wx_eq, ws_eq, px_eq]) <;> rfl
/-! expressions -/
@[simp ↓] theorem e_var {i : Nat} : (wx cl gl (.var i)).e τ h Q = (match τ[i]? with | some (some d) => Q d h | _ => False) := by (try simp only [nxt, wx_eq, ws_eq, px_eq]) <;> rfl
@[simp ↓] theorem e_cst {d : D} : (wx cl gl (.cst d)).e τ h Q = Q d h := by (try simp only [nxt, wx_eq, ws_eq, px_eq]) <;> rfl
@[simp ↓] theorem e_glob {i : Nat} : (wx cl gl (.glob i)).e τ h Q = (match gl[i]? with | some (_, d) => Q d h | none => False) := by (try simp only [nxt, wx_eq, ws_eq, px_eq]) <;> rfl
@[simp ↓] theorem e_tup {as : CE} : (wx cl gl (.tup as)).e τ h Q = (wx cl gl as).a true τ h fun ds h' => ds.length ≤ sizeLine ∧ Q (.tup ds) h' := by (try simp only [nxt, wx_eq, ws_eq, px_eq]) <;> rfl
@[simp ↓] theorem e_lst {as : CE} : (wx cl gl (.lst as)).e τ h Q = (wx cl gl as).a true τ h fun ds h' => ds.length ≤ sizeLine ∧ Q (.tl ds) h' := by (try simp only [nxt, wx_eq, ws_eq, px_eq]) <;> rfl
@[simp ↓] theorem e_prim {p : Prim} {as : CE} : (wx cl gl (.prim p as)).e τ h Q = (wx cl gl as).a false τ h fun ds h' => px p ds h' Q := by (try simp only [nxt, wx_eq, ws_eq, px_eq]) <;> rfl
@[simp ↓] theorem e_meth {m : MP} {o as : CE} : (wx cl gl (.meth m o as)).e τ h Q = (wx cl gl o).e τ h fun x h1 => tyM m h1 x ∧ (wx cl gl as).a true τ h1 fun ds h2 => wpM m x ds h2 Q := by (try simp only [nxt, wx_eq, ws_eq, px_eq]) <;> rfl
@[simp ↓] theorem e_call {f : Nat} {as : CE} : (wx cl gl (.call f as)).e τ h Q = (wx cl gl as).a true τ h fun ds h' => cl f ds h' Q := by (try simp only [nxt, wx_eq, ws_eq, px_eq]) <;> rfl
@[simp ↓] theorem e_ife {t a b : CE} : (wx cl gl (.ife t a b)).e τ h Q = (wx cl gl t).t τ h fun k h' => if k = true then (wx cl gl a).e τ h' Q else (wx cl gl b).e τ h' Q := by (try simp only [nxt, wx_eq, ws_eq, px_eq]) <;> rfl
@[simp ↓] theorem e_and {a b : CE} : (wx cl gl (.and_ a b)).e τ h Q = (wx cl gl a).e τ h fun d h' => blQ d fun k => if k = true then (wx cl gl b).e τ h' Q else Q (.bl false) h' := by simp only [← blQ_eq, wx_eq, px_eq]; rfl
@[simp ↓] theorem e_or {a b : CE} : (wx cl gl (.or_ a b)).e τ h Q = (wx cl gl a).e τ h fun d h' => blQ d fun k => if k = true then Q (.bl true) h' else (wx cl gl b).e τ h' Q := by simp only [← blQ_eq, wx_eq, px_eq]; rfl
@[simp ↓] theorem e_not {a : CE} : (wx cl gl (.not_ a)).e τ h Q = (wx cl gl a).e τ h fun d h' => blQ d fun k => Q (.bl (!k)) h' := by simp only [← blQ_eq, wx_eq, px_eq]; rfl
@[simp ↓] theorem e_chain {p q : Prim} {a b c : CE} : (wx cl gl (.chain p q a b c)).e τ h Q = (wx cl gl a).e τ h fun x h1 => (wx cl gl b).e τ h1 fun y h2 => px p [x, y] h2 fun r h3 => blQ r fun k =>
      if k = true then (wx cl gl c).e τ h3 fun z h4 => px q [y, z] h4 Q else Q (.bl false) h3 := by simp only [← blQ_eq, wx_eq, px_eq]; rfl
@[simp ↓] theorem e_sl2 {a b c : CE} : (wx cl gl (.sl2 a b c)).e τ h Q = (wx cl gl a).e τ h fun x h1 => (wx cl gl b).e τ h1 fun y h2 => match y with
  | .int i => (wx cl gl c).e τ h2 fun z h3 => match z with
    | .int j => slW x (some i) (some j) h3 Q
    | _ => False
  | _ => False := by (try simp only [nxt, wx_eq, ws_eq, px_eq]) <;> rfl
@[simp ↓] theorem e_comp {p : Pat} {it c elt : CE} : (wx cl gl (.comp p it none c elt)).e τ h Q = (wx cl gl it).i τ h fun w h1 => compW w.ok p yesT (wx cl gl elt).e (wipeD τ p.ix) (fun acc h2 => Q (.tl acc) h2) w.xs [] h1 := by (try simp only [nxt, wx_eq, ws_eq, px_eq]) <;> rfl
@[simp ↓] theorem e_compf {p : Pat} {it c elt : CE} : (wx cl gl (.comp p it (some ()) c elt)).e τ h Q = (wx cl gl it).i τ h fun w h1 => compW w.ok p (wx cl gl c).t (wx cl gl elt).e (wipeD τ p.ix) (fun acc h2 => Q (.tl acc) h2) w.xs [] h1 := by (try simp only [nxt, wx_eq, ws_eq, px_eq]) <;> rfl
/-! arguments -/
@[simp ↓] theorem a_nil {m : Bool} {Q : List D → Hd → Prop} : (wx cl gl .anil).a m τ h Q = Q [] h := by rw [wx_eq]; cases m <;> rfl
@[simp ↓] theorem a_consT {e r : CE} {Q : List D → Hd → Prop} : (wx cl gl (.acons e r)).a true τ h Q = (wx cl gl e).e τ h fun d h1 => mat d h1 fun d' h2 => (wx cl gl r).a true τ h2 fun ds h3 => Q (d' :: ds) h3 := by (try simp only [nxt, wx_eq, ws_eq, px_eq]) <;> rfl
@[simp ↓] theorem a_consF {e r : CE} {Q : List D → Hd → Prop} : (wx cl gl (.acons e r)).a false τ h Q = (wx cl gl e).e τ h fun d h1 => (wx cl gl r).a false τ h1 fun ds h3 => Q (d :: ds) h3 := by (try simp only [nxt, wx_eq, ws_eq, px_eq]) <;> rfl
/-! tests -/
section
variable {Q : Bool → Hd → Prop}
def tr (Q : Bool → Hd → Prop) : PD := fun d h => match truth h d with | some k => Q k h | none => False
@[simp ↓] theorem tr_bl {b : Bool} : tr Q (.bl b) h = Q b h := rfl
@[simp ↓] theorem tr_int {i : Int} : tr Q (.int i) h = Q (i != 0) h := rfl
@[simp ↓] theorem tr_non : tr Q .non h = Q false h := rfl
@[simp ↓] theorem tr_tup {xs : List D} : tr Q (.tup xs) h = Q (!xs.isEmpty) h := rfl
@[simp ↓] theorem tr_tl {xs : List D} : tr Q (.tl xs) h = Q (!xs.isEmpty) h := rfl
@[simp ↓] theorem tr_loc {a : Nat} : tr Q (.loc a) h = lstQ h[a]? fun xs => Q (!xs.isEmpty) h := by
  simp only [tr, truth, lstOf, lstQ]
  try (rcases h[a]? with _ | ⟨_ | _ | _⟩ <;> rfl)
@[simp ↓] theorem t_var {i : Nat} : (wx cl gl (.var i)).t τ h Q = (match τ[i]? with | some (some d) => tr Q d h | _ => False) := by (try simp only [nxt, wx_eq, ws_eq, px_eq]) <;> rfl
@[simp ↓] theorem t_cst {d : D} : (wx cl gl (.cst d)).t τ h Q = tr Q d h := by (try simp only [nxt, wx_eq, ws_eq, px_eq]) <;> rfl
@[simp ↓] theorem t_prim {p : Prim} {as : CE} : (wx cl gl (.prim p as)).t τ h Q = (wx cl gl as).a false τ h fun ds h' => px p ds h' (tr Q) := by (try simp only [nxt, wx_eq, ws_eq, px_eq]) <;> rfl
@[simp ↓] theorem t_call {f : Nat} {as : CE} : (wx cl gl (.call f as)).t τ h Q = (wx cl gl as).a true τ h fun ds h' => cl f ds h' (tr Q) := by (try simp only [nxt, wx_eq, ws_eq, px_eq]) <;> rfl
@[simp ↓] theorem t_and {a b : CE} : (wx cl gl (.and_ a b)).t τ h Q = (wx cl gl a).t τ h fun k h' => if k = true then (wx cl gl b).t τ h' Q else Q false h' := by (try simp only [nxt, wx_eq, ws_eq, px_eq]) <;> rfl
@[simp ↓] theorem t_or {a b : CE} : (wx cl gl (.or_ a b)).t τ h Q = (wx cl gl a).t τ h fun k h' => if k = true then Q true h' else (wx cl gl b).t τ h' Q := by (try simp only [nxt, wx_eq, ws_eq, px_eq]) <;> rfl
@[simp ↓] theorem t_not {a : CE} : (wx cl gl (.not_ a)).t τ h Q = (wx cl gl a).t τ h fun k h' => Q (!k) h' := by (try simp only [nxt, wx_eq, ws_eq, px_eq]) <;> rfl
@[simp ↓] theorem t_chain {p q : Prim} {a b c : CE} : (wx cl gl (.chain p q a b c)).t τ h Q = (wx cl gl a).e τ h fun x h1 => (wx cl gl b).e τ h1 fun y h2 => px p [x, y] h2 fun r h3 => blQ r fun k =>
      if k = true then (wx cl gl c).e τ h3 fun z h4 => px q [y, z] h4 (tr Q) else tr Q (.bl false) h3 := by simp only [← blQ_eq, wx_eq, px_eq]; rfl
@[simp ↓] theorem t_tup {as : CE} : (wx cl gl (.tup as)).t τ h Q = (wx cl gl as).a true τ h fun ds h' => ds.length ≤ sizeLine ∧ tr Q (.tup ds) h' := by (try simp only [nxt, wx_eq, ws_eq, px_eq]) <;> rfl
@[simp ↓] theorem t_comp {p : Pat} {it c elt : CE} : (wx cl gl (.comp p it none c elt)).t τ h Q = (wx cl gl it).i τ h fun w h1 => compW w.ok p yesT (wx cl gl elt).e (wipeD τ p.ix) (fun acc h2 => tr Q (.tl acc) h2) w.xs [] h1 := by (try simp only [nxt, wx_eq, ws_eq, px_eq]) <;> rfl
@[simp ↓] theorem t_compf {p : Pat} {it c elt : CE} : (wx cl gl (.comp p it (some ()) c elt)).t τ h Q = (wx cl gl it).i τ h fun w h1 => compW w.ok p (wx cl gl c).t (wx cl gl elt).e (wipeD τ p.ix) (fun acc h2 => tr Q (.tl acc) h2) w.xs [] h1 := by (try simp only [nxt, wx_eq, ws_eq, px_eq]) <;> rfl
end
/-! what is walked -/
section
variable {Q : Iter → Hd → Prop}
def it (Q : Iter → Hd → Prop) : PD := fun d h => match d with
    | .tup xs => Q (.vals xs) h
    | .tl xs => Q (.vals xs) h
    | .rl xs => Q (.vals xs) h
    | .str x => x.length ≤ sizeLine ∧ Q (.vals (chrs x)) h
    | .loc a => match h[a]? with
      | some (.lst xs) => Q (.live a xs) h
      | _ => False
    | _ => False
@[simp ↓] theorem it_tup {xs : List D} : it Q (.tup xs) h = Q (.vals xs) h := rfl
@[simp ↓] theorem it_tl {xs : List D} : it Q (.tl xs) h = Q (.vals xs) h := rfl
@[simp ↓] theorem it_rl {xs : List D} : it Q (.rl xs) h = Q (.vals xs) h := rfl
@[simp ↓] theorem it_loc {a : Nat} : it Q (.loc a) h = lstQ h[a]? fun xs => Q (.live a xs) h := by
  simp only [it, lstQ]
@[simp ↓] theorem i_var {i : Nat} : (wx cl gl (.var i)).i τ h Q = (match τ[i]? with | some (some d) => it Q d h | _ => False) := by (try simp only [nxt, wx_eq, ws_eq, px_eq]) <;> rfl
@[simp ↓] theorem i_cst {d : D} : (wx cl gl (.cst d)).i τ h Q = it Q d h := by (try simp only [nxt, wx_eq, ws_eq, px_eq]) <;> rfl
@[simp ↓] theorem i_tup {as : CE} : (wx cl gl (.tup as)).i τ h Q = (wx cl gl as).a true τ h fun ds h' => ds.length ≤ sizeLine ∧ Q (.vals ds) h' := by (try simp only [nxt, wx_eq, ws_eq, px_eq]) <;> rfl
@[simp ↓] theorem i_lst {as : CE} : (wx cl gl (.lst as)).i τ h Q = (wx cl gl as).a true τ h fun ds h' => ds.length ≤ sizeLine ∧ Q (.vals ds) h' := by (try simp only [nxt, wx_eq, ws_eq, px_eq]) <;> rfl
@[simp ↓] theorem i_prim {p : Prim} {as : CE} : (wx cl gl (.prim p as)).i τ h Q = (wx cl gl as).a false τ h fun ds h' => px p ds h' (it Q) := by (try simp only [nxt, wx_eq, ws_eq, px_eq]) <;> rfl
@[simp ↓] theorem i_call {f : Nat} {as : CE} : (wx cl gl (.call f as)).i τ h Q = (wx cl gl as).a true τ h fun ds h' => cl f ds h' (it Q) := by (try simp only [nxt, wx_eq, ws_eq, px_eq]) <;> rfl
@[simp ↓] theorem i_r1 {a : CE} : (wx cl gl (.r1 a)).i τ h Q = (wx cl gl a).e τ h fun d h' => match d with | .int n => (-(2 ^ 62) ≤ n ∧ n < 2 ^ 62) ∧ Q (.vals (rangeD 0 n.toNat)) h' | _ => False := by (try simp only [nxt, wx_eq, ws_eq, px_eq]) <;> rfl
@[simp ↓] theorem i_r2 {a b : CE} : (wx cl gl (.r2 a b)).i τ h Q = (wx cl gl a).e τ h fun x h1 => (wx cl gl b).e τ h1 fun y h2 => match x, y with
    | .int i, .int j => (-(2 ^ 62) ≤ i ∧ i < 2 ^ 62 ∧ -(2 ^ 62) ≤ j ∧ j < 2 ^ 62) ∧ Q (.vals (rangeD i (j - i).toNat)) h2
    | _, _ => False := by (try simp only [nxt, wx_eq, ws_eq, px_eq]) <;> rfl
@[simp ↓] theorem ok_vals {xs : List D} : (Iter.vals xs).ok h = True := rfl
@[simp ↓] theorem xs_vals {xs : List D} : (Iter.vals xs).xs = xs := rfl
@[simp ↓] theorem ok_live {a : Nat} {xs : List D} : (Iter.live a xs).ok h = (h[a]? = some (.lst xs)) := rfl
@[simp ↓] theorem xs_live {a : Nat} {xs : List D} : (Iter.live a xs).xs = xs := rfl
end
/-! binding, places -/
@[simp ↓] theorem b_nm {i : Nat} {d : D} {k : Sd → Prop} : bindW (.nm i) d τ k = k (τ.set i (some d)) := rfl
@[simp ↓] theorem b_tp {is : List Nat} {ds : List D} {k : Sd → Prop} : bindW (.tp is) (.tup ds) τ k = (ds.length = is.length ∧ k (setAll τ is ds)) := rfl
@[simp ↓] theorem sa_nil {ds : List D} : setAll τ [] ds = τ := by cases ds <;> rfl
@[simp ↓] theorem sa_nil2 {is : List Nat} : setAll τ is [] = τ := by cases is <;> rfl
@[simp ↓] theorem sa_cons {i : Nat} {is : List Nat} {d : D} {ds : List D} : setAll τ (i :: is) (d :: ds) = setAll (τ.set i (some d)) is ds := rfl
@[simp ↓] theorem pix_nm {i : Nat} : (Pat.nm i).ix = [i] := rfl
@[simp ↓] theorem pix_tp {is : List Nat} : (Pat.tp is).ix = is := rfl
@[simp ↓] theorem wi_nil : wipeD τ [] = τ := rfl
@[simp ↓] theorem wi_cons {i : Nat} {is : List Nat} : wipeD τ (i :: is) = (wipeD τ is).set i none := rfl
@[simp ↓] theorem m_non : mat .non h Q = Q .non h := rfl
@[simp ↓] theorem m_bl {b : Bool} : mat (.bl b) h Q = Q (.bl b) h := rfl
@[simp ↓] theorem m_int {b : Int} : mat (.int b) h Q = Q (.int b) h := rfl
@[simp ↓] theorem m_str {b : Str} : mat (.str b) h Q = Q (.str b) h := rfl
@[simp ↓] theorem m_tup {b : List D} : mat (.tup b) h Q = Q (.tup b) h := rfl
@[simp ↓] theorem m_rl {b : List D} : mat (.rl b) h Q = Q (.rl b) h := rfl
@[simp ↓] theorem m_loc {b : Nat} : mat (.loc b) h Q = Q (.loc b) h := rfl
@[simp ↓] theorem m_tl {xs : List D} : mat (.tl xs) h Q = Q (.loc h.length) (h ++ [.lst xs]) := rfl
/-! operators -/
@[simp ↓] theorem x_add {i j : Int} : px .add [.int i, .int j] h Q = Q (.int (i + j)) h := by (try simp only [nxt, wx_eq, ws_eq, px_eq]) <;> rfl
@[simp ↓] theorem x_sub {i j : Int} : px .sub [.int i, .int j] h Q = Q (.int (i - j)) h := by (try simp only [nxt, wx_eq, ws_eq, px_eq]) <;> rfl
@[simp ↓] theorem x_mul {i j : Int} : px .mul [.int i, .int j] h Q = (mulOk i j ∧ Q (.int (i * j)) h) := by (try simp only [nxt, wx_eq, ws_eq, px_eq]) <;> rfl
@[simp ↓] theorem x_fdiv {i j : Int} : px .fdiv [.int i, .int j] h Q = (divOk j ∧ Q (.int (i.fdiv j)) h) := by (try simp only [nxt, wx_eq, ws_eq, px_eq]) <;> rfl
@[simp ↓] theorem x_mod {i j : Int} : px .mod [.int i, .int j] h Q = (j ≠ 0 ∧ Q (.int (i.fmod j)) h) := by (try simp only [nxt, wx_eq, ws_eq, px_eq]) <;> rfl
@[simp ↓] theorem x_pow {i j : Int} : px .pow [.int i, .int j] h Q = ((0 ≤ j ∧ j ≤ 1000000 ∧ i.natAbs < 2 ^ 64) ∧ Q (.int (i ^ j.toNat)) h) := by (try simp only [nxt, wx_eq, ws_eq, px_eq]) <;> rfl
@[simp ↓] theorem x_neg {i : Int} : px .neg [.int i] h Q = Q (.int (-i)) h := by (try simp only [nxt, wx_eq, ws_eq, px_eq]) <;> rfl
@[simp ↓] theorem x_eq {i j : Int} : px .eq [.int i, .int j] h Q = Q (.bl (decide (i = j))) h := by (try simp only [nxt, wx_eq, ws_eq, px_eq]) <;> rfl
@[simp ↓] theorem x_eqS {i j : Str} : px .eq [.str i, .str j] h Q = Q (.bl (decide (i = j))) h := by (try simp only [nxt, wx_eq, ws_eq, px_eq]) <;> rfl
@[simp ↓] theorem x_eqB {i j : Bool} : px .eq [.bl i, .bl j] h Q = Q (.bl (decide (i = j))) h := by (try simp only [nxt, wx_eq, ws_eq, px_eq]) <;> rfl
@[simp ↓] theorem x_ne {i j : Int} : px .ne [.int i, .int j] h Q = Q (.bl (!decide (i = j))) h := by (try simp only [nxt, wx_eq, ws_eq, px_eq]) <;> rfl
@[simp ↓] theorem x_neS {i j : Str} : px .ne [.str i, .str j] h Q = Q (.bl (!decide (i = j))) h := by (try simp only [nxt, wx_eq, ws_eq, px_eq]) <;> rfl
@[simp ↓] theorem x_neB {i j : Bool} : px .ne [.bl i, .bl j] h Q = Q (.bl (!decide (i = j))) h := by (try simp only [nxt, wx_eq, ws_eq, px_eq]) <;> rfl
@[simp ↓] theorem x_lt {i j : Int} : px .lt [.int i, .int j] h Q = Q (.bl (decide (i < j))) h := by (try simp only [nxt, wx_eq, ws_eq, px_eq]) <;> rfl
@[simp ↓] theorem x_le {i j : Int} : px .le [.int i, .int j] h Q = Q (.bl (decide (i ≤ j))) h := by (try simp only [nxt, wx_eq, ws_eq, px_eq]) <;> rfl
@[simp ↓] theorem x_gt {i j : Int} : px .gt [.int i, .int j] h Q = Q (.bl (decide (j < i))) h := by (try simp only [nxt, wx_eq, ws_eq, px_eq]) <;> rfl
@[simp ↓] theorem x_ge {i j : Int} : px .ge [.int i, .int j] h Q = Q (.bl (decide (j ≤ i))) h := by (try simp only [nxt, wx_eq, ws_eq, px_eq]) <;> rfl
@[simp ↓] theorem x_isN {x : D} : px .is_ [x, .non] h Q = Q (.bl (isNonD x)) h := by (try simp only [nxt, wx_eq, ws_eq, px_eq]) <;> rfl
@[simp ↓] theorem x_isB {x : D} {b : Bool} : px .is_ [x, .bl b] h Q = Q (.bl (isBlD b x)) h := by (try simp only [nxt, wx_eq, ws_eq, px_eq]) <;> rfl
@[simp ↓] theorem x_isnotN {x : D} : px .isnot [x, .non] h Q = Q (.bl (!isNonD x)) h := by (try simp only [nxt, wx_eq, ws_eq, px_eq]) <;> rfl
@[simp ↓] theorem x_isnotB {x : D} {b : Bool} : px .isnot [x, .bl b] h Q = Q (.bl (!isBlD b x)) h := by (try simp only [nxt, wx_eq, ws_eq, px_eq]) <;> rfl
@[simp ↓] theorem x_abs {i : Int} : px .abs [.int i] h Q = Q (.int (if i < 0 then -i else i)) h := by (try simp only [nxt, wx_eq, ws_eq, px_eq]) <;> rfl
@[simp ↓] theorem x_int {i : Int} : px .int1 [.int i] h Q = Q (.int i) h := by (try simp only [nxt, wx_eq, ws_eq, px_eq]) <;> rfl
@[simp ↓] theorem x_intB {b : Bool} : px .int1 [.bl b] h Q = Q (.int (if b then 1 else 0)) h := by (try simp only [nxt, wx_eq, ws_eq, px_eq]) <;> rfl
@[simp ↓] theorem x_gcd {i j : Int} : px .gcd [.int i, .int j] h Q = Q (.int ((Nat.gcd i.natAbs j.natAbs : Nat) : Int)) h := by (try simp only [nxt, wx_eq, ws_eq, px_eq]) <;> rfl
@[simp ↓] theorem x_bits {i : Int} : px .bits [.int i] h Q = Q (.int (Builtin.Int.intBits i : Nat)) h := by (try simp only [nxt, wx_eq, ws_eq, px_eq]) <;> rfl
theorem x_instI {T : String} {i : Int} : px (.inst T) [.int i] h Q = Q (.bl (T == "int")) h := by (try simp only [nxt, wx_eq, ws_eq, px_eq]) <;> rfl
theorem x_instB {T : String} {i : Bool} : px (.inst T) [.bl i] h Q = Q (.bl (T == "bool" || T == "int")) h := by (try simp only [nxt, wx_eq, ws_eq, px_eq]) <;> rfl
theorem x_instS {T : String} {i : Str} : px (.inst T) [.str i] h Q = Q (.bl (T == "str")) h := by (try simp only [nxt, wx_eq, ws_eq, px_eq]) <;> rfl
theorem x_instT {T : String} {i : List D} : px (.inst T) [.tup i] h Q = Q (.bl (T == "tuple")) h := by (try simp only [nxt, wx_eq, ws_eq, px_eq]) <;> rfl
theorem x_instN {T : String} : px (.inst T) [.non] h Q = Q (.bl (T == "NoneType")) h := by (try simp only [nxt, wx_eq, ws_eq, px_eq]) <;> rfl
@[simp ↓] theorem x_instI_int {i : Int} : px (.inst "int") [.int i] h Q = Q (.bl true) h := by rw [x_instI, sq_int_int]
@[simp ↓] theorem x_instS_int {i : Str} : px (.inst "int") [.str i] h Q = Q (.bl false) h := by rw [x_instS, sq_int_str]
@[simp ↓] theorem x_instT_int {i : List D} : px (.inst "int") [.tup i] h Q = Q (.bl false) h := by rw [x_instT, sq_int_tuple]
@[simp ↓] theorem x_instN_int  : px (.inst "int") [.non] h Q = Q (.bl false) h := by rw [x_instN, sq_int_NoneType]
@[simp ↓] theorem x_instB_int {i : Bool} : px (.inst "int") [.bl i] h Q = Q (.bl true) h := by rw [x_instB, sq_int_bool, sq_int_int]; rfl
@[simp ↓] theorem x_instI_bool {i : Int} : px (.inst "bool") [.int i] h Q = Q (.bl false) h := by rw [x_instI, sq_bool_int]
@[simp ↓] theorem x_instS_bool {i : Str} : px (.inst "bool") [.str i] h Q = Q (.bl false) h := by rw [x_instS, sq_bool_str]
@[simp ↓] theorem x_instT_bool {i : List D} : px (.inst "bool") [.tup i] h Q = Q (.bl false) h := by rw [x_instT, sq_bool_tuple]
@[simp ↓] theorem x_instN_bool  : px (.inst "bool") [.non] h Q = Q (.bl false) h := by rw [x_instN, sq_bool_NoneType]
@[simp ↓] theorem x_instB_bool {i : Bool} : px (.inst "bool") [.bl i] h Q = Q (.bl true) h := by rw [x_instB, sq_bool_bool, sq_bool_int]; rfl
@[simp ↓] theorem x_instI_str {i : Int} : px (.inst "str") [.int i] h Q = Q (.bl false) h := by rw [x_instI, sq_str_int]
@[simp ↓] theorem x_instS_str {i : Str} : px (.inst "str") [.str i] h Q = Q (.bl true) h := by rw [x_instS, sq_str_str]
@[simp ↓] theorem x_instT_str {i : List D} : px (.inst "str") [.tup i] h Q = Q (.bl false) h := by rw [x_instT, sq_str_tuple]
@[simp ↓] theorem x_instN_str  : px (.inst "str") [.non] h Q = Q (.bl false) h := by rw [x_instN, sq_str_NoneType]
@[simp ↓] theorem x_instB_str {i : Bool} : px (.inst "str") [.bl i] h Q = Q (.bl false) h := by rw [x_instB, sq_str_bool, sq_str_int]; rfl
@[simp ↓] theorem x_instI_tuple {i : Int} : px (.inst "tuple") [.int i] h Q = Q (.bl false) h := by rw [x_instI, sq_tuple_int]
@[simp ↓] theorem x_instS_tuple {i : Str} : px (.inst "tuple") [.str i] h Q = Q (.bl false) h := by rw [x_instS, sq_tuple_str]
@[simp ↓] theorem x_instT_tuple {i : List D} : px (.inst "tuple") [.tup i] h Q = Q (.bl true) h := by rw [x_instT, sq_tuple_tuple]
@[simp ↓] theorem x_instN_tuple  : px (.inst "tuple") [.non] h Q = Q (.bl false) h := by rw [x_instN, sq_tuple_NoneType]
@[simp ↓] theorem x_instB_tuple {i : Bool} : px (.inst "tuple") [.bl i] h Q = Q (.bl false) h := by rw [x_instB, sq_tuple_bool, sq_tuple_int]; rfl
@[simp ↓] theorem x_instI_list {i : Int} : px (.inst "list") [.int i] h Q = Q (.bl false) h := by rw [x_instI, sq_list_int]
@[simp ↓] theorem x_instS_list {i : Str} : px (.inst "list") [.str i] h Q = Q (.bl false) h := by rw [x_instS, sq_list_str]
@[simp ↓] theorem x_instT_list {i : List D} : px (.inst "list") [.tup i] h Q = Q (.bl false) h := by rw [x_instT, sq_list_tuple]
@[simp ↓] theorem x_instN_list  : px (.inst "list") [.non] h Q = Q (.bl false) h := by rw [x_instN, sq_list_NoneType]
@[simp ↓] theorem x_instB_list {i : Bool} : px (.inst "list") [.bl i] h Q = Q (.bl false) h := by rw [x_instB, sq_list_bool, sq_list_int]; rfl
@[simp ↓] theorem x_instI_dict {i : Int} : px (.inst "dict") [.int i] h Q = Q (.bl false) h := by rw [x_instI, sq_dict_int]
@[simp ↓] theorem x_instS_dict {i : Str} : px (.inst "dict") [.str i] h Q = Q (.bl false) h := by rw [x_instS, sq_dict_str]
@[simp ↓] theorem x_instT_dict {i : List D} : px (.inst "dict") [.tup i] h Q = Q (.bl false) h := by rw [x_instT, sq_dict_tuple]
@[simp ↓] theorem x_instN_dict  : px (.inst "dict") [.non] h Q = Q (.bl false) h := by rw [x_instN, sq_dict_NoneType]
@[simp ↓] theorem x_instB_dict {i : Bool} : px (.inst "dict") [.bl i] h Q = Q (.bl false) h := by rw [x_instB, sq_dict_bool, sq_dict_int]; rfl
theorem x_instL {T : String} {a : Nat} {xs : List D} (e : h[a]? = some (.lst xs)) : px (.inst T) [.loc a] h Q = Q (.bl (T == "list")) h := by simp [px_eq, wpP, instW, isInst, e]
theorem lst_loc {a : Nat} {xs : List D} (e : h[a]? = some (.lst xs)) : lstOf h (.loc a) = some xs := by simp [lstOf, e]
@[simp ↓] theorem q_tup {xs : List D} : seqOf h (.tup xs) = some xs := rfl
@[simp ↓] theorem q_tl {xs : List D} : seqOf h (.tl xs) = some xs := rfl
@[simp ↓] theorem q_rl {xs : List D} : seqOf h (.rl xs) = some xs := rfl
theorem q_loc {a : Nat} {xs : List D} (e : h[a]? = some (.lst xs)) : seqOf h (.loc a) = some xs := by simp [seqOf, lstOf, e]
theorem x_len {x : D} {xs : List D} (e : seqOf h x = some xs) : px .len [x] h Q = Q (.int xs.length) h := by
  cases x with
  | str z => cases e
  | _ => simp only [px_eq, wpP, lenW, e]
@[simp ↓] theorem x_lenT {xs : List D} : px .len [.tup xs] h Q = Q (.int xs.length) h := by (try simp only [nxt, wx_eq, ws_eq, px_eq]) <;> rfl
@[simp ↓] theorem x_lenR {xs : List D} : px .len [.rl xs] h Q = Q (.int xs.length) h := by (try simp only [nxt, wx_eq, ws_eq, px_eq]) <;> rfl
@[simp ↓] theorem x_lenL {xs : List D} : px .len [.tl xs] h Q = Q (.int xs.length) h := by (try simp only [nxt, wx_eq, ws_eq, px_eq]) <;> rfl
@[simp ↓] theorem x_lenP {a : Nat} : px .len [.loc a] h Q = lstQ h[a]? fun xs => Q (.int xs.length) h := by
  simp only [px_eq, wpP, lenW, seqOf, lstOf, lstQ]
  try (rcases h[a]? with _ | ⟨_ | _ | _⟩ <;> rfl)
theorem x_idx {x : D} {i : Int} {xs : List D} (e : seqOf h x = some xs) : px .idx [x, .int i] h Q = atQ (atI xs i) Q h := by
  cases x with
  | str z => cases e
  | _ => simp only [px_eq, wpP, idxW, e]; rfl
@[simp ↓] theorem x_idxT {i : Int} {xs : List D} : px .idx [.tup xs, .int i] h Q = atQ (atI xs i) Q h := by (try simp only [nxt, wx_eq, ws_eq, px_eq]) <;> rfl
@[simp ↓] theorem x_idxR {i : Int} {xs : List D} : px .idx [.rl xs, .int i] h Q = atQ (atI xs i) Q h := by (try simp only [nxt, wx_eq, ws_eq, px_eq]) <;> rfl
@[simp ↓] theorem x_idxL {i : Int} {xs : List D} : px .idx [.tl xs, .int i] h Q = atQ (atI xs i) Q h := by (try simp only [nxt, wx_eq, ws_eq, px_eq]) <;> rfl
@[simp ↓] theorem x_idxP {a : Nat} {i : Int} : px .idx [.loc a, .int i] h Q = lstQ h[a]? fun xs => atQ (atI xs i) Q h := by
  simp only [px_eq, wpP, idxW, seqOf, lstOf, lstQ]
  try (rcases h[a]? with _ | ⟨_ | _ | _⟩ <;> rfl)
@[simp ↓] theorem x_listP {a : Nat} : px .list [.loc a] h Q = lstQ h[a]? fun xs => Q (.tl xs) h := by
  simp only [px_eq, wpP, listW, seqOf, lstOf, lstQ]
  try (rcases h[a]? with _ | ⟨_ | _ | _⟩ <;> rfl)
@[simp ↓] theorem x_tupleP {a : Nat} : px .tuple [.loc a] h Q = lstQ h[a]? fun xs => Q (.tup xs) h := by
  simp only [px_eq, wpP, tupleW, seqOf, lstOf, lstQ]
  try (rcases h[a]? with _ | ⟨_ | _ | _⟩ <;> rfl)
@[simp ↓] theorem mu_tl {xs : List D} : mutOf h (.tl xs) = some xs := rfl
theorem mu_loc {a : Nat} {xs : List D} (e : h[a]? = some (.lst xs)) : mutOf h (.loc a) = some xs := by simp [mutOf, lstOf, e]
theorem x_addL {x y : D} {a b : List D} (e1 : mutOf h x = some a) (e2 : mutOf h y = some b) : px .add [x, y] h Q = (a.length + b.length ≤ sizeLine ∧ Q (.tl (a ++ b)) h) := by
  cases x <;> first | (simp [mutOf, lstOf] at e1; done) | skip
  all_goals (cases y <;> first | (simp [mutOf, lstOf] at e2; done) | simp only [px_eq, wpP, addW, e1, e2])
theorem x_mulL {x : D} {a : List D} {k : Int} (e1 : mutOf h x = some a) : px .mul [x, .int k] h Q = (a.length * k.toNat ≤ sizeLine ∧ -(2 ^ 63) ≤ k ∧ k < 2 ^ 63 ∧ Q (.tl (List.replicate k.toNat a).flatten) h) := by
  cases x <;> first | (simp [mutOf, lstOf] at e1; done) | simp only [px_eq, wpP, mulW, e1]
@[simp ↓] theorem x_addTl {a b : List D} : px .add [.tl a, .tl b] h Q = (a.length + b.length ≤ sizeLine ∧ Q (.tl (a ++ b)) h) := x_addL rfl rfl
@[simp ↓] theorem x_mulTl {a : List D} {k : Int} : px .mul [.tl a, .int k] h Q = (a.length * k.toNat ≤ sizeLine ∧ -(2 ^ 63) ≤ k ∧ k < 2 ^ 63 ∧ Q (.tl (List.replicate k.toNat a).flatten) h) := x_mulL rfl
@[simp ↓] theorem x_addTp {a b : List D} : px .add [.tup a, .tup b] h Q = (a.length + b.length ≤ sizeLine ∧ Q (.tup (a ++ b)) h) := by (try simp only [nxt, wx_eq, ws_eq, px_eq]) <;> rfl
@[simp ↓] theorem x_listTl {xs : List D} : px .list [.tl xs] h Q = Q (.tl xs) h := by (try simp only [nxt, wx_eq, ws_eq, px_eq]) <;> rfl
@[simp ↓] theorem x_listTp {xs : List D} : px .list [.tup xs] h Q = Q (.tl xs) h := by (try simp only [nxt, wx_eq, ws_eq, px_eq]) <;> rfl
theorem x_list {x : D} {xs : List D} (e : seqOf h x = some xs) : px .list [x] h Q = Q (.tl xs) h := by simp only [px_eq, wpP, listW, e]
theorem x_tuple {x : D} {xs : List D} (e : seqOf h x = some xs) : px .tuple [x] h Q = Q (.tup xs) h := by simp only [px_eq, wpP, tupleW, e]
@[simp ↓] theorem x_append {a : Nat} {x : D} : wpM .append (.loc a) [x] h Q = lstQ h[a]? fun xs => xs.length < sizeLine ∧ Q .non (h.set a (.lst (xs ++ [x]))) := by
  simp only [wpM, appendW, lstQ]
  try (rcases h[a]? with _ | ⟨_ | _ | _⟩ <;> rfl)
@[simp ↓] theorem ty_append {a : Nat} : tyM .append h (.loc a) = lstQ h[a]? fun _ => True := by
  simp only [tyM, mutOf, lstOf, lstQ]
  try (rcases h[a]? with _ | ⟨_ | _ | _⟩ <;> simp)
def popQ (xs : List D) (k : D → List D → Prop) : Prop := match xs[xs.length - 1]? with
  | some y => k y xs.dropLast
  | none => False
@[simp] theorem popQ_snoc {xs : List D} {y : D} {k : D → List D → Prop} : popQ (xs ++ [y]) k = k y xs := by simp [popQ]
@[simp ↓] theorem x_pop {a : Nat} : px .pop [.loc a] h Q = lstQ h[a]? fun xs => popQ xs fun y ys => Q y (h.set a (.lst ys)) := by
  simp only [px_eq, wpP, popW, lstQ]
  try (rcases h[a]? with _ | ⟨_ | _ | _⟩ <;> rfl)
@[simp ↓] theorem x_reverse {a : Nat} : px .reverse [.loc a] h Q = lstQ h[a]? fun xs => Q .non (h.set a (.lst xs.reverse)) := by
  simp only [px_eq, wpP, reverseW, lstQ]
  try (rcases h[a]? with _ | ⟨_ | _ | _⟩ <;> rfl)
@[simp ↓] theorem x_set {a : Nat} {i : Int} {v : D} {k : Hd → Prop} : setIdxW (.loc a) (.int i) v h k = lstQ h[a]? fun xs => natQ (ixN xs.length i) fun n => k (h.set a (.lst (xs.set n v))) := by
  simp only [setIdxW, lstQ, natQ]
  try (rcases h[a]? with _ | ⟨_ | _ | _⟩ <;> rfl)
end
/-! ### loops -/
theorem for_inv {ok : Hd → Prop} {p : Pat} {body : TSd} {Z : Endd} (I : Nat → Sd → Hd → Prop) {xs : List D} {τ : Sd} {h : Hd} (h0 : I 0 τ h)
    (step : ∀ (i : Nat) (x : D) (τ : Sd) (h : Hd) (k : Sd → Hd → Prop), xs[i]? = some x → I i τ h → (∀ τ' h', I (i + 1) τ' h' → k τ' h') → ok h ∧ bindW p x τ fun τ' => body ⟨k, Z.rt, Z.nx, k⟩ τ' h)
    (done : ∀ τ h, I xs.length τ h → ok h ∧ Z.nx τ h) : forW ok p body Z xs τ h := by
  have key : ∀ (m i : Nat) (τ : Sd) (h : Hd), i + m = xs.length → I i τ h → forW ok p body Z (xs.drop i) τ h := by
    intro m
    induction m with
    | zero =>
      intro i τ h e q
      have e : i = xs.length := by omega
      subst e
      rw [List.drop_length]
      exact done τ h q
    | succ m ih =>
      intro i τ h e q
      have hi : i < xs.length := by omega
      rw [List.drop_eq_getElem_cons hi]
      exact step i _ τ h _ (List.getElem?_eq_getElem hi) q fun τ' h' q' => ih (i + 1) τ' h' (by omega) q'
  exact key xs.length 0 τ h (by omega) h0
theorem range_get {lo : Int} {n i : Nat} {x : D} (e : (rangeD lo n)[i]? = some x) : i < n ∧ x = .int (lo + i) := by
  unfold rangeD at e
  rw [List.getElem?_map] at e
  by_cases hi : i < n
  · rw [List.getElem?_range hi] at e
    cases e
    exact ⟨hi, rfl⟩
  · rw [List.getElem?_eq_none (by simpa using hi)] at e
    cases e
@[simp] theorem range_len {lo : Int} {n : Nat} : (rangeD lo n).length = n := by simp [rangeD]
/-- for i in range(..) -/
theorem for_range {ok : Hd → Prop} {v : Nat} {body : TSd} {Z : Endd} (I : Nat → Sd → Hd → Prop) {lo : Int} {n : Nat} {τ : Sd} {h : Hd} (h0 : I 0 τ h) (hok : ∀ h, ok h)
    (step : ∀ (i : Nat) (τ : Sd) (h : Hd) (k : Sd → Hd → Prop), i < n → I i τ h → (∀ τ' h', I (i + 1) τ' h' → k τ' h') → body ⟨k, Z.rt, Z.nx, k⟩ (τ.set v (some (.int (lo + i)))) h)
    (done : ∀ τ h, I n τ h → Z.nx τ h) : forW ok (.nm v) body Z (rangeD lo n) τ h := by
  refine for_inv I h0 (fun i x τ h k e q w => ?_) (fun τ h q => ⟨hok h, done τ h (by simpa using q)⟩)
  obtain ⟨hi, rfl⟩ := range_get e
  exact ⟨hok h, step i τ h k hi q w⟩
/-- a comprehension that leaves the heap -/
theorem comp_map {ok : Hd → Prop} {p : Pat} {cond : TTd} {elt : TEd} {τ : Sd} {Q : List D → Hd → Prop} {h : Hd} (c : D → Bool) (g : D → D) {xs : List D} (acc : List D) (hl : xs.length + acc.length ≤ sizeLine) (hok : ok h)
    (step : ∀ x ∈ xs, ∀ (k : D → Hd → Prop) (s : Hd → Prop), (if c x = true then k (g x) h else s h) → bindW p x τ fun τ' => cond τ' h fun b h1 => if b = true then elt τ' h1 fun y h2 => mat y h2 k else s h1)
    (q : Q (acc ++ (xs.filter c).map g) h) : compW ok p cond elt τ Q xs acc h := by
  induction xs generalizing acc with
  | nil => simp only [compW]; exact ⟨hok, by simpa using q⟩
  | cons x xs ih =>
    simp only [compW]
    refine ⟨hok, step x List.mem_cons_self _ _ ?_⟩
    have st := fun y (hy : y ∈ xs) => step y (List.mem_cons_of_mem _ hy)
    rw [List.length_cons] at hl
    split
    · rename_i hc
      refine ⟨by omega, ih (acc ++ [g x]) (by rw [List.length_append]; simp; omega) st ?_⟩
      simpa [hc] using q
    · rename_i hc
      exact ih acc (by omega) st (by simpa [hc] using q)
theorem comp_all {ok : Hd → Prop} {p : Pat} {elt : TEd} {τ : Sd} {Q : List D → Hd → Prop} {h : Hd} (g : D → D) {xs : List D} (hl : xs.length ≤ sizeLine) (hok : ok h)
    (step : ∀ x ∈ xs, ∀ (k : D → Hd → Prop), k (g x) h → bindW p x τ fun τ' => elt τ' h fun y h2 => mat y h2 k)
    (q : Q (xs.map g) h) : compW ok p yesT elt τ Q xs [] h := by
  refine comp_map (fun _ => true) g [] (by simpa using hl) hok (fun x hx k s w => ?_) ?_
  · simp only [if_true] at w
    simp only [yesT, if_true]
    exact step x hx k w
  · have e : xs.filter (fun _ => true) = xs := List.filter_eq_self.mpr fun _ _ => rfl
    rw [e]
    exact q
theorem gc_tl {h h' : Hd} {k : Nat} {xs : List D} {Q : PD} (hk : h.length ≤ k) (e : h'[k]? = some (.lst xs)) (c : D.cleans h.length xs) (g : gcOK h h') (q : Q (.tl xs) (h'.take h.length)) : Gc h (.loc k) h' Q := .inr (.inr ⟨k, xs, rfl, hk, e, c, g, q⟩)
theorem cleans_ints {n : Nat} : ∀ xs : List Int, D.cleans n (xs.map D.int)
  | [] => trivial
  | _ :: xs => by simp only [List.map_cons, D.cleans, D.clean, true_and]; exact cleans_ints xs
theorem gc_nil {h : Hd} : gcOK [] h := ⟨Nat.zero_le _, fun i o a _ => absurd a (Nat.not_lt_zero _)⟩
end Py

namespace Py
open PySem PySem.Spec PyProof.Rows L2

/-! ### the laws' own defs -/
def cDB : CS :=
  (.seq (.asg (.nm 7) (.prim .mod (.acons (.var 6) (.acons (.prim .len (.acons (.var 2) .anil)) .anil))))
  (.seq (.ite (.and_ (.prim .ge (.acons (.prim .idx (.acons (.var 2) (.acons (.var 7) .anil))) (.acons (.prim .pow (.acons (.cst (.int 10)) (.acons (.cst (.int 18)) .anil))) .anil))) (.prim .gt (.acons (.prim .idx (.acons (.var 4) (.acons (.var 7) .anil))) (.acons (.cst (.int 0)) .anil))))
    (.seq (.expr (.meth .append (.var 5) (.acons (.prim .mod (.acons (.prim .int1 (.acons (.prim .idx (.acons (.var 4) (.acons (.var 7) .anil))) .anil)) (.acons (.cst (.int 1000)) .anil))) .anil)))
    (.seq (.setIdx (.var 4) (.var 7) (.prim .fdiv (.acons (.prim .idx (.acons (.var 4) (.acons (.var 7) .anil))) (.acons (.cst (.int 1000)) .anil))))
    .nil))
    (.seq (.asg (.nm 8) (.prim .mod (.acons (.prim .int1 (.acons (.prim .add (.acons (.prim .add (.acons (.prim .mul (.acons (.prim .idx (.acons (.var 2) (.acons (.var 7) .anil))) (.acons (.cst (.int 48271)) .anil))) (.acons (.prim .mul (.acons (.var 6) (.acons (.cst (.int 69621)) .anil))) .anil))) (.acons (.cst (.int 11)) .anil))) .anil)) (.acons (.cst (.int 2147483647)) .anil))))
    (.seq (.expr (.meth .append (.var 5) (.acons (.prim .mod (.acons (.prim .int1 (.acons (.prim .add (.acons (.prim .add (.acons (.prim .mul (.acons (.var 8) (.acons (.var 8) .anil))) (.acons (.prim .mul (.acons (.cst (.int 3)) (.acons (.var 8) .anil))) .anil))) (.acons (.var 6) .anil))) .anil)) (.acons (.cst (.int 1000003)) .anil))) .anil)))
    .nil)))
  .nil))
def cDT : CS :=
  (.seq (.asg (.nm 4) (.prim .list (.acons (.var 2) .anil)))
  (.seq (.asg (.nm 5) (.lst .anil))
  (.seq (.forr (.nm 6) (.r1 (.var 1)) cDB)
  (.seq (.expr (.prim .reverse (.acons (.var 5) .anil)))
  (.seq (.ret (.var 5))
  .nil)))))
def cDraws1 : CS :=
  (.seq (.asg (.nm 2) (.prim .add (.acons (.comp (.nm 3) (.var 0) none .anil (.prim .int1 (.acons (.var 3) .anil))) (.acons (.prim .mul (.acons (.lst (.acons (.cst (.int 0)) .anil)) (.acons (.prim .int1 (.acons (.prim .eq (.acons (.prim .len (.acons (.var 0) .anil)) (.acons (.cst (.int 0)) .anil))) .anil)) .anil))) .anil)))) cDT)
def cDraws2 : CS :=
  (.seq (.asg (.nm 2) (.comp (.nm 3) (.var 0) none .anil (.prim .int1 (.acons (.var 3) .anil))))
  (.seq (.ite (.prim .eq (.acons (.prim .len (.acons (.var 2) .anil)) (.acons (.cst (.int 0)) .anil)))
    (.seq (.expr (.meth .append (.var 2) (.acons (.cst (.int 0)) .anil)))
    .nil)
    .nil)
  cDT))
def cTake : CS :=
  (.seq (.ite (.prim .eq (.acons (.prim .len (.acons (.var 0) .anil)) (.acons (.cst (.int 0)) .anil)))
    (.seq (.ret (.cst (.int 0)))
    .nil)
    .nil)
  (.seq (.ret (.prim .mod (.acons (.prim .int1 (.acons (.prim .pop (.acons (.var 0) .anil)) .anil)) (.acons (.var 1) .anil))))
  .nil))
def cSame (f : Nat) : CS :=
  (.seq (.ite (.prim .is_ (.acons (.var 1) (.acons (.cst .non) .anil)))
    (.seq (.ret (.prim .is_ (.acons (.var 0) (.acons (.cst .non) .anil))))
    .nil)
    .nil)
  (.seq (.ite (.prim (.inst "bool") (.acons (.var 1) .anil))
    (.seq (.ret (.and_ (.prim (.inst "bool") (.acons (.var 0) .anil)) (.prim .eq (.acons (.var 0) (.acons (.var 1) .anil)))))
    .nil)
    .nil)
  (.seq (.ite (.prim (.inst "int") (.acons (.var 1) .anil))
    (.seq (.ret (.and_ (.prim (.inst "int") (.acons (.var 0) .anil)) (.and_ (.not_ (.prim (.inst "bool") (.acons (.var 0) .anil))) (.prim .eq (.acons (.var 0) (.acons (.var 1) .anil))))))
    .nil)
    .nil)
  (.seq (.ite (.prim (.inst "str") (.acons (.var 1) .anil))
    (.seq (.ret (.and_ (.prim (.inst "str") (.acons (.var 0) .anil)) (.prim .eq (.acons (.var 0) (.acons (.var 1) .anil)))))
    .nil)
    .nil)
  (.seq (.ite (.or_ (.not_ (.prim (.inst "tuple") (.acons (.var 0) .anil))) (.prim .ne (.acons (.prim .len (.acons (.var 0) .anil)) (.acons (.prim .len (.acons (.var 1) .anil)) .anil))))
    (.seq (.ret (.cst (.bl false)))
    .nil)
    .nil)
  (.seq (.forr (.nm 2) (.r1 (.prim .len (.acons (.var 1) .anil)))
    (.seq (.ite (.not_ (.call f (.acons (.prim .idx (.acons (.var 0) (.acons (.var 2) .anil))) (.acons (.prim .idx (.acons (.var 1) (.acons (.var 2) .anil))) .anil))))
      (.seq (.ret (.cst (.bl false)))
      .nil)
      .nil)
    .nil))
  (.seq (.ret (.cst (.bl true)))
  .nil)))))))
section
variable {gl : List (Str × D)} {F : List FD} {f d : Nat} {x1 x2 x3 x4 x5 x6 x7 x8 x9 x10 : Str} {st : Stmt}
theorem atI_ints {xs : List Int} {i : Int} {n : Nat} (h0 : 0 ≤ i) (h1 : i < n) (hl : xs.length = n) : atI (xs.map D.int) i = some (.int (xs.getD i.toNat 0)) := by
  unfold atI ixN
  rw [List.length_map, if_pos h0, if_pos (by omega)]
  have : i.toNat < xs.length := by omega
  simp [this, List.getD]
theorem take_spec {a : Nat} {xs : List Int} {m : Int} {h : Hd} {Q : PD} (hf : F[f]? = some ⟨x1, [x2, x3], [x4, x5], st, cTake⟩) (hm : 0 < m) (he : h[a]? = some (.lst (xs.map D.int))) (q : ∀ (r : Int) (ys : List Int), 0 ≤ r → r < m → Q (.int r) (h.set a (.lst (ys.map D.int)))) :
    wpCall gl F (d+1) f [.loc a, .int m] h Q := by
  refine call_of hf rfl ?_
  simp [startD, cTake, he]
  rcases List.eq_nil_or_concat xs with rfl | ⟨ys, y, rfl⟩
  · simp
    have := q 0 [] (Int.le_refl _) hm
    have e : h.set a (.lst ([].map D.int)) = h := by
      apply List.ext_getElem?
      intro i
      rw [List.getElem?_set]
      split
      · rename_i z; subst z
        split
        · exact he.symm
        · rename_i w; rw [List.getElem?_eq_none (by omega)]
      · rfl
    rw [e] at this
    refine nxt_of ?_
    simp
    exact gc_same this
  · simp
    refine nxt_of ?_
    simp [he]
    refine ⟨by omega, ?_⟩
    exact gc_same (q _ ys (Int.fmod_nonneg_of_pos _ hm) (Int.fmod_lt_of_pos _ hm))
def DI (s : List D) (m : Nat) (cs : List Int) (i : Nat) (τ : Sd) (h : Hd) : Prop := ∃ (rs ds : List Int) (t1 t2 t3 : Option D), τ = [some (.rl s), some (.int m), some (.loc 0), none, some (.loc 1), some (.loc 2), t1, t2, t3] ∧ h = [.lst (cs.map D.int), .lst (rs.map D.int), .lst (ds.map D.int)] ∧ rs.length = cs.length ∧ ds.length ≤ i
theorem DI.app {s : List D} {m : Nat} {cs rs ds : List Int} {i : Nat} {x : Int} {t1 t2 t3 : Option D} (hl : rs.length = cs.length) (hd : ds.length ≤ i) :
    DI s m cs (i + 1) [some (.rl s), some (.int m), some (.loc 0), none, some (.loc 1), some (.loc 2), t1, t2, t3] [.lst (cs.map D.int), .lst (rs.map D.int), .lst (ds.map D.int ++ [.int x])] :=
  ⟨rs, ds ++ [x], t1, t2, t3, rfl, by rw [List.map_append]; rfl, hl, by simpa using hd⟩
theorem DI.app2 {s : List D} {m n : Nat} {cs rs ds : List Int} {i : Nat} {x y : Int} {t1 t2 t3 : Option D} (hl : rs.length = cs.length) (hd : ds.length ≤ i) :
    DI s m cs (i + 1) [some (.rl s), some (.int m), some (.loc 0), none, some (.loc 1), some (.loc 2), t1, t2, t3] [.lst (cs.map D.int), .lst ((rs.map D.int).set n (.int y)), .lst (ds.map D.int ++ [.int x])] :=
  ⟨rs.set n y, ds ++ [x], t1, t2, t3, rfl, by rw [List.map_append, List.map_set]; rfl, by simpa using hl, by simpa using hd⟩
theorem draws_tail {cl : CallD} {s : List D} {m : Nat} {cs : List Int} {Q : PD} (hm : m ≤ 100000) (hc : cs ≠ []) (q : ∀ xs : List Int, Q (.tl (xs.map D.int)) []) :
    ws cl gl cDT (endZ [] Q) [some (.rl s), some (.int m), some (.loc 0), none, none, none, none, none, none] [.lst (cs.map D.int)] := by
  have hL : 0 < cs.length := List.length_pos_iff.mpr hc
  simp [cDT]
  refine nxt_of ?_
  simp
  refine nxt_of ?_
  simp
  refine ⟨by omega, ?_⟩
  refine for_range (DI s m cs)
    ⟨cs, [], _, _, _, rfl, rfl, rfl, Nat.le_refl _⟩ (fun _ => trivial) ?_ ?_
  · rintro i τ h k hi ⟨rs, ds, t1, t2, t3, rfl, rfl, hl, hd⟩ hk
    have hz : sizeLine > 200000 := by decide
    simp [cDB]
    refine ⟨by omega, ?_⟩
    refine nxt_of ?_
    have p0 : (0 : Int) ≤ Int.fmod i cs.length := Int.fmod_nonneg_of_pos _ (by omega)
    have p1 : Int.fmod i cs.length < cs.length := Int.fmod_lt_of_pos _ (by omega)
    generalize Int.fmod (i : Int) cs.length = w at p0 p1
    simp [atI_ints p0 p1 rfl, atI_ints p0 p1 hl]
    have e2 : ∀ (τ : Sd) (h : Hd), DI s m cs (i + 1) τ h → k τ h := fun τ h z => hk τ h z
    have rule2 : ∀ x : Int, mulOk x 48271 := fun x => .inl (.inr ⟨by decide, by decide⟩)
    have rule3 : mulOk (i : Int) 69621 := .inl (.inr ⟨by decide, by decide⟩)
    have elseB : ∀ y : Int, 0 ≤ y → y < 2147483647 → mulOk y y ∧ mulOk 3 y ∧ ds.length < sizeLine := fun y y0 y1 => ⟨.inl (.inr ⟨by omega, by omega⟩), .inl (.inr ⟨by omega, by omega⟩), by omega⟩
    have b0 : ∀ z : Int, 0 ≤ Int.fmod z 2147483647 := fun z => Int.fmod_nonneg_of_pos _ (by decide)
    have b1 : ∀ z : Int, Int.fmod z 2147483647 < 2147483647 := fun z => Int.fmod_lt_of_pos _ (by decide)
    have hn : ixN rs.length w = some w.toNat := by
      unfold ixN
      rw [if_pos p0, if_pos (by omega)]
    have elseP : ∀ Z2 : Endd, Z2.nx = k → nxt cl gl (.seq (.asg (.nm 8) (.prim .mod (.acons (.prim .int1 (.acons (.prim .add (.acons (.prim .add (.acons (.prim .mul (.acons (.prim .idx (.acons (.var 2) (.acons (.var 7) .anil))) (.acons (.cst (.int 48271)) .anil))) (.acons (.prim .mul (.acons (.var 6) (.acons (.cst (.int 69621)) .anil))) .anil))) (.acons (.cst (.int 11)) .anil))) .anil)) (.acons (.cst (.int 2147483647)) .anil))))
      (.seq (.expr (.meth .append (.var 5) (.acons (.prim .mod (.acons (.prim .int1 (.acons (.prim .add (.acons (.prim .add (.acons (.prim .mul (.acons (.var 8) (.acons (.var 8) .anil))) (.acons (.prim .mul (.acons (.cst (.int 3)) (.acons (.var 8) .anil))) .anil))) (.acons (.var 6) .anil))) .anil)) (.acons (.cst (.int 1000003)) .anil))) .anil))) .nil)) Z2 [some (.rl s), some (.int m), some (.loc 0), none, some (.loc 1), some (.loc 2), some (.int i), some (.int w), t3] [.lst (cs.map D.int), .lst (rs.map D.int), .lst (ds.map D.int)] := by
      intro Z2 hZ
      refine nxt_of ?_
      simp [atI_ints p0 p1 rfl, hZ]
      refine ⟨rule2 _, rule3, ?_⟩
      generalize hy : Int.fmod _ (2147483647 : Int) = y
      refine nxt_of ?_
      simp [hZ]
      obtain ⟨r1, r2, r3⟩ := elseB y (hy ▸ b0 _) (hy ▸ b1 _)
      exact ⟨r1, r2, by omega, e2 _ _ (DI.app hl hd)⟩
    split
    · split
      · refine nxt_of ?_
        simp [atI_ints p0 p1 hl]
        refine ⟨by omega, ?_⟩
        refine nxt_of ?_
        simp [atI_ints p0 p1 hl, hn]
        exact ⟨⟨by decide, by decide⟩, e2 _ _ (DI.app2 hl hd)⟩
      · exact elseP _ rfl
    · exact elseP _ rfl
  · rintro τ h ⟨rs, ds, t1, t2, t3, rfl, rfl, hl, hd⟩
    refine nxt_of ?_
    simp
    refine nxt_of ?_
    simp
    rw [← List.map_reverse]
    exact gc_tl (xs := ds.reverse.map D.int) (Nat.zero_le _) (by rfl) (cleans_ints _) gc_nil (q _)
theorem comp_ints {cl : CallD} {τ : Sd} {h : Hd} {ns : List Int} {Q : List D → Hd → Prop} (hl : ns.length ≤ 1000) (q : Q (ns.map D.int) h) (e : τ.length = 9) :
    compW (Iter.vals (ns.map D.int)).ok (.nm 3) yesT (wx cl gl (.prim .int1 (.acons (.var 3) .anil))).e τ Q (ns.map D.int) [] h := by
  have hz : sizeLine > 200000 := by decide
  refine comp_all (fun x => x) (by rw [List.length_map]; omega) trivial (fun x hx k w => ?_) (by rw [List.map_id']; exact q)
  obtain ⟨n, _, rfl⟩ := List.mem_map.mp hx
  have e3 : (τ.set 3 (some (D.int n)))[3]? = some (some (D.int n)) := by rw [List.getElem?_set_self (by omega)]
  simp [e3]
  exact w
theorem draws1_spec {ns : List Int} {m : Nat} {Q : PD} {ps N : List Str} (hf : F[f]? = some ⟨x1, ps, N, st, cDraws1⟩) (hp : ps.length = 2) (hN : N.length = 9) (hn : ns.length ≤ 63) (hm : m ≤ 100000) (q : ∀ xs : List Int, Q (.tl (xs.map D.int)) []) :
    wpCall gl F (d+1) f [.rl (ns.map D.int), .int m] [] Q := by
  have hz : sizeLine > 200000 := by decide
  refine call_of hf (by simp [hp]) ?_
  simp [startD, cDraws1, hN]
  refine comp_ints (by omega) ?_ rfl
  simp
  have tail := fun (cs : List Int) (h : cs ≠ []) => draws_tail (gl := gl) (cl := wpCall gl F d) (s := ns.map D.int) hm h q
  by_cases h0 : ns = []
  · subst h0
    simp
    refine ⟨by omega, by omega, by omega, nxt_of ?_⟩
    exact tail [0] (by simp)
  · have h1 : ns.length ≠ 0 := fun z => h0 (List.length_eq_zero_iff.mp z)
    simp [h0]
    refine ⟨by omega, by omega, nxt_of ?_⟩
    exact tail ns h0
theorem draws2_spec {ns : List Int} {m : Nat} {Q : PD} {ps N : List Str} (hf : F[f]? = some ⟨x1, ps, N, st, cDraws2⟩) (hp : ps.length = 2) (hN : N.length = 9) (hn : ns.length ≤ 63) (hm : m ≤ 100000) (q : ∀ xs : List Int, Q (.tl (xs.map D.int)) []) :
    wpCall gl F (d+1) f [.rl (ns.map D.int), .int m] [] Q := by
  have hz : sizeLine > 200000 := by decide
  refine call_of hf (by simp [hp]) ?_
  simp [startD, cDraws2, hN]
  refine comp_ints (by omega) ?_ rfl
  have tail := fun (cs : List Int) (h : cs ≠ []) => draws_tail (gl := gl) (cl := wpCall gl F d) (s := ns.map D.int) hm h q
  simp
  refine nxt_of ?_
  simp
  by_cases h0 : ns = []
  · subst h0
    simp
    refine nxt_of ?_
    simp
    refine ⟨by omega, nxt_of ?_⟩
    exact tail [0] (by simp)
  · simp [h0]
    exact nxt_of (tail ns h0)
/-! _law_same -/
theorem same_int {i j : Int} {h : Hd} {Q : PD} {ps N : List Str} (hf : F[f]? = some ⟨x1, ps, N, st, cSame f⟩) (hp : ps.length = 2) (hN : N.length = 3) (q : Q (.bl (decide (i = j))) h) : wpCall gl F (d+1) f [.int i, .int j] h Q := by
  refine call_of hf (by simp [hp]) ?_
  simp [startD, cSame, hN, isNonD]
  refine nxt_of ?_
  simp
  refine nxt_of ?_
  simp
  refine nxt_of ?_
  simp
  exact gc_same q
theorem same_bool {i j : Bool} {h : Hd} {Q : PD} {ps N : List Str} (hf : F[f]? = some ⟨x1, ps, N, st, cSame f⟩) (hp : ps.length = 2) (hN : N.length = 3) (q : Q (.bl (decide (i = j))) h) : wpCall gl F (d+1) f [.bl i, .bl j] h Q := by
  refine call_of hf (by simp [hp]) ?_
  simp [startD, cSame, hN, isNonD]
  refine nxt_of ?_
  simp
  refine nxt_of ?_
  simp
  exact gc_same q
theorem same_non {x : D} {h : Hd} {Q : PD} {ps N : List Str} (hf : F[f]? = some ⟨x1, ps, N, st, cSame f⟩) (hp : ps.length = 2) (hN : N.length = 3) (q : Q (.bl (isNonD x)) h) : wpCall gl F (d+1) f [x, .non] h Q := by
  refine call_of hf (by simp [hp]) ?_
  simp [startD, cSame, hN, isNonD]
  refine nxt_of ?_
  simp
  exact gc_same q
theorem same_str {i j : Str} {h : Hd} {Q : PD} {ps N : List Str} (hf : F[f]? = some ⟨x1, ps, N, st, cSame f⟩) (hp : ps.length = 2) (hN : N.length = 3) (q : Q (.bl (decide (i = j))) h) : wpCall gl F (d+1) f [.str i, .str j] h Q := by
  refine call_of hf (by simp [hp]) ?_
  simp [startD, cSame, hN, isNonD]
  refine nxt_of ?_
  simp
  refine nxt_of ?_
  simp
  refine nxt_of ?_
  simp
  refine nxt_of ?_
  simp
  exact gc_same q
/-- two tuples whose parts answer as they should -/
theorem same_tup {xs ys : List D} {h : Hd} {Q : PD} {ps N : List Str} (hf : F[f]? = some ⟨x1, ps, N, st, cSame f⟩) (hp : ps.length = 2) (hN : N.length = 3) (hl : xs.length = ys.length) (hs : ys.length ≤ 100000)
    (hx : ∀ (i : Nat) (x y : D), xs[i]? = some x → ys[i]? = some y → mat x h = (fun Q => Q x h) ∧ mat y h = (fun Q => Q y h) ∧ ∀ Q : PD, Q (.bl true) h → wpCall gl F d f [x, y] h Q)
    (q : Q (.bl true) h) : wpCall gl F (d+1) f [.tup xs, .tup ys] h Q := by
  have hz : sizeLine > 200000 := by decide
  refine call_of hf (by simp [hp]) ?_
  simp [startD, cSame, hN, isNonD]
  refine nxt_of ?_
  simp
  refine nxt_of ?_
  simp
  refine nxt_of ?_
  simp
  refine nxt_of ?_
  simp [hl]
  refine nxt_of ?_
  simp
  refine ⟨by omega, ?_⟩
  refine for_range (fun i τ h' => h' = h ∧ ∃ t, τ = [some (.tup xs), some (.tup ys), t]) ⟨rfl, _, rfl⟩ (fun _ => trivial) ?_ ?_
  · rintro i τ h' k hi ⟨rfl, t, rfl⟩ hk
    have e1 : atI xs ((0 : Int) + i) = some xs[i] := by
      unfold atI ixN
      rw [if_pos (by omega), if_pos (by omega)]
      simp
    have e2 : atI ys ((0 : Int) + i) = some ys[i] := by
      unfold atI ixN
      rw [if_pos (by omega), if_pos (by omega)]
      simp
    obtain ⟨m1, m2, hc⟩ := hx i xs[i] ys[i] (List.getElem?_eq_getElem (by omega)) (List.getElem?_eq_getElem hi)
    have e1 : atI xs (i : Int) = some xs[i] := by simpa using e1
    have e2 : atI ys (i : Int) = some ys[i] := by simpa using e2
    simp [e1, e2, m1, m2]
    refine hc _ ?_
    simp
    exact hk _ _ ⟨rfl, _, rfl⟩
  · rintro τ h' ⟨rfl, t, rfl⟩
    refine nxt_of ?_
    simp
    exact gc_same q
theorem same_pair {a b : Int} {h : Hd} {Q : PD} {ps N : List Str} (hf : F[f]? = some ⟨x1, ps, N, st, cSame f⟩) (hp : ps.length = 2) (hN : N.length = 3) (q : Q (.bl true) h) : wpCall gl F (d+2) f [.tup [.int a, .int b], .tup [.int a, .int b]] h Q := by
  refine same_tup hf hp hN rfl (by simp) (fun i x y h1 h2 => ?_) q
  rw [h1] at h2
  cases h2
  have hx : ∃ n, x = .int n := by
    match i, h1 with
    | 0, h1 => cases h1; exact ⟨_, rfl⟩
    | 1, h1 => cases h1; exact ⟨_, rfl⟩
  obtain ⟨n, rfl⟩ := hx
  exact ⟨rfl, rfl, fun Q q => same_int hf hp hN (by simpa using q)⟩
end
end Py

namespace Py
open PySem PySem.Spec PyProof.Rows L2

/-! ### more rules of reading -/
/-- a call's end: what it laid behind the heap goes -/
theorem gc_app {h l : Hd} {v : D} {Q : PD} (c : v.clean h.length) (q : Q v h) : Gc h v (h ++ l) Q := by
  refine .inr (.inl ⟨c, ⟨by simp, fun i o hi e => .inl ?_⟩, ?_⟩)
  · rw [List.getElem?_append_left hi] at e
    exact e
  · rw [List.take_left']
    · exact q
    · rfl
theorem gc_app_tl {h l : Hd} {k : Nat} {xs : List D} {Q : PD} (hk : h.length ≤ k) (e : (h ++ l)[k]? = some (.lst xs)) (c : D.cleans h.length xs) (q : Q (.tl xs) h) : Gc h (.loc k) (h ++ l) Q := by
  refine gc_tl hk e c ⟨by simp, fun i o hi e => .inl ?_⟩ ?_
  · rw [List.getElem?_append_left hi] at e
    exact e
  · rw [List.take_left']
    · exact q
    · rfl
section
variable {cl : CallD} {gl : List (Str × D)} {τ : Sd} {h : Hd} {Q : PD}
theorem look_app {h l : Hd} {a : Nat} {o : DO} (e : h[a]? = some o) : (h ++ l)[a]? = some o := by
  rw [List.getElem?_append_left (List.getElem?_eq_some_iff.mp e).1]; exact e
theorem look_here {h l : Hd} {o : DO} : (h ++ o :: l)[h.length]? = some o := by simp
@[simp] theorem look_next {h l : Hd} {o p : DO} : (h ++ o :: p :: l)[h.length + 1]? = some p := by simp
theorem seqOf_app {h l : Hd} {x : D} {xs : List D} (e : seqOf h x = some xs) : seqOf (h ++ l) x = some xs := by
  cases x with
  | loc a =>
    simp only [seqOf, lstOf] at e ⊢
    split at e
    · rename_i ys e2
      rw [look_app e2]
      exact e
    · cases e
  | _ => exact e
/-! lists of numbers, of truths -/
theorem blsOf_map {α : Type} (f : α → Bool) : ∀ as : List α, blsOf (as.map fun a => D.bl (f a)) = some (as.map f)
  | [] => rfl
  | a :: as => by simp only [List.map_cons, blsOf, blsOf_map f as]
theorem intsOf_map {α : Type} (f : α → Int) : ∀ as : List α, intsOf (as.map fun a => D.int (f a)) = some (as.map f)
  | [] => rfl
  | a :: as => by simp only [List.map_cons, intsOf, intsOf_map f as]
theorem intsOf_ints (ns : List Int) : intsOf (ns.map D.int) = some ns := by
  have := intsOf_map (fun i : Int => i) ns
  simpa using this
theorem x_any {α : Type} (f : α → Bool) {as : List α} : px .any [.tl (as.map fun a => D.bl (f a))] h Q = Q (.bl (as.any f)) h := by
  have e : blsAt h (.tl (as.map fun a => D.bl (f a))) = some (as.map f) := blsOf_map f as
  simp only [px_eq, wpP, anyW, e]
  rw [List.any_map]; rfl
theorem x_all {α : Type} (f : α → Bool) {as : List α} : px .all [.tl (as.map fun a => D.bl (f a))] h Q = Q (.bl (as.all f)) h := by
  have e : blsAt h (.tl (as.map fun a => D.bl (f a))) = some (as.map f) := blsOf_map f as
  simp only [px_eq, wpP, allW, e]
  rw [List.all_map]; rfl
theorem ints_at_of {x : D} {ns : List Int} (e : lstOf h x = some (ns.map D.int)) : intsAt h x = some ns := by
  unfold intsAt
  rw [e]
  exact intsOf_ints ns
theorem x_sum {x : D} {ns : List Int} (e : lstOf h x = some (ns.map D.int)) : px .sum [x] h Q = Q (.int ns.sum) h := by
  simp only [px_eq, wpP, sumW, ints_at_of e]
theorem x_sorted {x : D} {ns : List Int} (e : seqOf h x = some (ns.map D.int)) : px .sorted [x] h Q = Q (.tl ((sortI ns).map D.int)) h := by
  have e2 : intsSq h x = some ns := by
    unfold intsSq
    rw [e]
    exact intsOf_ints ns
  simp only [px_eq, wpP, sortedW, e2]
theorem x_sortedSet {x : D} {ns : List Int} (e : lstOf h x = some (ns.map D.int)) : px .sortedSet [x] h Q = (ns.length < 64 ∧ ∀ us : List Int, us.Pairwise (· < ·) → (∀ k, k ∈ us ↔ k ∈ ns) → Q (.tl (us.map D.int)) h) := by
  simp only [px_eq, wpP, sortedSetW, ints_at_of e]
theorem x_lenSet {x : D} {ns : List Int} (e : lstOf h x = some (ns.map D.int)) : px .lenSet [x] h Q = (ns.length < 4000 ∧ ∀ us : List Int, us.Nodup → (∀ k, k ∈ us ↔ k ∈ ns) → Q (.int us.length) h) := by
  simp only [px_eq, wpP, lenSetW, ints_at_of e]
theorem x_maxL {x : D} {ns : List Int} {m : Int} (e : lstOf h x = some (ns.map D.int)) (em : ns.max? = some m) : px .maxL [x] h Q = Q (.int m) h := by
  simp only [px_eq, wpP, maxLW, ints_at_of e, em]
theorem x_minL {x : D} {ns : List Int} {m : Int} (e : lstOf h x = some (ns.map D.int)) (em : ns.min? = some m) : px .minL [x] h Q = Q (.int m) h := by
  simp only [px_eq, wpP, minLW, ints_at_of e, em]
@[simp ↓] theorem x_max2 {i j : Int} : px .max2 [.int i, .int j] h Q = Q (.int (if j > i then j else i)) h := by (try simp only [px_eq]) <;> rfl
@[simp ↓] theorem x_min2 {i j : Int} : px .min2 [.int i, .int j] h Q = Q (.int (if j < i then j else i)) h := by (try simp only [px_eq]) <;> rfl
@[simp ↓] theorem x_mulTp {a : List D} {k : Int} : px .mul [.tup a, .int k] h Q = ((-(2 ^ 63) ≤ k ∧ k ≤ 1000 ∧ a.length ≤ 1000) ∧ Q (.tup (List.replicate k.toNat a).flatten) h) := by (try simp only [px_eq]) <;> rfl
@[simp ↓] theorem x_tupleTl {xs : List D} : px .tuple [.tl xs] h Q = Q (.tup xs) h := by (try simp only [px_eq]) <;> rfl
@[simp ↓] theorem x_tupleTp {xs : List D} : px .tuple [.tup xs] h Q = Q (.tup xs) h := by (try simp only [px_eq]) <;> rfl
@[simp ↓] theorem x_tupleRl {xs : List D} : px .tuple [.rl xs] h Q = Q (.tup xs) h := by (try simp only [px_eq]) <;> rfl
/-! parts of tuples -/
@[simp ↓] theorem x_slHiT {xs : List D} {i : Int} : px .slHi [.tup xs, .int i] h Q = Q (.tup (cutD xs none (some i))) h := by (try simp only [px_eq]) <;> rfl
@[simp ↓] theorem x_slLoT {xs : List D} {i : Int} : px .slLo [.tup xs, .int i] h Q = Q (.tup (cutD xs (some i) none)) h := by (try simp only [px_eq]) <;> rfl
@[simp ↓] theorem x_slHiTl {xs : List D} {i : Int} : px .slHi [.tl xs, .int i] h Q = Q (.tl (cutD xs none (some i))) h := by (try simp only [px_eq]) <;> rfl
@[simp ↓] theorem x_slLoTl {xs : List D} {i : Int} : px .slLo [.tl xs, .int i] h Q = Q (.tl (cutD xs (some i) none)) h := by (try simp only [px_eq]) <;> rfl
theorem cut_take {xs : List D} {n : Nat} : cutD xs none (some (n : Int)) = xs.take n := by
  unfold cutD
  rw [HT.sIx_none, HT.sIx_nat, List.drop_zero, Nat.sub_zero]
  by_cases hn : n ≤ xs.length
  · rw [Nat.min_eq_left hn]
  · rw [Nat.min_eq_right (by omega), List.take_length, List.take_of_length_le (by omega)]
theorem cut_drop {xs : List D} {n : Nat} : cutD xs (some (n : Int)) none = xs.drop n := by
  unfold cutD
  rw [HT.sIx_none, HT.sIx_nat]
  by_cases hn : n ≤ xs.length
  · rw [Nat.min_eq_left hn, List.take_of_length_le (by rw [List.length_drop]; omega)]
  · rw [Nat.min_eq_right (by omega), Nat.sub_self, List.take_zero, List.drop_of_length_le (by omega)]
/-! membership -/
theorem x_in {x y : D} {xs : List D} (e : seqOf h y = some xs) (c : flatD x = true ∧ xs.all flatD = true ∧ ¬ (flatB x = true ∧ xs.any flatI = true) ∧ ¬ (flatI x = true ∧ xs.any flatB = true)) : px .in_ [x, y] h Q = Q (.bl (xs.any fun z => feq z x)) h := by
  have e2 : inW x y h (bo Q) = ((flatD x = true ∧ xs.all flatD = true ∧ ¬ (flatB x = true ∧ xs.any flatI = true) ∧ ¬ (flatI x = true ∧ xs.any flatB = true)) ∧ bo Q (xs.any fun z => feq z x) h) := by
    unfold inW; rw [e]
  simp only [px_eq, wpP, e2, bo]
  exact propext ⟨fun z => z.2, fun z => ⟨c, z⟩⟩
theorem x_notin {x y : D} {xs : List D} (e : seqOf h y = some xs) (c : flatD x = true ∧ xs.all flatD = true ∧ ¬ (flatB x = true ∧ xs.any flatI = true) ∧ ¬ (flatI x = true ∧ xs.any flatB = true)) : px .notin [x, y] h Q = Q (.bl (!xs.any fun z => feq z x)) h := by
  have e2 : inW x y h (bon Q) = ((flatD x = true ∧ xs.all flatD = true ∧ ¬ (flatB x = true ∧ xs.any flatI = true) ∧ ¬ (flatI x = true ∧ xs.any flatB = true)) ∧ bon Q (xs.any fun z => feq z x) h) := by
    unfold inW; rw [e]
  simp only [px_eq, wpP, e2, bon]
  exact propext ⟨fun z => z.2, fun z => ⟨c, z⟩⟩
/-- numbers among numbers -/
theorem in_ints {i : Int} {ns : List Int} : ((ns.map D.int).any fun z => feq z (.int i)) = decide (i ∈ ns) := by
  induction ns with
  | nil => rfl
  | cons n ns ih =>
    rw [List.map_cons, List.any_cons, ih]
    show (n == i || decide (i ∈ ns)) = _
    by_cases hn : n = i
    · subst hn; simp
    · have : (n == i) = false := by simpa using hn
      rw [this]
      simp [Ne.symm hn]
theorem flat_ints {i : Int} {ns : List Int} : flatD (.int i) = true ∧ (ns.map D.int).all flatD = true ∧ ¬ (flatB (.int i) = true ∧ (ns.map D.int).any flatI = true) ∧ ¬ (flatI (.int i) = true ∧ (ns.map D.int).any flatB = true) := by
  refine ⟨rfl, ?_, (fun z => by cases z.1), fun z => ?_⟩
  · rw [List.all_map]; exact List.all_eq_true.mpr fun _ _ => rfl
  · have := z.2
    rw [List.any_map] at this
    obtain ⟨_, _, w⟩ := List.any_eq_true.mp this
    cases w
theorem x_inI {i : Int} {y : D} {ns : List Int} (e : seqOf h y = some (ns.map D.int)) : px .in_ [.int i, y] h Q = Q (.bl (decide (i ∈ ns))) h := by
  rw [x_in e flat_ints, in_ints]
theorem x_notinI {i : Int} {y : D} {ns : List Int} (e : seqOf h y = some (ns.map D.int)) : px .notin [.int i, y] h Q = Q (.bl (!decide (i ∈ ns))) h := by
  rw [x_notin e flat_ints, in_ints]
/-! truths told or not -/
def tv : Option Bool → D
  | none => .non
  | some b => .bl b
theorem feq_tv (a b : Option Bool) : feq (tv a) (tv b) = decide (b = a) := by
  cases a with
  | none => cases b <;> rfl
  | some x => cases b with
    | none => rfl
    | some y => cases x <;> cases y <;> rfl
theorem x_inTv {o : Option Bool} {y : D} {os : List (Option Bool)} (e : seqOf h y = some (os.map tv)) : px .in_ [tv o, y] h Q = Q (.bl (decide (o ∈ os))) h := by
  rw [x_in e]
  · congr 2
    rw [List.any_map]
    induction os with
    | nil => rfl
    | cons p os ih =>
      rw [List.any_cons]
      have ih' : (os.any ((fun z => feq z (tv o)) ∘ tv)) = decide (o ∈ os) := by
        clear ih e
        induction os with
        | nil => rfl
        | cons p os ih => rw [List.any_cons, ih, Function.comp, feq_tv]; simp
      rw [ih', Function.comp, feq_tv]; simp
  · refine ⟨by cases o <;> rfl, ?_, fun z => ?_, fun z => ?_⟩
    · rw [List.all_map]; exact List.all_eq_true.mpr fun o _ => by cases o <;> rfl
    · have := z.2
      rw [List.any_map] at this
      obtain ⟨o, _, w⟩ := List.any_eq_true.mp this
      cases o <;> cases w
    · have := z.1
      cases o <;> cases this
theorem cleans_tv {n : Nat} : ∀ os : List (Option Bool), D.cleans n (os.map tv)
  | [] => trivial
  | o :: os => by simp only [List.map_cons, D.cleans]; exact ⟨by cases o <;> trivial, cleans_tv os⟩
@[simp] theorem isNon_tv {o : Option Bool} : isNonD (tv o) = decide (o = none) := by cases o <;> rfl
@[simp] theorem isBl_tv {o : Option Bool} {b : Bool} : isBlD b (tv o) = decide (o = some b) := by
  cases o with
  | none => rfl
  | some c => cases b <;> cases c <;> rfl
@[simp ↓] theorem m_tv {o : Option Bool} : mat (tv o) h Q = Q (tv o) h := by cases o <;> rfl
/-! equality of lists of numbers, of a tuple with the empty one -/
theorem pds_ints : ∀ ns : List Int, D.pds (ns.map D.int) = ns.map PyData.int
  | [] => rfl
  | n :: ns => by simp only [List.map_cons, D.pds, D.pd, pds_ints ns]
theorem pures_ints : ∀ ns : List Int, D.pures (ns.map D.int) = true
  | [] => rfl
  | n :: ns => by simp only [List.map_cons, D.pures, D.pure, pures_ints ns, Bool.and_self]
theorem can_ints : ∀ ns : List Int, PyData.canLayAll0 (ns.map PyData.int) = true
  | [] => rfl
  | n :: ns => by simp only [List.map_cons, PyData.canLayAll0, PyData.canLay0, can_ints ns, Bool.and_self]
theorem depth_ints : ∀ ns : List Int, PyData.depthAll (ns.map PyData.int) = 0
  | [] => rfl
  | n :: ns => by simp only [List.map_cons, PyData.depthAll, PyData.depth, depth_ints ns]; rfl
theorem eqv_ints : ∀ ns ms : List Int, PyData.eqvAll (ns.map PyData.int) (ms.map PyData.int) = decide (ns = ms)
  | [], [] => rfl
  | [], _ :: _ => by simp [PyData.eqvAll]
  | _ :: _, [] => by simp [PyData.eqvAll]
  | n :: ns, m :: ms => by
    simp only [List.map_cons, PyData.eqvAll, PyData.eqv, eqv_ints ns ms]
    by_cases h1 : n = m
    · subst h1; simp
    · simp [h1]
theorem shaped_list {ns : List Int} : SeqAt.shaped (.list (ns.map PyData.int)) = true := by
  simp [SeqAt.shaped, PyData.canLay0, can_ints, PyData.depth, depth_ints]
theorem shaped_tuple {ns : List Int} : SeqAt.shaped (.tuple (ns.map PyData.int)) = true := by
  simp [SeqAt.shaped, PyData.canLay0, can_ints, PyData.depth, depth_ints]
theorem snap_intsL {x : D} {ns : List Int} (e : lstOf h x = some (ns.map D.int)) : snap h x = some (.list (ns.map PyData.int)) := by
  have hp : x.pure = false := by cases x <;> first | (cases e; done) | rfl | skip
                                 all_goals (simp [lstOf] at e)
  unfold snap
  rw [hp, e]
  simp only [pures_ints, pds_ints]; rfl
theorem snap_intsT {ns : List Int} : snap h (.tup (ns.map D.int)) = some (.tuple (ns.map PyData.int)) := by
  unfold snap
  have hp : D.pure (.tup (ns.map D.int)) = true := by simp only [D.pure, pures_ints]
  rw [hp]
  simp only [D.pd, pds_ints]; rfl
theorem x_eqIL {x y : D} {ns ms : List Int} (e1 : lstOf h x = some (ns.map D.int)) (e2 : lstOf h y = some (ms.map D.int)) : px .eq [x, y] h Q = Q (.bl (decide (ns = ms))) h := by
  have e3 : ∀ R : Bool → Hd → Prop, eqW x y h R = R (decide (ns = ms)) h := by
    intro R
    have s1 := snap_intsL e1
    have s2 := snap_intsL e2
    cases x <;> first | (cases e1; done) | skip
    all_goals (simp only [eqW, s1, s2, shaped_list, PyData.eqv, eqv_ints, true_and])
  simp only [px_eq, wpP, e3, bo]
theorem eqW_IT {ns ms : List Int} (R : Bool → Hd → Prop) : eqW (.tup (ns.map D.int)) (.tup (ms.map D.int)) h R = R (decide (ns = ms)) h := by
  simp only [eqW, snap_intsT, shaped_tuple, PyData.eqv, eqv_ints, true_and]
theorem x_eqIT {ns ms : List Int} : px .eq [.tup (ns.map D.int), .tup (ms.map D.int)] h Q = Q (.bl (decide (ns = ms))) h := by simp only [px_eq, wpP, eqW_IT, bo]
theorem x_neIT {ns ms : List Int} : px .ne [.tup (ns.map D.int), .tup (ms.map D.int)] h Q = Q (.bl (!decide (ns = ms))) h := by simp only [px_eq, wpP, eqW_IT, bon]
theorem x_neIT0 {ns : List Int} : px .ne [.tup (ns.map D.int), .tup []] h Q = Q (.bl (!decide (ns = []))) h := x_neIT (ms := [])
end
/-! comprehensions -/
theorem comp_on {α : Type} {ok : Hd → Prop} {p : Pat} {elt : TEd} {τ : Sd} {Q : List D → Hd → Prop} {h : Hd} (f g : α → D) {as : List α} (hl : as.length ≤ sizeLine) (hok : ok h)
    (step : ∀ a ∈ as, ∀ (k : D → Hd → Prop), k (g a) h → bindW p (f a) τ fun τ' => elt τ' h fun y h2 => mat y h2 k)
    (q : Q (as.map g) h) : compW ok p yesT elt τ Q (as.map f) [] h := by
  have key : ∀ (as : List α) (acc : List D), as.length + acc.length ≤ sizeLine → (∀ a ∈ as, ∀ (k : D → Hd → Prop), k (g a) h → bindW p (f a) τ fun τ' => elt τ' h fun y h2 => mat y h2 k) → Q (acc ++ as.map g) h →
      compW ok p yesT elt τ Q (as.map f) acc h := by
    intro as
    induction as with
    | nil => intro acc _ _ q; simp only [List.map_nil, compW]; exact ⟨hok, by simpa using q⟩
    | cons a as ih =>
      intro acc hl step q
      rw [List.length_cons] at hl
      simp only [List.map_cons, compW, yesT, if_true]
      refine ⟨hok, step a List.mem_cons_self _ ⟨by omega, ih _ (by rw [List.length_append]; simp; omega) (fun b hb => step b (List.mem_cons_of_mem _ hb)) (by simpa using q)⟩⟩
  exact key as [] (by simpa using hl) step q
theorem comp_onf {α : Type} {ok : Hd → Prop} {p : Pat} {cond : TTd} {elt : TEd} {τ : Sd} {Q : List D → Hd → Prop} {h : Hd} (f g : α → D) (c : α → Bool) {as : List α} (hl : as.length ≤ sizeLine) (hok : ok h)
    (step : ∀ a ∈ as, ∀ (k : D → Hd → Prop) (s : Hd → Prop), (if c a = true then k (g a) h else s h) → bindW p (f a) τ fun τ' => cond τ' h fun b h1 => if b = true then elt τ' h1 fun y h2 => mat y h2 k else s h1)
    (q : Q ((as.filter c).map g) h) : compW ok p cond elt τ Q (as.map f) [] h := by
  have key : ∀ (as : List α) (acc : List D), as.length + acc.length ≤ sizeLine → (∀ a ∈ as, ∀ (k : D → Hd → Prop) (s : Hd → Prop), (if c a = true then k (g a) h else s h) → bindW p (f a) τ fun τ' => cond τ' h fun b h1 => if b = true then elt τ' h1 fun y h2 => mat y h2 k else s h1) →
      Q (acc ++ (as.filter c).map g) h → compW ok p cond elt τ Q (as.map f) acc h := by
    intro as
    induction as with
    | nil => intro acc _ _ q; simp only [List.map_nil, compW]; exact ⟨hok, by simpa using q⟩
    | cons a as ih =>
      intro acc hl step q
      rw [List.length_cons] at hl
      simp only [List.map_cons, compW]
      refine ⟨hok, step a List.mem_cons_self _ _ ?_⟩
      have st := fun b (hb : b ∈ as) => step b (List.mem_cons_of_mem _ hb)
      split
      · rename_i hc
        exact ⟨by omega, ih _ (by rw [List.length_append]; simp; omega) st (by simpa [hc] using q)⟩
      · rename_i hc
        exact ih _ (by omega) st (by simpa [hc] using q)
  exact key as [] (by simpa using hl) step q
/-- a comprehension that changes the heap -/
theorem comp_inv {ok : Hd → Prop} {p : Pat} {cond : TTd} {elt : TEd} {τ : Sd} {Q : List D → Hd → Prop} {h : Hd} (I : Nat → List D → Hd → Prop) {xs : List D} (hl : xs.length ≤ sizeLine) (h0 : I 0 [] h)
    (step : ∀ (i : Nat) (x : D) (acc : List D) (h : Hd) (k : D → Hd → Prop) (s : Hd → Prop), xs[i]? = some x → I i acc h → (∀ y h', I (i + 1) (acc ++ [y]) h' → k y h') → (∀ h', I (i + 1) acc h' → s h') →
      ok h ∧ bindW p x τ fun τ' => cond τ' h fun b h1 => if b = true then elt τ' h1 fun y h2 => mat y h2 k else s h1)
    (done : ∀ acc h, I xs.length acc h → ok h ∧ Q acc h) : compW ok p cond elt τ Q xs [] h := by
  have key : ∀ (m i : Nat) (acc : List D) (h : Hd), i + m = xs.length → acc.length ≤ i → I i acc h → compW ok p cond elt τ Q (xs.drop i) acc h := by
    intro m
    induction m with
    | zero =>
      intro i acc h e _ q
      have e : i = xs.length := by omega
      subst e
      rw [List.drop_length]
      simp only [compW]
      exact done acc h q
    | succ m ih =>
      intro i acc h e ha q
      have hi : i < xs.length := by omega
      rw [List.drop_eq_getElem_cons hi]
      simp only [compW]
      exact step i _ acc h _ _ (List.getElem?_eq_getElem hi) q (fun y h' z => ⟨by omega, ih (i + 1) _ h' (by omega) (by simpa using ha) z⟩) (fun h' z => ih (i + 1) _ h' (by omega) (by omega) z)
  exact key xs.length 0 [] h (by omega) (Nat.le_refl _) h0
theorem rangeD_map (lo : Int) (n : Nat) : rangeD lo n = (List.range n).map fun (i : Nat) => D.int (lo + (i : Int)) := rfl
/-! places -/
@[simp] theorem atI_zero {x : D} {xs : List D} : atI (x :: xs) 0 = some x := by simp [atI, ixN]
@[simp] theorem atI_one {x y : D} {xs : List D} : atI (x :: y :: xs) 1 = some y := by
  unfold atI ixN
  rw [if_pos (by omega), if_pos (by simp; omega)]; rfl
@[simp] theorem atI_two {x y z : D} {xs : List D} : atI (x :: y :: z :: xs) 2 = some z := by
  unfold atI ixN
  rw [if_pos (by omega), if_pos (by simp; omega)]; rfl
@[simp] theorem atI_three {x y z u : D} {xs : List D} : atI (x :: y :: z :: u :: xs) 3 = some u := by
  unfold atI ixN
  rw [if_pos (by omega), if_pos (by simp; omega)]; rfl
theorem atI_map {α : Type} {f : α → D} {as : List α} {i : Int} {a : α} (h0 : 0 ≤ i) (e : as[i.toNat]? = some a) : atI (as.map f) i = some (f a) := by
  have hi := (List.getElem?_eq_some_iff.mp e).1
  unfold atI ixN
  rw [if_pos h0, if_pos (by rw [List.length_map]; omega)]
  simp [e]
theorem atI_map_nat {α : Type} {f : α → D} {as : List α} {i : Nat} {a : α} (e : as[i]? = some a) : atI (as.map f) (i : Int) = some (f a) := atI_map (by omega) (by simpa using e)
end Py

namespace K23
open PySem PySem.Spec PyProof.Rows L2 Py
def top (i : Nat) : Stmt := PySem.Challenge.pw_sayswhy_k23_clauses_spread_by_units.main.body.getD i (.Pass ⟨0, 0, 0, 0⟩)
def b_truth_of : CS :=
  (.seq (.asg (.nm 2) (.prim .idx (.acons (.var 0) (.acons (.prim .sub (.acons (.prim .abs (.acons (.var 1) .anil)) (.acons (.cst (.int 1)) .anil))) .anil))))
  (.seq (.ite (.prim .is_ (.acons (.var 2) (.acons (.cst .non) .anil)))
    (.seq (.ret (.cst .non))
    .nil)
    .nil)
  (.seq (.ret (.ife (.prim .gt (.acons (.var 1) (.acons (.cst (.int 0)) .anil))) (.var 2) (.not_ (.var 2))))
  .nil)))
abbrev d_truth_of : FD := ⟨"truth_of", ["truths", "number"], ["truths", "number", "truth"], top 1, b_truth_of⟩
def b_holds : CS :=
  (.seq (.asg (.nm 2) (.comp (.nm 3) (.var 1) none .anil (.call 0 (.acons (.var 0) (.acons (.var 3) .anil)))))
  (.seq (.ite (.prim .in_ (.acons (.cst (.bl true)) (.acons (.var 2) .anil)))
    (.seq (.ret (.cst (.bl true)))
    .nil)
    .nil)
  (.seq (.ret (.ife (.prim .in_ (.acons (.cst .non) (.acons (.var 2) .anil))) (.cst .non) (.cst (.bl false))))
  .nil)))
abbrev d_holds : FD := ⟨"holds", ["truths", "clause"], ["truths", "clause", "told", "number"], top 2, b_holds⟩
def b_all_hold : CS :=
  (.seq (.asg (.nm 2) (.comp (.nm 3) (.var 1) none .anil (.call 1 (.acons (.var 0) (.acons (.var 3) .anil)))))
  (.seq (.ite (.prim .in_ (.acons (.cst (.bl false)) (.acons (.var 2) .anil)))
    (.seq (.ret (.cst (.bl false)))
    .nil)
    .nil)
  (.seq (.ret (.ife (.prim .in_ (.acons (.cst .non) (.acons (.var 2) .anil))) (.cst .non) (.cst (.bl true))))
  .nil)))
abbrev d_all_hold : FD := ⟨"all_hold", ["truths", "clauses"], ["truths", "clauses", "told", "clause"], top 3, b_all_hold⟩
def b_unit_of : CS :=
  (.seq (.ite (.prim .isnot (.acons (.call 1 (.acons (.var 0) (.acons (.var 1) .anil))) (.acons (.cst .non) .anil)))
    (.seq (.ret (.cst .non))
    .nil)
    .nil)
  (.seq (.asg (.nm 2) (.comp (.nm 3) (.var 1) (some ()) (.prim .is_ (.acons (.call 0 (.acons (.var 0) (.acons (.var 3) .anil))) (.acons (.cst .non) .anil))) (.var 3)))
  (.seq (.ret (.ife (.prim .eq (.acons (.prim .len (.acons (.var 2) .anil)) (.acons (.cst (.int 1)) .anil))) (.prim .idx (.acons (.var 2) (.acons (.cst (.int 0)) .anil))) (.cst .non)))
  .nil)))
abbrev d_unit_of : FD := ⟨"unit_of", ["truths", "clause"], ["truths", "clause", "left", "number"], top 4, b_unit_of⟩
def b_with_true : CS :=
  (.seq (.asg (.nm 2) (.prim .sub (.acons (.prim .abs (.acons (.var 1) .anil)) (.acons (.cst (.int 1)) .anil))))
  (.seq (.ret (.prim .add (.acons (.prim .add (.acons (.prim .slHi (.acons (.var 0) (.acons (.var 2) .anil))) (.acons (.tup (.acons (.prim .gt (.acons (.var 1) (.acons (.cst (.int 0)) .anil))) .anil)) .anil))) (.acons (.prim .slLo (.acons (.var 0) (.acons (.prim .add (.acons (.var 2) (.acons (.cst (.int 1)) .anil))) .anil))) .anil))))
  .nil))
abbrev d_with_true : FD := ⟨"with_true", ["truths", "number"], ["truths", "number", "at"], top 5, b_with_true⟩
def b_false_clause : CS :=
  (.seq (.forr (.nm 2) (.r1 (.prim .len (.acons (.var 1) .anil)))
    (.seq (.ite (.prim .is_ (.acons (.call 1 (.acons (.var 0) (.acons (.prim .idx (.acons (.var 1) (.acons (.var 2) .anil))) .anil))) (.acons (.cst (.bl false)) .anil)))
      (.seq (.ret (.var 2))
      .nil)
      .nil)
    .nil))
  (.seq (.ret (.cst .non))
  .nil))
abbrev d_false_clause : FD := ⟨"false_clause", ["truths", "clauses"], ["truths", "clauses", "at"], top 6, b_false_clause⟩
def b_first_unit : CS :=
  (.seq (.forr (.nm 2) (.var 1)
    (.seq (.asg (.nm 3) (.call 3 (.acons (.var 0) (.acons (.var 2) .anil))))
    (.seq (.ite (.prim .isnot (.acons (.var 3) (.acons (.cst .non) .anil)))
      (.seq (.ret (.var 3))
      .nil)
      .nil)
    .nil)))
  (.seq (.ret (.cst .non))
  .nil))
abbrev d_first_unit : FD := ⟨"first_unit", ["truths", "clauses"], ["truths", "clauses", "clause", "unit"], top 7, b_first_unit⟩
def b_spread : CS :=
  (.seq (.asg (.nm 2) (.var 0))
  (.seq (.asg (.nm 3) (.call 5 (.acons (.var 2) (.acons (.var 1) .anil))))
  (.seq (.asg (.nm 4) (.ife (.prim .is_ (.acons (.var 3) (.acons (.cst .non) .anil))) (.call 6 (.acons (.var 2) (.acons (.var 1) .anil))) (.cst .non)))
  (.seq (.whil (.prim .isnot (.acons (.var 4) (.acons (.cst .non) .anil)))
    (.seq (.asg (.nm 2) (.call 4 (.acons (.var 2) (.acons (.var 4) .anil))))
    (.seq (.asg (.nm 3) (.call 5 (.acons (.var 2) (.acons (.var 1) .anil))))
    (.seq (.asg (.nm 4) (.ife (.prim .is_ (.acons (.var 3) (.acons (.cst .non) .anil))) (.call 6 (.acons (.var 2) (.acons (.var 1) .anil))) (.cst .non)))
    .nil))))
  (.seq (.ret (.tup (.acons (.var 2) (.acons (.var 3) .anil))))
  .nil)))))
abbrev d_spread : FD := ⟨"spread", ["truths", "clauses"], ["truths", "clauses", "here", "false", "unit"], top 8, b_spread⟩
def b_is_clause : CS :=
  (.seq (.ite (.prim .any (.acons (.comp (.nm 2) (.var 1) none .anil (.or_ (.prim .eq (.acons (.var 2) (.acons (.cst (.int 0)) .anil))) (.prim .gt (.acons (.prim .abs (.acons (.var 2) .anil)) (.acons (.var 0) .anil))))) .anil))
    (.seq (.ret (.cst (.bl false)))
    .nil)
    .nil)
  (.seq (.ret (.prim .all (.acons (.comp (.nm 3) (.r1 (.prim .sub (.acons (.prim .len (.acons (.var 1) .anil)) (.acons (.cst (.int 1)) .anil)))) none .anil (.prim .lt (.acons (.prim .abs (.acons (.prim .idx (.acons (.var 1) (.acons (.var 3) .anil))) .anil)) (.acons (.prim .abs (.acons (.prim .idx (.acons (.var 1) (.acons (.prim .add (.acons (.var 3) (.acons (.cst (.int 1)) .anil))) .anil))) .anil)) .anil)))) .anil)))
  .nil))
abbrev d_is_clause : FD := ⟨"is_clause", ["many", "clause"], ["many", "clause", "number", "at"], top 9, b_is_clause⟩
def b__law_draws : CS :=
  (.seq (.asg (.nm 2) (.comp (.nm 3) (.var 0) none .anil (.prim .int1 (.acons (.var 3) .anil))))
  (.seq (.ite (.prim .eq (.acons (.prim .len (.acons (.var 2) .anil)) (.acons (.cst (.int 0)) .anil)))
    (.seq (.expr (.meth .append (.var 2) (.acons (.cst (.int 0)) .anil)))
    .nil)
    .nil)
  (.seq (.asg (.nm 4) (.prim .list (.acons (.var 2) .anil)))
  (.seq (.asg (.nm 5) (.lst .anil))
  (.seq (.forr (.nm 6) (.r1 (.var 1))
    (.seq (.asg (.nm 7) (.prim .mod (.acons (.var 6) (.acons (.prim .len (.acons (.var 2) .anil)) .anil))))
    (.seq (.ite (.and_ (.prim .ge (.acons (.prim .idx (.acons (.var 2) (.acons (.var 7) .anil))) (.acons (.prim .pow (.acons (.cst (.int 10)) (.acons (.cst (.int 18)) .anil))) .anil))) (.prim .gt (.acons (.prim .idx (.acons (.var 4) (.acons (.var 7) .anil))) (.acons (.cst (.int 0)) .anil))))
      (.seq (.expr (.meth .append (.var 5) (.acons (.prim .mod (.acons (.prim .int1 (.acons (.prim .idx (.acons (.var 4) (.acons (.var 7) .anil))) .anil)) (.acons (.cst (.int 1000)) .anil))) .anil)))
      (.seq (.setIdx (.var 4) (.var 7) (.prim .fdiv (.acons (.prim .idx (.acons (.var 4) (.acons (.var 7) .anil))) (.acons (.cst (.int 1000)) .anil))))
      .nil))
      (.seq (.asg (.nm 8) (.prim .mod (.acons (.prim .int1 (.acons (.prim .add (.acons (.prim .add (.acons (.prim .mul (.acons (.prim .idx (.acons (.var 2) (.acons (.var 7) .anil))) (.acons (.cst (.int 48271)) .anil))) (.acons (.prim .mul (.acons (.var 6) (.acons (.cst (.int 69621)) .anil))) .anil))) (.acons (.cst (.int 11)) .anil))) .anil)) (.acons (.cst (.int 2147483647)) .anil))))
      (.seq (.expr (.meth .append (.var 5) (.acons (.prim .mod (.acons (.prim .int1 (.acons (.prim .add (.acons (.prim .add (.acons (.prim .mul (.acons (.var 8) (.acons (.var 8) .anil))) (.acons (.prim .mul (.acons (.cst (.int 3)) (.acons (.var 8) .anil))) .anil))) (.acons (.var 6) .anil))) .anil)) (.acons (.cst (.int 1000003)) .anil))) .anil)))
      .nil)))
    .nil)))
  (.seq (.expr (.prim .reverse (.acons (.var 5) .anil)))
  (.seq (.ret (.var 5))
  .nil)))))))
abbrev d__law_draws : FD := ⟨"_law_draws", ["script", "many"], ["script", "many", "cells", "cell", "rest", "drawn", "k", "at", "once"], top 11, b__law_draws⟩
def b__law_take : CS :=
  (.seq (.ite (.prim .eq (.acons (.prim .len (.acons (.var 0) .anil)) (.acons (.cst (.int 0)) .anil)))
    (.seq (.ret (.cst (.int 0)))
    .nil)
    .nil)
  (.seq (.ret (.prim .mod (.acons (.prim .int1 (.acons (.prim .pop (.acons (.var 0) .anil)) .anil)) (.acons (.var 1) .anil))))
  .nil))
abbrev d__law_take : FD := ⟨"_law_take", ["draws", "many"], ["draws", "many"], top 12, b__law_take⟩
def b__law_same : CS :=
  (.seq (.ite (.prim .is_ (.acons (.var 1) (.acons (.cst .non) .anil)))
    (.seq (.ret (.prim .is_ (.acons (.var 0) (.acons (.cst .non) .anil))))
    .nil)
    .nil)
  (.seq (.ite (.prim (.inst "bool") (.acons (.var 1) .anil))
    (.seq (.ret (.and_ (.prim (.inst "bool") (.acons (.var 0) .anil)) (.prim .eq (.acons (.var 0) (.acons (.var 1) .anil)))))
    .nil)
    .nil)
  (.seq (.ite (.prim (.inst "int") (.acons (.var 1) .anil))
    (.seq (.ret (.and_ (.prim (.inst "int") (.acons (.var 0) .anil)) (.and_ (.not_ (.prim (.inst "bool") (.acons (.var 0) .anil))) (.prim .eq (.acons (.var 0) (.acons (.var 1) .anil))))))
    .nil)
    .nil)
  (.seq (.ite (.prim (.inst "str") (.acons (.var 1) .anil))
    (.seq (.ret (.and_ (.prim (.inst "str") (.acons (.var 0) .anil)) (.prim .eq (.acons (.var 0) (.acons (.var 1) .anil)))))
    .nil)
    .nil)
  (.seq (.ite (.or_ (.not_ (.prim (.inst "tuple") (.acons (.var 0) .anil))) (.prim .ne (.acons (.prim .len (.acons (.var 0) .anil)) (.acons (.prim .len (.acons (.var 1) .anil)) .anil))))
    (.seq (.ret (.cst (.bl false)))
    .nil)
    .nil)
  (.seq (.forr (.nm 2) (.r1 (.prim .len (.acons (.var 1) .anil)))
    (.seq (.ite (.not_ (.call 11 (.acons (.prim .idx (.acons (.var 0) (.acons (.var 2) .anil))) (.acons (.prim .idx (.acons (.var 1) (.acons (.var 2) .anil))) .anil))))
      (.seq (.ret (.cst (.bl false)))
      .nil)
      .nil)
    .nil))
  (.seq (.ret (.cst (.bl true)))
  .nil)))))))
abbrev d__law_same : FD := ⟨"_law_same", ["actual", "due"], ["actual", "due", "k"], top 13, b__law_same⟩
def b__law_clause : CS :=
  (.seq (.asg (.nm 3) (.lst .anil))
  (.seq (.forr (.nm 4) (.r2 (.cst (.int 1)) (.prim .add (.acons (.var 1) (.acons (.cst (.int 1)) .anil))))
    (.seq (.ite (.and_ (.prim .lt (.acons (.prim .len (.acons (.var 3) .anil)) (.acons (.var 2) .anil))) (.prim .lt (.acons (.call 10 (.acons (.var 0) (.acons (.var 1) .anil))) (.acons (.var 2) .anil))))
      (.seq (.expr (.meth .append (.var 3) (.acons (.prim .mul (.acons (.var 4) (.acons (.prim .idx (.acons (.lst (.acons (.cst (.int 1)) (.acons (.prim .neg (.acons (.cst (.int 1)) .anil)) .anil))) (.acons (.call 10 (.acons (.var 0) (.acons (.cst (.int 2)) .anil))) .anil))) .anil))) .anil)))
      .nil)
      .nil)
    .nil))
  (.seq (.ret (.prim .tuple (.acons (.var 3) .anil)))
  .nil)))
abbrev d__law_clause : FD := ⟨"_law_clause", ["draws", "many", "most"], ["draws", "many", "most", "found", "name"], top 14, b__law_clause⟩
def b__law_clauses : CS :=
  (.seq (.asg (.nm 3) (.lst .anil))
  (.seq (.forr (.nm 4) (.r1 (.call 10 (.acons (.var 0) (.acons (.prim .add (.acons (.var 2) (.acons (.cst (.int 1)) .anil))) .anil))))
    (.seq (.asg (.nm 5) (.call 12 (.acons (.var 0) (.acons (.var 1) (.acons (.prim .add (.acons (.cst (.int 1)) (.acons (.call 10 (.acons (.var 0) (.acons (.cst (.int 3)) .anil))) .anil))) .anil)))))
    (.seq (.ite (.or_ (.prim .ne (.acons (.var 5) (.acons (.tup .anil) .anil))) (.prim .eq (.acons (.call 10 (.acons (.var 0) (.acons (.cst (.int 12)) .anil))) (.acons (.cst (.int 0)) .anil))))
      (.seq (.expr (.meth .append (.var 3) (.acons (.var 5) .anil)))
      .nil)
      .nil)
    .nil)))
  (.seq (.ret (.prim .tuple (.acons (.var 3) .anil)))
  .nil)))
abbrev d__law_clauses : FD := ⟨"_law_clauses", ["draws", "many", "rows"], ["draws", "many", "rows", "found", "k", "clause"], top 15, b__law_clauses⟩
def b__law_look : CS :=
  (.seq (.asg (.nm 2) (.comp (.nm 3) (.var 1) (some ()) (.and_ (.prim .isnot (.acons (.prim .idx (.acons (.var 0) (.acons (.prim .sub (.acons (.prim .abs (.acons (.var 3) .anil)) (.acons (.cst (.int 1)) .anil))) .anil))) (.acons (.cst .non) .anil))) (.prim .eq (.acons (.prim .idx (.acons (.var 0) (.acons (.prim .sub (.acons (.prim .abs (.acons (.var 3) .anil)) (.acons (.cst (.int 1)) .anil))) .anil))) (.acons (.prim .gt (.acons (.var 3) (.acons (.cst (.int 0)) .anil))) .anil)))) (.var 3)))
  (.seq (.ret (.tup (.acons (.prim .len (.acons (.var 2) .anil)) (.acons (.comp (.nm 3) (.var 1) (some ()) (.prim .is_ (.acons (.prim .idx (.acons (.var 0) (.acons (.prim .sub (.acons (.prim .abs (.acons (.var 3) .anil)) (.acons (.cst (.int 1)) .anil))) .anil))) (.acons (.cst .non) .anil))) (.var 3)) .anil))))
  .nil))
abbrev d__law_look : FD := ⟨"_law_look", ["truths", "clause"], ["truths", "clause", "true", "own"], top 16, b__law_look⟩
def b__law_worth : CS :=
  (.seq (.asg (.tp [2, 3]) (.call 14 (.acons (.var 0) (.acons (.var 1) .anil))))
  (.seq (.ite (.prim .gt (.acons (.var 2) (.acons (.cst (.int 0)) .anil)))
    (.seq (.ret (.cst (.bl true)))
    .nil)
    .nil)
  (.seq (.ret (.prim .idx (.acons (.lst (.acons (.cst (.bl false)) (.acons (.cst .non) .anil))) (.acons (.prim .int1 (.acons (.prim .gt (.acons (.prim .len (.acons (.var 3) .anil)) (.acons (.cst (.int 0)) .anil))) .anil)) .anil))))
  .nil)))
abbrev d__law_worth : FD := ⟨"_law_worth", ["truths", "clause"], ["truths", "clause", "many", "free"], top 17, b__law_worth⟩
def b__law_unit : CS :=
  (.seq (.asg (.tp [2, 3]) (.call 14 (.acons (.var 0) (.acons (.var 1) .anil))))
  (.seq (.ret (.prim .mul (.acons (.prim .idx (.acons (.prim .add (.acons (.var 3) (.acons (.lst (.acons (.cst (.int 0)) .anil)) .anil))) (.acons (.cst (.int 0)) .anil))) (.acons (.prim .int1 (.acons (.and_ (.prim .eq (.acons (.var 2) (.acons (.cst (.int 0)) .anil))) (.prim .eq (.acons (.prim .len (.acons (.var 3) .anil)) (.acons (.cst (.int 1)) .anil)))) .anil)) .anil))))
  .nil))
abbrev d__law_unit : FD := ⟨"_law_unit", ["truths", "clause"], ["truths", "clause", "many", "free"], top 18, b__law_unit⟩
def b__law_spread : CS :=
  (.seq (.asg (.nm 2) (.prim .list (.acons (.var 0) .anil)))
  (.seq (.forr (.nm 3) (.r1 (.prim .add (.acons (.prim .len (.acons (.var 0) .anil)) (.acons (.cst (.int 1)) .anil))))
    (.seq (.asg (.nm 4) (.comp (.nm 5) (.r1 (.prim .len (.acons (.var 1) .anil))) (some ()) (.prim .is_ (.acons (.call 15 (.acons (.var 2) (.acons (.prim .idx (.acons (.var 1) (.acons (.var 5) .anil))) .anil))) (.acons (.cst (.bl false)) .anil))) (.var 5)))
    (.seq (.asg (.nm 6) (.comp (.nm 7) (.var 1) (some ()) (.prim .ne (.acons (.call 16 (.acons (.var 2) (.acons (.var 7) .anil))) (.acons (.cst (.int 0)) .anil))) (.call 16 (.acons (.var 2) (.acons (.var 7) .anil)))))
    (.seq (.ite (.prim .gt (.acons (.prim .len (.acons (.var 4) .anil)) (.acons (.cst (.int 0)) .anil)))
      (.seq (.ret (.tup (.acons (.prim .tuple (.acons (.var 2) .anil)) (.acons (.prim .idx (.acons (.var 4) (.acons (.cst (.int 0)) .anil))) .anil))))
      .nil)
      .nil)
    (.seq (.ite (.prim .gt (.acons (.prim .len (.acons (.var 6) .anil)) (.acons (.cst (.int 0)) .anil)))
      (.seq (.setIdx (.var 2) (.prim .sub (.acons (.prim .abs (.acons (.prim .idx (.acons (.var 6) (.acons (.cst (.int 0)) .anil))) .anil)) (.acons (.cst (.int 1)) .anil))) (.prim .gt (.acons (.prim .idx (.acons (.var 6) (.acons (.cst (.int 0)) .anil))) (.acons (.cst (.int 0)) .anil))))
      .nil)
      .nil)
    .nil)))))
  (.seq (.ret (.tup (.acons (.prim .tuple (.acons (.var 2) .anil)) (.acons (.cst .non) .anil))))
  .nil)))
abbrev d__law_spread : FD := ⟨"_law_spread", ["truths", "clauses"], ["truths", "clauses", "here", "step", "false", "at", "units", "clause"], top 19, b__law_spread⟩
def b__law_same_pair : CS :=
  (.seq (.ite (.or_ (.not_ (.prim (.inst "tuple") (.acons (.var 0) .anil))) (.or_ (.prim .ne (.acons (.prim .len (.acons (.var 0) .anil)) (.acons (.cst (.int 2)) .anil))) (.or_ (.not_ (.prim (.inst "tuple") (.acons (.prim .idx (.acons (.var 0) (.acons (.cst (.int 0)) .anil))) .anil))) (.prim .ne (.acons (.prim .len (.acons (.prim .idx (.acons (.var 0) (.acons (.cst (.int 0)) .anil))) .anil)) (.acons (.prim .len (.acons (.prim .idx (.acons (.var 1) (.acons (.cst (.int 0)) .anil))) .anil)) .anil))))))
    (.seq (.ret (.cst (.bl false)))
    .nil)
    .nil)
  (.seq (.ite (.prim .gt (.acons (.prim .len (.acons (.comp (.nm 2) (.r1 (.prim .len (.acons (.prim .idx (.acons (.var 1) (.acons (.cst (.int 0)) .anil))) .anil))) (some ()) (.not_ (.or_ (.and_ (.prim .is_ (.acons (.prim .idx (.acons (.prim .idx (.acons (.var 0) (.acons (.cst (.int 0)) .anil))) (.acons (.var 2) .anil))) (.acons (.cst .non) .anil))) (.prim .is_ (.acons (.prim .idx (.acons (.prim .idx (.acons (.var 1) (.acons (.cst (.int 0)) .anil))) (.acons (.var 2) .anil))) (.acons (.cst .non) .anil)))) (.or_ (.and_ (.prim .is_ (.acons (.prim .idx (.acons (.prim .idx (.acons (.var 0) (.acons (.cst (.int 0)) .anil))) (.acons (.var 2) .anil))) (.acons (.cst (.bl true)) .anil))) (.prim .is_ (.acons (.prim .idx (.acons (.prim .idx (.acons (.var 1) (.acons (.cst (.int 0)) .anil))) (.acons (.var 2) .anil))) (.acons (.cst (.bl true)) .anil)))) (.and_ (.prim .is_ (.acons (.prim .idx (.acons (.prim .idx (.acons (.var 0) (.acons (.cst (.int 0)) .anil))) (.acons (.var 2) .anil))) (.acons (.cst (.bl false)) .anil))) (.prim .is_ (.acons (.prim .idx (.acons (.prim .idx (.acons (.var 1) (.acons (.cst (.int 0)) .anil))) (.acons (.var 2) .anil))) (.acons (.cst (.bl false)) .anil))))))) (.var 2)) .anil)) (.acons (.cst (.int 0)) .anil)))
    (.seq (.ret (.cst (.bl false)))
    .nil)
    .nil)
  (.seq (.ret (.or_ (.and_ (.prim .is_ (.acons (.prim .idx (.acons (.var 0) (.acons (.cst (.int 1)) .anil))) (.acons (.cst .non) .anil))) (.prim .is_ (.acons (.prim .idx (.acons (.var 1) (.acons (.cst (.int 1)) .anil))) (.acons (.cst .non) .anil)))) (.and_ (.prim .isnot (.acons (.prim .idx (.acons (.var 1) (.acons (.cst (.int 1)) .anil))) (.acons (.cst .non) .anil))) (.and_ (.prim .isnot (.acons (.prim .idx (.acons (.var 0) (.acons (.cst (.int 1)) .anil))) (.acons (.cst .non) .anil))) (.call 11 (.acons (.prim .idx (.acons (.var 0) (.acons (.cst (.int 1)) .anil))) (.acons (.prim .idx (.acons (.var 1) (.acons (.cst (.int 1)) .anil))) .anil)))))))
  .nil)))
abbrev d__law_same_pair : FD := ⟨"_law_same_pair", ["told", "due"], ["told", "due", "at"], top 20, b__law_same_pair⟩
def b__law_are_told : CS :=
  (.seq (.asg (.nm 2) (.comp (.nm 3) (.var 1) none .anil (.call 15 (.acons (.var 0) (.acons (.var 3) .anil)))))
  (.seq (.forr (.nm 4) (.r1 (.prim .len (.acons (.var 1) .anil)))
    (.seq (.asgs [5, 6] (.acons (.call 1 (.acons (.var 0) (.acons (.prim .idx (.acons (.var 1) (.acons (.var 4) .anil))) .anil))) (.acons (.call 3 (.acons (.var 0) (.acons (.prim .idx (.acons (.var 1) (.acons (.var 4) .anil))) .anil))) .anil)))
    (.seq (.ite (.or_ (.and_ (.prim .is_ (.acons (.prim .idx (.acons (.var 2) (.acons (.var 4) .anil))) (.acons (.cst .non) .anil))) (.prim .isnot (.acons (.var 5) (.acons (.cst .non) .anil)))) (.and_ (.prim .isnot (.acons (.prim .idx (.acons (.var 2) (.acons (.var 4) .anil))) (.acons (.cst .non) .anil))) (.not_ (.call 11 (.acons (.var 5) (.acons (.prim .idx (.acons (.var 2) (.acons (.var 4) .anil))) .anil))))))
      (.seq (.ret (.cst (.bl false)))
      .nil)
      .nil)
    (.seq (.asg (.nm 7) (.call 16 (.acons (.var 0) (.acons (.prim .idx (.acons (.var 1) (.acons (.var 4) .anil))) .anil))))
    (.seq (.ite (.or_ (.and_ (.prim .eq (.acons (.var 7) (.acons (.cst (.int 0)) .anil))) (.prim .isnot (.acons (.var 6) (.acons (.cst .non) .anil)))) (.and_ (.prim .ne (.acons (.var 7) (.acons (.cst (.int 0)) .anil))) (.not_ (.call 11 (.acons (.var 6) (.acons (.var 7) .anil))))))
      (.seq (.ret (.cst (.bl false)))
      .nil)
      .nil)
    .nil)))))
  (.seq (.asg (.nm 5) (.call 2 (.acons (.var 0) (.acons (.var 1) .anil))))
  (.seq (.ite (.prim .in_ (.acons (.cst (.bl false)) (.acons (.var 2) .anil)))
    (.seq (.asg (.nm 7) (.prim .is_ (.acons (.var 5) (.acons (.cst (.bl false)) .anil))))
    .nil)
    (.seq (.ite (.prim .in_ (.acons (.cst .non) (.acons (.var 2) .anil)))
      (.seq (.asg (.nm 7) (.prim .is_ (.acons (.var 5) (.acons (.cst .non) .anil))))
      .nil)
      (.seq (.asg (.nm 7) (.prim .is_ (.acons (.var 5) (.acons (.cst (.bl true)) .anil))))
      .nil))
    .nil))
  (.seq (.ret (.and_ (.var 7) (.call 18 (.acons (.call 7 (.acons (.var 0) (.acons (.var 1) .anil))) (.acons (.call 17 (.acons (.var 0) (.acons (.var 1) .anil))) .anil)))))
  .nil)))))
abbrev d__law_are_told : FD := ⟨"_law_are_told", ["truths", "clauses"], ["truths", "clauses", "worths", "clause", "at", "told", "unit", "due"], top 21, b__law_are_told⟩
def b_law : CS :=
  (.seq (.asg (.nm 1) (.call 9 (.acons (.var 0) (.acons (.cst (.int 200)) .anil))))
  (.seq (.asg (.nm 2) (.prim .add (.acons (.cst (.int 1)) (.acons (.call 10 (.acons (.var 1) (.acons (.cst (.int 6)) .anil))) .anil))))
  (.seq (.asg (.nm 3) (.call 13 (.acons (.var 1) (.acons (.var 2) (.acons (.cst (.int 9)) .anil)))))
  (.seq (.forr (.nm 4) (.r1 (.cst (.int 3)))
    (.seq (.asg (.nm 5) (.prim .tuple (.acons (.comp (.nm 6) (.r1 (.var 2)) none .anil (.prim .idx (.acons (.lst (.acons (.cst .non) (.acons (.cst .non) (.acons (.cst (.bl false)) (.acons (.cst (.bl true)) .anil))))) (.acons (.call 10 (.acons (.var 1) (.acons (.cst (.int 4)) .anil))) .anil)))) .anil)))
    (.seq (.ite (.or_ (.not_ (.call 19 (.acons (.var 5) (.acons (.var 3) .anil)))) (.not_ (.call 19 (.acons (.prim .mul (.acons (.tup (.acons (.cst .non) .anil)) (.acons (.var 2) .anil))) (.acons (.var 3) .anil)))))
      (.seq (.ret (.cst (.bl false)))
      .nil)
      .nil)
    .nil)))
  (.seq (.asg (.nm 7) (.prim .tuple (.acons (.comp (.nm 4) (.r1 (.call 10 (.acons (.var 1) (.acons (.cst (.int 4)) .anil)))) none .anil (.prim .sub (.acons (.call 10 (.acons (.var 1) (.acons (.cst (.int 17)) .anil))) (.acons (.cst (.int 8)) .anil)))) .anil)))
  (.seq (.forr (.nm 8) (.lst (.acons (.var 7) (.acons (.prim .tuple (.acons (.prim .sorted (.acons (.var 7) .anil)) .anil)) (.acons (.call 12 (.acons (.var 1) (.acons (.cst (.int 6)) (.acons (.cst (.int 3)) .anil)))) .anil))))
    (.seq (.asg (.nm 9) (.comp (.nm 10) (.var 8) none .anil (.prim .abs (.acons (.var 10) .anil))))
    (.seq (.ite (.not_ (.call 11 (.acons (.call 8 (.acons (.var 2) (.acons (.var 8) .anil))) (.acons (.and_ (.prim .eq (.acons (.var 9) (.acons (.prim .sortedSet (.acons (.var 9) .anil)) .anil))) (.prim .eq (.acons (.prim .len (.acons (.comp (.nm 11) (.var 9) (some ()) (.or_ (.prim .eq (.acons (.var 11) (.acons (.cst (.int 0)) .anil))) (.prim .gt (.acons (.var 11) (.acons (.var 2) .anil)))) (.var 11)) .anil)) (.acons (.cst (.int 0)) .anil)))) .anil))))
      (.seq (.ret (.cst (.bl false)))
      .nil)
      .nil)
    .nil)))
  (.seq (.asg (.nm 12) (.tup (.acons (.tup (.acons (.cst (.int 1)) (.acons (.cst (.int 2)) .anil))) (.acons (.tup (.acons (.prim .neg (.acons (.cst (.int 1)) .anil)) (.acons (.cst (.int 3)) .anil))) (.acons (.tup (.acons (.prim .neg (.acons (.cst (.int 3)) .anil)) (.acons (.cst (.int 4)) .anil))) (.acons (.tup (.acons (.prim .neg (.acons (.cst (.int 2)) .anil)) .anil)) (.acons (.tup (.acons (.prim .neg (.acons (.cst (.int 1)) .anil)) (.acons (.prim .neg (.acons (.cst (.int 4)) .anil)) .anil))) .anil)))))))
  (.seq (.ite (.or_ (.not_ (.call 18 (.acons (.call 7 (.acons (.prim .mul (.acons (.tup (.acons (.cst .non) .anil)) (.acons (.cst (.int 4)) .anil))) (.acons (.var 12) .anil))) (.acons (.tup (.acons (.tup (.acons (.cst (.bl true)) (.acons (.cst (.bl false)) (.acons (.cst (.bl true)) (.acons (.cst (.bl true)) .anil))))) (.acons (.cst (.int 4)) .anil))) .anil)))) (.not_ (.call 18 (.acons (.call 7 (.acons (.tup (.acons (.cst .non) (.acons (.cst .non) .anil))) (.acons (.tup (.acons (.tup (.acons (.cst (.int 2)) .anil)) (.acons (.tup (.acons (.prim .neg (.acons (.cst (.int 1)) .anil)) (.acons (.prim .neg (.acons (.cst (.int 2)) .anil)) .anil))) (.acons (.tup (.acons (.cst (.int 1)) .anil)) .anil)))) .anil))) (.acons (.tup (.acons (.tup (.acons (.cst (.bl false)) (.acons (.cst (.bl true)) .anil))) (.acons (.cst (.int 2)) .anil))) .anil)))))
    (.seq (.ret (.cst (.bl false)))
    .nil)
    .nil)
  (.seq (.ite (.or_ (.not_ (.call 18 (.acons (.call 7 (.acons (.tup (.acons (.cst .non) (.acons (.cst .non) .anil))) (.acons (.tup (.acons (.tup (.acons (.prim .neg (.acons (.cst (.int 1)) .anil)) (.acons (.cst (.int 2)) .anil))) (.acons (.tup (.acons (.cst (.int 1)) .anil)) (.acons (.tup (.acons (.prim .neg (.acons (.cst (.int 2)) .anil)) .anil)) .anil)))) .anil))) (.acons (.tup (.acons (.tup (.acons (.cst (.bl true)) (.acons (.cst (.bl true)) .anil))) (.acons (.cst (.int 2)) .anil))) .anil)))) (.not_ (.call 18 (.acons (.call 7 (.acons (.tup (.acons (.cst .non) .anil)) (.acons (.tup (.acons (.tup (.acons (.cst (.int 1)) .anil)) (.acons (.tup .anil) .anil))) .anil))) (.acons (.tup (.acons (.tup (.acons (.cst .non) .anil)) (.acons (.cst (.int 1)) .anil))) .anil)))))
    (.seq (.ret (.cst (.bl false)))
    .nil)
    .nil)
  (.seq (.ite (.not_ (.call 18 (.acons (.call 7 (.acons (.tup (.acons (.cst (.bl true)) (.acons (.cst .non) .anil))) (.acons (.tup .anil) .anil))) (.acons (.tup (.acons (.tup (.acons (.cst (.bl true)) (.acons (.cst .non) .anil))) (.acons (.cst .non) .anil))) .anil))))
    (.seq (.ret (.cst (.bl false)))
    .nil)
    .nil)
  (.seq (.ite (.or_ (.not_ (.call 11 (.acons (.call 8 (.acons (.cst (.int 4)) (.acons (.tup (.acons (.prim .neg (.acons (.cst (.int 1)) .anil)) (.acons (.cst (.int 3)) (.acons (.prim .neg (.acons (.cst (.int 4)) .anil)) .anil)))) .anil))) (.acons (.cst (.bl true)) .anil)))) (.or_ (.not_ (.call 11 (.acons (.call 8 (.acons (.cst (.int 4)) (.acons (.tup (.acons (.cst (.int 3)) (.acons (.prim .neg (.acons (.cst (.int 1)) .anil)) .anil))) .anil))) (.acons (.cst (.bl false)) .anil)))) (.not_ (.call 11 (.acons (.call 8 (.acons (.cst (.int 4)) (.acons (.tup (.acons (.cst (.int 1)) (.acons (.prim .neg (.acons (.cst (.int 1)) .anil)) .anil))) .anil))) (.acons (.cst (.bl false)) .anil))))))
    (.seq (.ret (.cst (.bl false)))
    .nil)
    .nil)
  (.seq (.ite (.or_ (.not_ (.call 11 (.acons (.call 8 (.acons (.cst (.int 3)) (.acons (.tup (.acons (.cst (.int 4)) .anil)) .anil))) (.acons (.cst (.bl false)) .anil)))) (.not_ (.call 11 (.acons (.call 8 (.acons (.cst (.int 1)) (.acons (.tup .anil) .anil))) (.acons (.cst (.bl true)) .anil)))))
    (.seq (.ret (.cst (.bl false)))
    .nil)
    .nil)
  (.seq (.ite (.not_ (.call 19 (.acons (.tup (.acons (.cst .non) (.acons (.cst (.bl true)) (.acons (.cst (.bl false)) (.acons (.cst .non) .anil))))) (.acons (.var 12) .anil))))
    (.seq (.ret (.cst (.bl false)))
    .nil)
    .nil)
  (.seq (.ret (.and_ (.prim .is_ (.acons (.call 1 (.acons (.tup (.acons (.cst .non) .anil)) (.acons (.tup .anil) .anil))) (.acons (.cst (.bl false)) .anil))) (.and_ (.prim .is_ (.acons (.call 2 (.acons (.tup (.acons (.cst .non) .anil)) (.acons (.tup .anil) .anil))) (.acons (.cst (.bl true)) .anil))) (.and_ (.call 11 (.acons (.call 3 (.acons (.tup (.acons (.cst (.bl false)) (.acons (.cst .non) (.acons (.cst (.bl true)) .anil)))) (.acons (.tup (.acons (.cst (.int 1)) (.acons (.cst (.int 2)) (.acons (.prim .neg (.acons (.cst (.int 3)) .anil)) .anil)))) .anil))) (.acons (.cst (.int 2)) .anil))) (.prim .is_ (.acons (.call 3 (.acons (.tup (.acons (.cst (.bl true)) (.acons (.cst .non) .anil))) (.acons (.tup (.acons (.cst (.int 1)) (.acons (.cst (.int 2)) .anil))) .anil))) (.acons (.cst .non) .anil)))))))
  .nil))))))))))))))
abbrev d_law : FD := ⟨"law", ["script"], ["script", "draws", "many", "clauses", "k", "truths", "name", "some", "own", "sizes", "integer", "size", "few"], top 22, b_law⟩
def gl : List (Str × D) := []
def F : List FD := [d_truth_of, d_holds, d_all_hold, d_unit_of, d_with_true, d_false_clause, d_first_unit, d_spread, d_is_clause, d__law_draws, d__law_take, d__law_same, d__law_clause, d__law_clauses, d__law_look, d__law_worth, d__law_unit, d__law_spread, d__law_same_pair, d__law_are_told, d_law]
def T : Tab := ⟨["truth_of", "holds", "all_hold", "unit_of", "with_true", "false_clause", "first_unit", "spread", "is_clause", "_law_draws", "_law_take", "_law_same", "_law_clause", "_law_clauses", "_law_look", "_law_worth", "_law_unit", "_law_spread", "_law_same_pair", "_law_are_told", "law"], gl, ["abs", "len", "range", "any", "all", "int", "list", "isinstance", "bool", "str", "tuple", "sorted", "set"], []⟩

end K23

namespace K23
open PySem PySem.Spec PyProof.Rows L2 Py
/-! ### mathematics -/
abbrev TS := List (Option Bool)
def gd (k : Nat) (n : Int) : Prop := n ≠ 0 ∧ n.natAbs ≤ k
def tru (ts : TS) (n : Int) : Option Bool := match ts.getD (n.natAbs - 1) none with
  | none => none
  | some b => some (if 0 < n then b else !b)
def hol (ts : TS) (c : List Int) : Option Bool := if some true ∈ c.map (tru ts) then some true else if none ∈ c.map (tru ts) then none else some false
def hols (ts : TS) (cs : List (List Int)) : Option Bool := if some false ∈ cs.map (hol ts) then some false else if none ∈ cs.map (hol ts) then none else some true
def isO (ts : TS) (n : Int) : Bool := decide (tru ts n = none)
def unit (ts : TS) (c : List Int) : Option Int := if hol ts c = none then (match c.filter (isO ts) with | [n] => some n | _ => none) else none
def od : Option Int → D
  | none => .non
  | some n => .int n
def on : Option Nat → D
  | none => .non
  | some n => .int n
def clD (c : List Int) : D := .tup (c.map D.int)
def wt (ts : TS) (n : Int) : TS := ts.set (n.natAbs - 1) (some (decide (0 < n)))
def isF (ts : TS) (c : List Int) : Bool := decide (hol ts c = some false)
theorem abs_nat (i : Int) : (if i < 0 then -i else i) = (i.natAbs : Int) := by
  split <;> omega
theorem abs_nat1 {n : Int} {k : Nat} (h : gd k n) : ((n.natAbs : Int) - 1) = ((n.natAbs - 1 : Nat) : Int) := by
  have := h.1
  omega
theorem at_tru {ts : TS} {n : Int} (hn : gd ts.length n) : atI (ts.map tv) ((n.natAbs : Int) - 1) = some (tv (ts.getD (n.natAbs - 1) none)) := by
  rw [abs_nat1 hn]
  have h1 : n.natAbs - 1 < ts.length := by have := hn.1; have := hn.2; omega
  exact atI_map_nat (by rw [List.getD, List.getElem?_eq_getElem h1]; rfl)
@[simp ↓] theorem m_clD {c : List Int} {h : Hd} {Q : PD} : mat (clD c) h Q = Q (clD c) h := rfl
@[simp ↓] theorem m_od {o : Option Int} {h : Hd} {Q : PD} : mat (od o) h Q = Q (od o) h := by cases o <;> rfl
@[simp ↓] theorem m_on {o : Option Nat} {h : Hd} {Q : PD} : mat (on o) h Q = Q (on o) h := by cases o <;> rfl
@[simp] theorem isNon_od {o : Option Int} : isNonD (od o) = decide (o = none) := by cases o <;> rfl
@[simp] theorem isNon_on {o : Option Nat} : isNonD (on o) = decide (o = none) := by cases o <;> rfl
/-! ### the package's defs -/
theorem x_inB {b : Bool} {y : D} {os : List (Option Bool)} {h : Hd} {Q : PD} (e : seqOf h y = some (os.map tv)) : px .in_ [.bl b, y] h Q = Q (.bl (decide (some b ∈ os))) h := x_inTv (o := some b) e
theorem x_inN {y : D} {os : List (Option Bool)} {h : Hd} {Q : PD} (e : seqOf h y = some (os.map tv)) : px .in_ [.non, y] h Q = Q (.bl (decide (none ∈ os))) h := x_inTv (o := none) e
theorem truth_spec {d : Nat} {ts : TS} {n : Int} {h : Hd} {Q : PD} (hn : gd ts.length n) (q : Q (tv (tru ts n)) h) : wpCall gl F (d+1) 0 [.tup (ts.map tv), .int n] h Q := by
  refine call_of (c := d_truth_of) rfl rfl ?_
  unfold tru at q
  simp only [startD, b_truth_of]
  have e := at_tru hn
  generalize ts.getD (n.natAbs - 1) none = o at q e
  simp [abs_nat, e]
  refine nxt_of ?_
  cases o with
  | none =>
    simp [tv, isNonD]
    exact nxt_of (by simp; exact gc_same q)
  | some b =>
    simp [tv, isNonD]
    refine nxt_of ?_
    simp
    by_cases hp : 0 < n
    · simp [hp] at q ⊢
      exact gc_same q
    · simp [hp] at q ⊢
      exact gc_same q
theorem map_tv {ts : TS} {c : List Int} : (c.map fun n => tv (tru ts n)) = (c.map (tru ts)).map tv := by rw [List.map_map]; rfl
theorem told_loc {h : Hd} {os : List (Option Bool)} : seqOf (h ++ [.lst (os.map tv)]) (.loc h.length) = some (os.map tv) := by simp [seqOf, lstOf]
theorem holds_spec {d : Nat} {ts : TS} {c : List Int} {h : Hd} {Q : PD} (hc : ∀ n ∈ c, gd ts.length n) (hl : c.length ≤ 1000) (q : Q (tv (hol ts c)) h) : wpCall gl F (d+2) 1 [.tup (ts.map tv), .tup (c.map D.int)] h Q := by
  have hz : sizeLine > 200000 := by decide
  refine call_of (c := d_holds) rfl rfl ?_
  simp [startD, b_holds]
  refine comp_on D.int (fun n => tv (tru ts n)) (by omega) trivial (fun n hn k hk => ?_) ?_
  · simp
    refine truth_spec (hc n hn) ?_
    simpa using hk
  · simp only [map_tv]
    unfold hol at q
    generalize c.map (tru ts) = os at q ⊢
    try simp
    refine nxt_of ?_
    have e := told_loc (h := h) (os := os)
    simp [x_inB (b := true) e]
    split
    · rename_i w
      rw [if_pos (by simpa using w)] at q
      refine nxt_of ?_
      simp
      exact gc_app trivial q
    · rename_i w
      rw [if_neg (by simpa using w)] at q
      refine nxt_of ?_
      simp [x_inN e]
      split
      · rename_i w2
        rw [if_pos (by simpa using w2)] at q
        exact gc_app trivial q
      · rename_i w2
        rw [if_neg (by simpa using w2)] at q
        exact gc_app trivial q
theorem map_tv2 {ts : TS} {cs : List (List Int)} : (cs.map fun c => tv (hol ts c)) = (cs.map (hol ts)).map tv := by rw [List.map_map]; rfl
theorem all_spec {d : Nat} {ts : TS} {cs : List (List Int)} {h : Hd} {Q : PD} (hc : ∀ c ∈ cs, (∀ n ∈ c, gd ts.length n) ∧ c.length ≤ 1000) (hl : cs.length ≤ 1000) (q : Q (tv (hols ts cs)) h) : wpCall gl F (d+3) 2 [.tup (ts.map tv), .tup (cs.map clD)] h Q := by
  have hz : sizeLine > 200000 := by decide
  refine call_of (c := d_all_hold) rfl rfl ?_
  simp [startD, b_all_hold]
  refine comp_on clD (fun c => tv (hol ts c)) (by omega) trivial (fun c hn k hk => ?_) ?_
  · simp
    refine holds_spec (hc c hn).1 (hc c hn).2 ?_
    simpa using hk
  · simp only [map_tv2]
    unfold hols at q
    generalize cs.map (hol ts) = os at q ⊢
    try simp
    refine nxt_of ?_
    have e := told_loc (h := h) (os := os)
    simp [x_inB (b := false) e]
    split
    · rename_i w
      rw [if_pos (by simpa using w)] at q
      refine nxt_of ?_
      simp
      exact gc_app trivial q
    · rename_i w
      rw [if_neg (by simpa using w)] at q
      refine nxt_of ?_
      simp [x_inN e]
      split
      · rename_i w2
        rw [if_pos (by simpa using w2)] at q
        exact gc_app trivial q
      · rename_i w2
        rw [if_neg (by simpa using w2)] at q
        exact gc_app trivial q
theorem unit_spec {d : Nat} {ts : TS} {c : List Int} {h : Hd} {Q : PD} (hc : ∀ n ∈ c, gd ts.length n) (hl : c.length ≤ 1000) (q : Q (od (unit ts c)) h) : wpCall gl F (d+3) 3 [.tup (ts.map tv), .tup (c.map D.int)] h Q := by
  have hz : sizeLine > 200000 := by decide
  refine call_of (c := d_unit_of) rfl rfl ?_
  simp [startD, b_unit_of]
  refine holds_spec hc hl ?_
  simp
  unfold unit at q
  by_cases w : hol ts c = none
  · rw [if_pos w] at q
    simp [w]
    refine nxt_of ?_
    simp
    refine comp_onf D.int D.int (isO ts) (by omega) trivial (fun n hn k s hk => ?_) ?_
    · simp
      refine truth_spec (hc n hn) ?_
      unfold isO at hk
      simpa using hk
    · generalize c.filter (isO ts) = l at q ⊢
      try simp
      refine nxt_of ?_
      simp
      split
      · rename_i w2
        obtain ⟨n, rfl⟩ := List.length_eq_one_iff.mp (by omega : l.length = 1)
        have e : atI ([n].map D.int) 0 = some (.int n) := rfl
        simp at e
        simp [e]
        exact gc_app trivial q
      · rename_i w2
        have e : (match l with | [n] => some n | _ => none) = none := by
          match l, w2 with
          | [], _ => rfl
          | [_], w2 => exact absurd rfl w2
          | _ :: _ :: _, _ => rfl
        rw [e] at q
        exact gc_app trivial q
  · rw [if_neg w] at q
    simp [w]
    refine nxt_of ?_
    simp
    exact gc_same q
end K23

namespace K23
open PySem PySem.Spec PyProof.Rows L2 Py
theorem wt_spec {d : Nat} {ts : TS} {n : Int} {h : Hd} {Q : PD} (hn : gd ts.length n) (hl : ts.length ≤ 1000) (q : Q (.tup ((wt ts n).map tv)) h) : wpCall gl F (d+1) 4 [.tup (ts.map tv), .int n] h Q := by
  have hz : sizeLine > 200000 := by decide
  refine call_of (c := d_with_true) rfl rfl ?_
  simp [startD, b_with_true, abs_nat, abs_nat1 hn]
  refine nxt_of ?_
  have hk : n.natAbs - 1 < ts.length := by have := hn.1; have := hn.2; omega
  unfold wt at q
  generalize n.natAbs - 1 = k at q hk ⊢
  have e : (k : Int) + 1 = ((k + 1 : Nat) : Int) := rfl
  simp [cut_take]
  simp only [e, cut_drop]
  simp
  refine ⟨by omega, by omega, by omega, gc_same ?_⟩
  rw [List.set_eq_take_append_cons_drop, if_pos hk] at q
  simpa [List.map_take, List.map_drop, tv] using q
def fal (ts : TS) (cs : List (List Int)) : Option Nat := cs.findIdx? (isF ts)
def fun1 (ts : TS) (cs : List (List Int)) : Option Int := cs.findSome? (unit ts)
def gcs (k : Nat) (cs : List (List Int)) : Prop := ∀ c ∈ cs, (∀ n ∈ c, gd k n) ∧ c.length ≤ 1000
theorem false_spec {d : Nat} {ts : TS} {cs : List (List Int)} {h : Hd} {Q : PD} (hc : gcs ts.length cs) (hl : cs.length ≤ 1000) (q : Q (on (fal ts cs)) h) : wpCall gl F (d+3) 5 [.tup (ts.map tv), .tup (cs.map clD)] h Q := by
  have hz : sizeLine > 200000 := by decide
  refine call_of (c := d_false_clause) rfl rfl ?_
  simp [startD, b_false_clause]
  refine ⟨by omega, ?_⟩
  refine for_range (fun i τ h' => h' = h ∧ (∃ t, τ = [some (.tup (ts.map tv)), some (.tup (cs.map clD)), t]) ∧ ∀ (j : Nat) (hj : j < cs.length), j < i → isF ts cs[j] = false) ⟨rfl, ⟨_, rfl⟩, fun j hj z => by omega⟩ (fun _ => trivial) ?_ ?_
  · rintro i τ h' k hi ⟨rfl, ⟨t, rfl⟩, hn⟩ hk
    have e : atI (cs.map clD) (i : Int) = some (clD cs[i]) := atI_map_nat (List.getElem?_eq_getElem hi)
    simp [e]
    have hg := hc cs[i] (List.getElem_mem _)
    refine holds_spec hg.1 hg.2 ?_
    simp
    split
    · rename_i w
      refine nxt_of ?_
      simp
      have e2 : fal ts cs = some i := by
        unfold fal
        rw [List.findIdx?_eq_some_iff_getElem]
        refine ⟨hi, by unfold isF; simpa using w, fun j hj => by simpa using hn j (by omega) hj⟩
      rw [e2] at q
      exact gc_same q
    · rename_i w
      refine hk _ _ ⟨rfl, ⟨_, rfl⟩, fun j hj z => ?_⟩
      by_cases hji : j = i
      · subst hji
        unfold isF
        simpa using w
      · exact hn j hj (by omega)
  · rintro τ h' ⟨rfl, ⟨t, rfl⟩, hn⟩
    refine nxt_of ?_
    simp
    have e2 : fal ts cs = none := by
      unfold fal
      rw [List.findIdx?_eq_none_iff]
      intro c hm
      obtain ⟨j, hj, rfl⟩ := List.getElem_of_mem hm
      exact hn j hj hj
    rw [e2] at q
    exact gc_same q
theorem fun1_spec {d : Nat} {ts : TS} {cs : List (List Int)} {h : Hd} {Q : PD} (hc : gcs ts.length cs) (hl : cs.length ≤ 1000) (q : Q (od (fun1 ts cs)) h) : wpCall gl F (d+4) 6 [.tup (ts.map tv), .tup (cs.map clD)] h Q := by
  have hz : sizeLine > 200000 := by decide
  refine call_of (c := d_first_unit) rfl rfl ?_
  simp [startD, b_first_unit]
  refine for_inv (fun i τ h' => h' = h ∧ (∃ t t2, τ = [some (.tup (ts.map tv)), some (.tup (cs.map clD)), t, t2]) ∧ ∀ (j : Nat) (hj : j < cs.length), j < i → unit ts cs[j] = none) ⟨rfl, ⟨_, _, rfl⟩, fun j hj z => by omega⟩ ?_ ?_
  · rintro i x τ h' k hx ⟨rfl, ⟨t, t2, rfl⟩, hn⟩ hk
    have hi : i < cs.length := by have := (List.getElem?_eq_some_iff.mp hx).1; simpa using this
    have ex : x = clD cs[i] := by
      rw [List.getElem?_map, List.getElem?_eq_getElem hi] at hx
      cases hx; rfl
    subst ex
    simp
    have hg := hc cs[i] (List.getElem_mem _)
    refine unit_spec hg.1 hg.2 ?_
    simp
    refine nxt_of ?_
    simp
    split
    · rename_i w
      refine hk _ _ ⟨rfl, ⟨_, _, rfl⟩, fun j hj z => ?_⟩
      by_cases hji : j = i
      · subst hji
        exact w
      · exact hn j hj (by omega)
    · rename_i w
      refine nxt_of ?_
      simp
      have e2 : fun1 ts cs = unit ts cs[i] := by
        unfold fun1
        obtain ⟨u, hu⟩ := Option.ne_none_iff_exists'.mp w
        rw [hu, List.findSome?_eq_some_iff]
        refine ⟨cs.take i, cs[i], cs.drop (i + 1), ?_, hu, fun c hm => ?_⟩
        · rw [List.getElem_cons_drop]
          exact (List.take_append_drop i cs).symm
        · obtain ⟨j, hj, rfl⟩ := List.getElem_of_mem hm
          rw [List.length_take] at hj
          rw [List.getElem_take]
          exact hn j (by omega) (by omega)
      rw [e2] at q
      exact gc_same q
  · rintro τ h' ⟨rfl, ⟨t, t2, rfl⟩, hn⟩
    simp
    refine nxt_of ?_
    simp
    have e2 : fun1 ts cs = none := by
      unfold fun1
      rw [List.findSome?_eq_none_iff]
      intro c hm
      obtain ⟨j, hj, rfl⟩ := List.getElem_of_mem hm
      exact hn j hj (by simpa using hj)
    rw [e2] at q
    exact gc_same q
/-! spread -/
def spr : Nat → TS → List (List Int) → TS × Option Nat
  | 0, ts, _ => (ts, none)
  | m + 1, ts, cs => if fal ts cs = none then (match fun1 ts cs with | none => (ts, none) | some u => spr m (wt ts u) cs) else (ts, fal ts cs)
theorem spr_succ {m : Nat} {ts : TS} {cs : List (List Int)} : spr (m + 1) ts cs = if fal ts cs = none then (match fun1 ts cs with | none => (ts, none) | some u => spr m (wt ts u) cs) else (ts, fal ts cs) := rfl
def sprD (r : TS × Option Nat) : D := .tup [.tup (r.1.map tv), on r.2]
theorem unit_gd {ts : TS} {c : List Int} {u : Int} (hu : unit ts c = some u) : u ∈ c ∧ tru ts u = none := by
  unfold unit at hu
  split at hu
  · split at hu
    · rename_i n e
      cases hu
      have : u ∈ c.filter (isO ts) := by rw [e]; simp
      rw [List.mem_filter] at this
      exact ⟨this.1, by simpa [isO] using this.2⟩
    · cases hu
  · cases hu
theorem fun1_gd {k : Nat} {ts : TS} {cs : List (List Int)} {u : Int} (hc : gcs k cs) (hu : fun1 ts cs = some u) : gd k u ∧ tru ts u = none := by
  unfold fun1 at hu
  obtain ⟨c, hm, e⟩ := List.exists_of_findSome?_eq_some hu
  obtain ⟨a, b⟩ := unit_gd e
  exact ⟨(hc c hm).1 u a, b⟩
theorem wt_len {ts : TS} {u : Int} : (wt ts u).length = ts.length := by unfold wt; simp
theorem count_set : ∀ {ts : TS} {k : Nat} {b : Bool}, ts[k]? = some none → (ts.set k (some b)).count none + 1 = ts.count none
  | [], k, b, h => by simp at h
  | o :: ts, 0, b, h => by
    simp at h
    subst h
    simp
  | o :: ts, k + 1, b, h => by
    simp at h
    have ih := count_set (b := b) h
    rw [List.set_cons_succ, List.count_cons, List.count_cons]
    omega
theorem wt_count {ts : TS} {u : Int} (hg : gd ts.length u) (hu : tru ts u = none) : (wt ts u).count none + 1 = ts.count none := by
  unfold wt
  refine count_set ?_
  have hk : u.natAbs - 1 < ts.length := by have := hg.1; have := hg.2; omega
  unfold tru at hu
  split at hu
  · rename_i e
    rw [List.getD, List.getElem?_eq_getElem hk] at e
    rw [List.getElem?_eq_getElem hk]
    simpa using e
  · cases hu
theorem spread_spec {d : Nat} {ts : TS} {cs : List (List Int)} {h : Hd} {Q : PD} {M : Nat} (hc : gcs ts.length cs) (hl : cs.length ≤ 1000) (hl2 : ts.length ≤ 1000) (hM : ts.count none < M) (q : Q (sprD (spr M ts cs)) h) :
    wpCall gl F (d+5) 7 [.tup (ts.map tv), .tup (cs.map clD)] h Q := by
  have hz : sizeLine > 200000 := by decide
  refine call_of (c := d_spread) rfl rfl ?_
  simp [startD, b_spread]
  refine nxt_of ?_
  simp
  refine false_spec hc hl ?_
  simp
  refine nxt_of ?_
  have W0 : ∀ Z : PD → Prop, True := fun _ => trivial
  have key : ∀ (ts' : TS) (Q' : PD), ts'.length = ts.length → Q' (od (if fal ts' cs = none then fun1 ts' cs else none)) h → (if fal ts' cs = none then wpCall gl F (d+4) 6 [.tup (ts'.map tv), .tup (cs.map clD)] h Q' else Q' .non h) := by
    intro ts' Q' hl' hq
    split
    · rename_i w
      rw [if_pos w] at hq
      exact fun1_spec (by rw [hl']; exact hc) hl hq
    · rename_i w
      rw [if_neg w] at hq
      exact hq
  simp
  refine key ts _ rfl ?_
  simp
  refine nxt_of ?_
  simp
  refine ⟨fun m τ h' => h' = h ∧ ∃ (ts' : TS) (M' : Nat), ts'.length = ts.length ∧ ts'.count none = m ∧ m < M' ∧ spr M' ts' cs = spr M ts cs ∧
    τ = [some (.tup (ts.map tv)), some (.tup (cs.map clD)), some (.tup (ts'.map tv)), some (on (fal ts' cs)), some (od (if fal ts' cs = none then fun1 ts' cs else none))], ⟨ts.count none, rfl, ts, M, rfl, rfl, hM, rfl, rfl⟩, ?_⟩
  rintro m τ h' ⟨rfl, ts', M', e1, e2, e3, e4, rfl⟩
  obtain ⟨M2, rfl⟩ : ∃ n, M' = n + 1 := ⟨M' - 1, by omega⟩
  simp
  by_cases hf : fal ts' cs = none
  · simp [hf]
    rw [spr_succ] at e4
    rw [if_pos hf] at e4
    by_cases hu : fun1 ts' cs = none
    · simp [hu]
      refine nxt_of ?_
      simp [hf]
      rw [hu] at e4
      rw [← e4] at q
      exact ⟨by omega, gc_same q⟩
    · simp [hu]
      obtain ⟨u, hu⟩ := Option.ne_none_iff_exists'.mp hu
      rw [hu] at e4
      obtain ⟨g1, g2⟩ := fun1_gd hc hu
      rw [← e1] at g1
      simp [hu, od]
      refine wt_spec g1 (by omega) ?_
      simp
      refine nxt_of ?_
      simp
      refine false_spec (ts := wt ts' u) (by rw [wt_len, e1]; exact hc) hl ?_
      simp
      refine nxt_of ?_
      simp
      have hl3 : (wt ts' u).length = ts.length := by rw [wt_len, e1]
      have hm := wt_count g1 g2
      by_cases hf2 : fal (wt ts' u) cs = none
      · rw [if_pos hf2]
        refine fun1_spec (ts := wt ts' u) (by rw [hl3]; exact hc) hl ?_
        simp
        exact ⟨(wt ts' u).count none, by omega, wt ts' u, hl3, rfl, M2, by omega, e4, rfl, rfl, by rw [if_pos hf2]; rfl⟩
      · rw [if_neg hf2]
        exact ⟨(wt ts' u).count none, by omega, wt ts' u, hl3, rfl, M2, by omega, e4, rfl, rfl, by rw [if_neg hf2]⟩
  · simp [hf]
    refine nxt_of ?_
    simp
    rw [spr_succ] at e4
    rw [if_neg hf] at e4
    rw [← e4] at q
    exact ⟨by omega, gc_same q⟩
/-! is_clause -/
def isCl (many : Int) (c : List Int) : Bool := !(c.any fun n => decide (n = 0) || decide (many < (n.natAbs : Int))) && (List.range (c.length - 1)).all fun i => decide ((c.getD i 0).natAbs < (c.getD (i + 1) 0).natAbs)
theorem is_spec {d : Nat} {c : List Int} {many : Int} {h : Hd} {Q : PD} (hl : c.length ≤ 1000) (q : Q (.bl (isCl many c)) h) : wpCall gl F (d+1) 8 [.int many, .tup (c.map D.int)] h Q := by
  have hz : sizeLine > 200000 := by decide
  refine call_of (c := d_is_clause) rfl rfl ?_
  simp [startD, b_is_clause]
  refine comp_on D.int (fun n => .bl (decide (n = 0) || decide (many < (n.natAbs : Int)))) (by omega) trivial (fun n hn k hk => ?_) ?_
  · simp [abs_nat]
    split
    · rename_i w
      simpa [w] using hk
    · rename_i w
      simpa [w] using hk
  · rw [x_any]
    simp only [tr_bl]
    unfold isCl at q
    split
    · rename_i w
      refine nxt_of ?_
      simp
      rw [w] at q
      exact gc_same q
    · rename_i w
      refine nxt_of ?_
      simp
      have w := Bool.eq_false_iff.mpr w
      rw [w] at q
      refine ⟨by omega, ?_⟩
      rw [rangeD_map]
      refine comp_on _ (fun i : Nat => .bl (decide ((c.getD i 0).natAbs < (c.getD (i + 1) 0).natAbs))) (by simp; omega) trivial (fun i hi k hk => ?_) ?_
      · rw [List.mem_range] at hi
        have e1 : atI (c.map D.int) (i : Int) = some (.int (c.getD i 0)) := atI_map_nat (by rw [List.getD, List.getElem?_eq_getElem (by omega)]; rfl)
        have e2 : atI (c.map D.int) ((i : Int) + 1) = some (.int (c.getD (i + 1) 0)) := atI_map_nat (i := i + 1) (by rw [List.getD, List.getElem?_eq_getElem (by omega)]; rfl)
        simp [e1, e2, abs_nat]
        simpa using hk
      · rw [x_all]
        exact gc_same q
end K23

namespace K23
open PySem PySem.Spec PyProof.Rows L2 Py
/-! ### the law's mirror -/
structure Arr (h : Hd) (x : D) (xs : List D) : Prop where
  sq : seqOf h x = some xs
  mt : ∀ (h' : Hd) (Q : PD), mat x h' Q = Q x h'
theorem Arr.tup {h : Hd} {xs : List D} : Arr h (.tup xs) xs := ⟨rfl, fun _ _ => rfl⟩
theorem Arr.loc {h : Hd} {a : Nat} {xs : List D} (e : h[a]? = some (.lst xs)) : Arr h (.loc a) xs := ⟨q_loc e, fun _ _ => rfl⟩
theorem Arr.app {h l : Hd} {x : D} {xs : List D} (A : Arr h x xs) : Arr (h ++ l) x xs := ⟨seqOf_app A.sq, A.mt⟩
def isT (ts : TS) (n : Int) : Bool := decide (tru ts n = some true)
theorem len_T {ts : TS} {c : List Int} : 0 < (c.filter (isT ts)).length ↔ some true ∈ c.map (tru ts) := by
  rw [List.length_pos_iff_exists_mem]
  simp only [List.mem_filter, List.mem_map, isT, decide_eq_true_eq]
theorem len_O {ts : TS} {c : List Int} : 0 < (c.filter (isO ts)).length ↔ none ∈ c.map (tru ts) := by
  rw [List.length_pos_iff_exists_mem]
  simp only [List.mem_filter, List.mem_map, isO, decide_eq_true_eq]
theorem look_spec {d : Nat} {ts : TS} {c : List Int} {x : D} {h : Hd} {Q : PD} (A : Arr h x (ts.map tv)) (hc : ∀ n ∈ c, gd ts.length n) (hl : c.length ≤ 1000)
    (q : Q (.tup [.int (c.filter (isT ts)).length, .loc (h.length + 1)]) (h ++ [.lst ((c.filter (isT ts)).map D.int), .lst ((c.filter (isO ts)).map D.int)])) : wpCall gl F (d+1) 14 [x, .tup (c.map D.int)] h Q := by
  have hz : sizeLine > 200000 := by decide
  refine call_of (c := d__law_look) rfl rfl ?_
  simp [startD, b__law_look]
  refine comp_onf D.int D.int (isT ts) (by omega) trivial (fun n hn k s hk => ?_) ?_
  · have e := at_tru (hc n hn)
    unfold isT tru at hk
    generalize ts.getD (n.natAbs - 1) none = o at e hk
    simp [x_idx A.sq, abs_nat, e]
    cases o with
    | none => simpa using hk
    | some b =>
      simp [tv]
      by_cases hp : 0 < n
      · cases b <;> simpa [hp] using hk
      · cases b <;> simpa [hp] using hk
  · try simp
    refine nxt_of ?_
    simp
    refine comp_onf D.int D.int (isO ts) (by omega) trivial (fun n hn k s hk => ?_) ?_
    · have e := at_tru (hc n hn)
      unfold isO tru at hk
      generalize ts.getD (n.natAbs - 1) none = o at e hk
      simp [x_idx (A.app).sq, abs_nat, e]
      cases o with
      | none => simpa using hk
      | some b => simpa using hk
    · simp
      exact ⟨by omega, gc_same q⟩
theorem worth_spec {d : Nat} {ts : TS} {c : List Int} {x : D} {h : Hd} {Q : PD} (A : Arr h x (ts.map tv)) (hc : ∀ n ∈ c, gd ts.length n) (hl : c.length ≤ 1000) (q : Q (tv (hol ts c)) h) : wpCall gl F (d+2) 15 [x, .tup (c.map D.int)] h Q := by
  have hz : sizeLine > 200000 := by decide
  refine call_of (c := d__law_worth) rfl rfl ?_
  simp [startD, b__law_worth, A.mt]
  refine look_spec A hc hl ?_
  simp
  refine nxt_of ?_
  unfold hol at q
  have e1 := len_T (ts := ts) (c := c)
  have e2 := len_O (ts := ts) (c := c)
  generalize c.filter (isT ts) = l1 at e1
  generalize c.filter (isO ts) = l2 at e2
  simp
  by_cases w1 : 0 < l1.length
  · rw [if_pos (e1.mp w1)] at q
    simp [w1]
    refine nxt_of ?_
    simp
    exact gc_app trivial q
  · rw [if_neg (fun z => w1 (e1.mpr z))] at q
    simp [w1]
    refine nxt_of ?_
    by_cases w2 : 0 < l2.length
    · rw [if_pos (e2.mp w2)] at q
      simp [w2]
      exact ⟨by omega, gc_app trivial q⟩
    · rw [if_neg (fun z => w2 (e2.mpr z))] at q
      simp [w2]
      exact ⟨by omega, gc_app trivial q⟩
def due (ts : TS) (c : List Int) : Int := (unit ts c).getD 0
theorem due_eq {ts : TS} {c : List Int} : due ts c = (if (c.filter (isT ts)).length = 0 ∧ (c.filter (isO ts)).length = 1 then (c.filter (isO ts)).headD 0 else 0) := by
  have e1 := len_T (ts := ts) (c := c)
  have e2 := len_O (ts := ts) (c := c)
  unfold due unit hol
  generalize c.filter (isT ts) = l1 at e1
  generalize c.filter (isO ts) = l2 at e2
  by_cases w1 : 0 < l1.length
  · rw [if_pos (e1.mp w1)]
    rw [if_neg (by simp), if_neg (by omega)]; rfl
  · rw [if_neg (fun z => w1 (e1.mpr z))]
    by_cases w2 : 0 < l2.length
    · rw [if_pos (e2.mp w2), if_pos rfl]
      have w3 : l1 = [] := List.eq_nil_of_length_eq_zero (by omega)
      subst w3
      match l2, w2 with
      | [n], _ => simp
      | _ :: _ :: _, _ => simp
    · rw [if_neg (fun z => w2 (e2.mpr z))]
      rw [if_neg (by simp), if_neg (by omega)]; rfl
theorem due_spec {d : Nat} {ts : TS} {c : List Int} {x : D} {h : Hd} {Q : PD} (A : Arr h x (ts.map tv)) (hc : ∀ n ∈ c, gd ts.length n) (hl : c.length ≤ 1000) (q : Q (.int (due ts c)) h) : wpCall gl F (d+2) 16 [x, .tup (c.map D.int)] h Q := by
  have hz : sizeLine > 200000 := by decide
  refine call_of (c := d__law_unit) rfl rfl ?_
  simp [startD, b__law_unit, A.mt]
  refine look_spec A hc hl ?_
  simp
  refine nxt_of ?_
  rw [due_eq] at q
  have hl2 : (c.filter (isO ts)).length ≤ 1000 := Nat.le_trans (List.length_filter_le _ _) hl
  generalize c.filter (isT ts) = l1 at q
  generalize c.filter (isO ts) = l2 at q hl2
  have e1 : mutOf (h ++ [.lst (l1.map D.int), .lst (l2.map D.int)]) (.loc (h.length + 1)) = some (l2.map D.int) := mu_loc (by simp)
  simp [x_addL e1 mu_tl]
  refine ⟨by omega, ?_⟩
  have e2 : atI (l2.map D.int ++ [.int 0]) 0 = some (.int (l2.headD 0)) := by
    cases l2 <;> simp
  simp [e2]
  refine ⟨by omega, ?_⟩
  by_cases w1 : l1 = []
  · subst w1
    simp
    by_cases w2 : l2.length = 1
    · have w3 : (l2.length : Int) = 1 := by omega
      simp [w2] at q
      simp [w3]
      refine ⟨.inl (.inr ⟨by decide, by decide⟩), gc_app trivial q⟩
    · have w3 : ¬ (l2.length : Int) = 1 := by omega
      simp [w2] at q
      simp [w3]
      refine ⟨.inl (.inr ⟨by decide, by decide⟩), gc_app trivial q⟩
  · simp [w1] at q ⊢
    refine ⟨.inl (.inr ⟨by decide, by decide⟩), gc_app trivial q⟩
end K23

namespace K23
open PySem PySem.Spec PyProof.Rows L2 Py
theorem gc_take {h h' : Hd} {v : D} {Q : PD} (c : v.clean h.length) (hl : h.length ≤ h'.length) (e : h'.take h.length = h) (q : Q v h) : Gc h v h' Q := by
  refine .inr (.inl ⟨c, ⟨hl, fun i o hi eo => .inl ?_⟩, by rw [e]; exact q⟩)
  rw [← e, List.getElem?_take_of_lt hi]
  exact eo
theorem unit_nz {ts : TS} {c : List Int} {u : Int} (hc : ∀ n ∈ c, gd ts.length n) (hu : unit ts c = some u) : u ≠ 0 := (hc u (unit_gd hu).1).1
theorem due_nz {ts : TS} {c : List Int} (hc : ∀ n ∈ c, gd ts.length n) : (due ts c ≠ 0) ↔ unit ts c ≠ none := by
  unfold due
  cases e : unit ts c with
  | none => simp
  | some u => simp; exact unit_nz hc e
theorem units_head {ts : TS} : ∀ {cs : List (List Int)}, (∀ c ∈ cs, ∀ n ∈ c, gd ts.length n) → ((cs.filter fun c => decide (due ts c ≠ 0)).map (due ts)).head? = fun1 ts cs
  | [], _ => rfl
  | c :: cs, hc => by
    have ih := units_head (cs := cs) fun c hm => hc c (List.mem_cons_of_mem _ hm)
    have h1 := due_nz (ts := ts) (hc c List.mem_cons_self)
    unfold fun1 at ih ⊢
    rw [List.findSome?_cons]
    cases e : unit ts c with
    | none =>
      have : ¬ (due ts c ≠ 0) := fun z => h1.mp z e
      rw [List.filter_cons_of_neg (by simpa using this)]
      exact ih
    | some u =>
      have : due ts c ≠ 0 := h1.mpr (by rw [e]; simp)
      rw [List.filter_cons_of_pos (by simpa using this)]
      simp [due, e]
theorem falses_head {ts : TS} {cs : List (List Int)} : ((List.range cs.length).filter fun i => isF ts (cs.getD i [])).head? = fal ts cs := by
  rw [List.head?_filter]
  unfold fal
  cases e : cs.findIdx? (isF ts) with
  | none =>
    rw [List.findIdx?_eq_none_iff] at e
    rw [List.find?_eq_none]
    intro i hi
    rw [List.mem_range] at hi
    rw [List.getD, List.getElem?_eq_getElem hi]
    simpa using e _ (List.getElem_mem hi)
  | some i =>
    rw [List.findIdx?_eq_some_iff_getElem] at e
    obtain ⟨hi, h1, h2⟩ := e
    rw [List.find?_range_eq_some]
    refine ⟨by rw [List.getD, List.getElem?_eq_getElem hi]; exact h1, by simpa using hi, fun j hj => ?_⟩
    rw [List.getD, List.getElem?_eq_getElem (by omega)]
    simpa using h2 j hj
theorem spr_fix {ts : TS} {cs : List (List Int)} (h1 : fal ts cs = none) (h2 : fun1 ts cs = none) : ∀ m, spr m ts cs = (ts, none)
  | 0 => rfl
  | m + 1 => by rw [spr_succ, if_pos h1, h2]
theorem lspread_spec {d : Nat} {ts : TS} {cs : List (List Int)} {h : Hd} {Q : PD} (hc : gcs ts.length cs) (hl : cs.length ≤ 1000) (hl2 : ts.length ≤ 1000) (q : Q (sprD (spr (ts.length + 1) ts cs)) h) :
    wpCall gl F (d+3) 17 [.tup (ts.map tv), .tup (cs.map clD)] h Q := by
  have hz : sizeLine > 200000 := by decide
  refine call_of (c := d__law_spread) rfl rfl ?_
  simp [startD, b__law_spread]
  refine nxt_of ?_
  simp
  refine ⟨by omega, ?_⟩
  refine for_range (fun i τ h' => ∃ (ts' : TS) (t3 t4 t5 t6 t7 : Option D), τ = [some (.tup (ts.map tv)), some (.tup (cs.map clD)), some (.loc h.length), t3, t4, t5, t6, t7] ∧ ts'.length = ts.length ∧ spr (ts.length + 1 - i) ts' cs = spr (ts.length + 1) ts cs ∧
    h.length < h'.length ∧ h'.take h.length = h ∧ h'[h.length]? = some (.lst (ts'.map tv))) ⟨ts, _, _, _, _, _, rfl, rfl, rfl, by simp, by simp, by simp⟩ (fun _ => trivial) ?_ ?_
  · rintro i τ h' k hi ⟨ts', t3, t4, t5, t6, t7, rfl, hl', hR, k1, k2, k3⟩ hk
    simp
    refine ⟨by omega, ?_⟩
    have A : Arr h' (.loc h.length) (ts'.map tv) := .loc k3
    rw [rangeD_map]
    refine comp_onf _ (fun i : Nat => .int (0 + (i : Int))) (fun i => isF ts' (cs.getD i [])) (by simp; omega) trivial (fun j hj k s hk => ?_) ?_
    · rw [List.mem_range] at hj
      have e : atI (cs.map clD) (j : Int) = some (clD cs[j]) := atI_map_nat (List.getElem?_eq_getElem hj)
      simp [e]
      have hg := hc cs[j] (List.getElem_mem _)
      refine worth_spec A (by rw [hl']; exact hg.1) hg.2 ?_
      rw [List.getD, List.getElem?_eq_getElem hj] at hk
      unfold isF at hk
      simpa using hk
    · have ef := falses_head (ts := ts') (cs := cs)
      generalize (List.range cs.length).filter (fun i => isF ts' (cs.getD i [])) = fs at ef ⊢
      simp
      refine nxt_of ?_
      simp
      refine comp_onf clD (fun c => .int (due ts' c)) (fun c => decide (due ts' c ≠ 0)) (by omega) trivial (fun c hm k s hk => ?_) ?_
      · have hg := hc c hm
        simp
        refine due_spec A.app (by rw [hl']; exact hg.1) hg.2 ?_
        simp at hk ⊢
        split
        · rename_i w
          rw [if_pos w] at hk
          exact hk
        · rename_i w
          rw [if_neg w] at hk
          refine due_spec A.app (by rw [hl']; exact hg.1) hg.2 ?_
          simpa using hk
      · have eu := units_head (ts := ts') (cs := cs) fun c hm => by rw [hl']; exact (hc c hm).1
        have em : (cs.filter fun c => decide (due ts' c ≠ 0)).map (fun c => D.int (due ts' c)) = ((cs.filter fun c => decide (due ts' c ≠ 0)).map (due ts')).map D.int := by rw [List.map_map]; rfl
        rw [em]
        generalize ((cs.filter fun c => decide (due ts' c ≠ 0)).map (due ts')) = us at eu ⊢
        simp
        refine nxt_of ?_
        have kf : (h' ++ [DO.lst (fs.map fun i : Nat => D.int (i : Int)), DO.lst (us.map D.int)])[h.length]? = some (.lst (ts'.map tv)) := look_app k3
        have lf : h.length ≤ (h' ++ [DO.lst (fs.map fun i : Nat => D.int (i : Int)), DO.lst (us.map D.int)]).length := by simp; omega
        have tk : (h' ++ [DO.lst (fs.map fun i : Nat => D.int (i : Int)), DO.lst (us.map D.int)]).take h.length = h := by rw [List.take_append_of_le_length (by omega)]; exact k2
        obtain ⟨m, hm⟩ : ∃ m, ts.length + 1 - i = m + 1 := ⟨ts.length - i, by omega⟩
        rw [hm, spr_succ] at hR
        cases fs with
        | cons a fs =>
          simp at ef
          simp [kf]
          refine nxt_of ?_
          simp at kf tk
          simp [kf]
          rw [← ef] at hR
          simp at hR
          rw [← hR] at q
          exact ⟨by omega, gc_take ⟨cleans_tv _, trivial, trivial⟩ (by simp; omega) tk q⟩
        | nil =>
          simp at ef
          simp
          refine nxt_of ?_
          rw [if_pos ef.symm] at hR
          cases us with
          | nil =>
            simp at eu
            simp
            refine hk _ _ ⟨ts', _, _, _, _, _, rfl, hl', ?_, by simp; omega, tk, kf⟩
            rw [← eu] at hR
            rw [spr_fix ef.symm eu.symm, ← hR]
          | cons u us =>
            simp at eu
            rw [← eu] at hR
            obtain ⟨g1, g2⟩ := fun1_gd hc eu.symm
            rw [← hl'] at g1
            simp
            refine nxt_of ?_
            have e5 : ixN ts'.length ((u.natAbs : Int) - 1) = some (u.natAbs - 1) := by
              unfold ixN
              have := g1.1
              have := g1.2
              rw [if_pos (by omega), if_pos (by omega)]
              congr 1
              omega
            simp at kf tk
            simp [abs_nat, kf, e5]
            refine hk _ _ ⟨wt ts' u, _, _, _, _, _, rfl, by rw [wt_len, hl'], ?_, ?_, ?_, ?_⟩
            · rw [← hR]
              congr 1
              omega
            · simp; omega
            · rw [List.take_set, tk, List.set_eq_of_length_le (Nat.le_refl _)]
            · rw [List.getElem?_set_self (by simp; omega)]
              unfold wt
              simp [List.map_set, tv]
  · rintro τ h' ⟨ts', t3, t4, t5, t6, t7, rfl, hl', hR, k1, k2, k3⟩
    refine nxt_of ?_
    simp [k3]
    rw [Nat.sub_self] at hR
    rw [← hR] at q
    exact ⟨by omega, gc_take ⟨cleans_tv _, trivial, trivial⟩ (by omega) k2 q⟩
end K23

namespace K23
open PySem PySem.Spec PyProof.Rows L2 Py
theorem pair_spec {d : Nat} {ts : TS} {o : Option Nat} {h : Hd} {Q : PD} (hl : ts.length ≤ 1000) (q : Q (.bl true) h) : wpCall gl F (d+2) 18 [.tup [.tup (ts.map tv), on o], .tup [.tup (ts.map tv), on o]] h Q := by
  have hz : sizeLine > 200000 := by decide
  refine call_of (c := d__law_same_pair) rfl rfl ?_
  simp [startD, b__law_same_pair]
  refine nxt_of ?_
  simp
  refine ⟨by omega, ?_⟩
  rw [rangeD_map]
  refine comp_onf _ (fun i : Nat => .int (0 + (i : Int))) (fun _ => false) (by simp; omega) trivial (fun j hj k s hk => ?_) ?_
  · rw [List.mem_range] at hj
    have e : atI (ts.map tv) (j : Int) = some (tv ts[j]) := atI_map_nat (List.getElem?_eq_getElem hj)
    simp [e]
    simp at hk
    generalize ts[j] = o
    match o with
    | none => simpa using hk
    | some true => simpa using hk
    | some false => simpa using hk
  · have e : (List.range ts.length).filter (fun _ => false) = [] := List.filter_eq_nil_iff.mpr (by simp)
    rw [e]
    simp
    refine nxt_of ?_
    simp
    cases o with
    | none => simp; exact gc_same q
    | some n =>
      simp [on]
      exact same_int rfl rfl rfl (gc_same (by simpa using q))
theorem in_map_hol {ts : TS} {cs : List (List Int)} : (cs.map fun c => tv (hol ts c)) = (cs.map (hol ts)).map tv := by rw [List.map_map]; rfl
theorem told_spec {d : Nat} {ts : TS} {cs : List (List Int)} {h : Hd} {Q : PD} (hc : gcs ts.length cs) (hl : cs.length ≤ 1000) (hl2 : ts.length ≤ 1000) (q : Q (.bl true) h) : wpCall gl F (d+6) 19 [.tup (ts.map tv), .tup (cs.map clD)] h Q := by
  have hz : sizeLine > 200000 := by decide
  refine call_of (c := d__law_are_told) rfl rfl ?_
  simp [startD, b__law_are_told]
  refine comp_on clD (fun c => tv (hol ts c)) (by omega) trivial (fun c hn k hk => ?_) ?_
  · simp
    refine worth_spec .tup (hc c hn).1 (hc c hn).2 ?_
    simpa using hk
  · rw [in_map_hol]
    have eo : ∀ j (hj : j < cs.length), (cs.map (hol ts))[j]? = some (hol ts cs[j]) := fun j hj => by rw [List.getElem?_map, List.getElem?_eq_getElem hj]; rfl
    have hs : hols ts cs = (if some false ∈ cs.map (hol ts) then some false else if none ∈ cs.map (hol ts) then none else some true) := rfl
    generalize cs.map (hol ts) = os at eo hs ⊢
    try simp
    refine nxt_of ?_
    simp
    refine ⟨by omega, ?_⟩
    refine for_range (fun i τ h' => h' = h ++ [.lst (os.map tv)] ∧ ∃ t3 t4 t5 t6 t7, τ = [some (.tup (ts.map tv)), some (.tup (cs.map clD)), some (.loc h.length), t3, t4, t5, t6, t7]) ⟨rfl, _, _, _, _, _, rfl⟩ (fun _ => trivial) ?_ ?_
    · rintro i τ h' k hi ⟨rfl, t3, t4, t5, t6, t7, rfl⟩ hk
      have e : atI (cs.map clD) (i : Int) = some (clD cs[i]) := atI_map_nat (List.getElem?_eq_getElem hi)
      have e2 : atI (os.map tv) (i : Int) = some (tv (hol ts cs[i])) := atI_map_nat (eo i hi)
      have hg := hc cs[i] (List.getElem_mem _)
      simp [e]
      refine holds_spec hg.1 hg.2 ?_
      simp
      refine unit_spec hg.1 hg.2 ?_
      simp
      refine ⟨by omega, ?_⟩
      refine nxt_of ?_
      have part2 : ∀ (Z : Endd) (t5 : Option D), Z.nx = k → nxt (wpCall gl F (d + 5)) gl (.seq (.asg (.nm 7) (.call 16 (.acons (.var 0) (.acons (.prim .idx (.acons (.var 1) (.acons (.var 4) .anil))) .anil))))
          (.seq (.ite (.or_ (.and_ (.prim .eq (.acons (.var 7) (.acons (.cst (.int 0)) .anil))) (.prim .isnot (.acons (.var 6) (.acons (.cst .non) .anil)))) (.and_ (.prim .ne (.acons (.var 7) (.acons (.cst (.int 0)) .anil))) (.not_ (.call 11 (.acons (.var 6) (.acons (.var 7) .anil))))))
            (.seq (.ret (.cst (.bl false))) .nil) .nil) .nil)) Z
          [some (.tup (ts.map tv)), some (.tup (cs.map clD)), some (.loc h.length), t3, some (.int i), t5, some (od (unit ts cs[i])), t7] (h ++ [.lst (os.map tv)]) := by
        intro Z t5 hZ
        refine nxt_of ?_
        simp [e]
        refine due_spec .tup hg.1 hg.2 ?_
        simp
        refine nxt_of ?_
        have dn := due_nz (ts := ts) hg.1
        unfold due at dn ⊢
        cases eu : unit ts cs[i] with
        | none =>
          simp [hZ]
          exact hk _ _ ⟨rfl, _, _, _, _, _, rfl⟩
        | some u =>
          have hu := unit_nz hg.1 eu
          simp [hu, od, hZ]
          refine same_int rfl rfl rfl ?_
          simp
          exact hk _ _ ⟨rfl, _, _, _, _, _, rfl⟩
      simp [e2]
      by_cases hw : hol ts cs[i] = none
      · simp [hw]
        exact part2 _ _ rfl
      · simp [hw]
        obtain ⟨b, hb⟩ := Option.ne_none_iff_exists'.mp hw
        rw [hb]
        simp only [tv]
        refine same_bool rfl rfl rfl ?_
        simp
        exact part2 _ _ rfl
    · rintro τ h' ⟨rfl, t3, t4, t5, t6, t7, rfl⟩
      refine nxt_of ?_
      simp
      refine all_spec hc hl ?_
      simp
      refine nxt_of ?_
      have e := told_loc (h := h) (os := os)
      have fin : ∀ (t5 : Option D), nxt (wpCall gl F (d + 5)) gl (.seq (.ret (.and_ (.var 7) (.call 18 (.acons (.call 7 (.acons (.var 0) (.acons (.var 1) .anil))) (.acons (.call 17 (.acons (.var 0) (.acons (.var 1) .anil))) .anil))))) .nil) (endZ h Q)
          [some (.tup (ts.map tv)), some (.tup (cs.map clD)), some (.loc h.length), t3, t4, t5, t6, some (.bl true)] (h ++ [.lst (os.map tv)]) := by
        intro t5
        refine nxt_of ?_
        simp
        refine spread_spec (M := ts.length + 1) hc hl hl2 (by have := List.count_le_length (a := (none : Option Bool)) (l := ts); omega) ?_
        simp [sprD]
        refine lspread_spec hc hl hl2 ?_
        simp [sprD]
        refine pair_spec (by
          have : ∀ (m : Nat) (ts : TS), (spr m ts cs).1.length = ts.length := by
            intro m
            induction m with
            | zero => intro ts; rfl
            | succ m ih =>
              intro ts
              rw [spr_succ]
              split
              · split
                · rfl
                · rw [ih, wt_len]
              · rfl
          rw [this]; exact hl2) ?_
        exact gc_app trivial q
      by_cases w1 : some false ∈ os
      · rw [if_pos w1] at hs
        simp [x_inB (b := false) e, w1]
        refine nxt_of ?_
        simp [hs]
        exact fin _
      · rw [if_neg w1] at hs
        simp [x_inB (b := false) e, w1]
        refine nxt_of ?_
        by_cases w2 : none ∈ os
        · rw [if_pos w2] at hs
          simp [x_inN e, w2]
          refine nxt_of ?_
          simp [hs]
          exact fin _
        · rw [if_neg w2] at hs
          simp [x_inN e, w2]
          refine nxt_of ?_
          simp [hs]
          exact fin _
end K23

namespace K23
open PySem PySem.Spec PyProof.Rows L2 Py
/-- a def that draws and keeps a list of its own -/
theorem gc_draw {xs ys : List Int} {r l : Hd} {v : D} {Q : PD} (c : v.clean (r.length + 1)) (q : Q v (.lst (ys.map D.int) :: r)) : Gc (.lst (xs.map D.int) :: r) v (.lst (ys.map D.int) :: (r ++ l)) Q := by
  refine .inr (.inl ⟨c, ⟨by simp, fun i o hi eo => ?_⟩, by simpa using q⟩)
  cases i with
  | zero =>
    simp at eo
    subst eo
    exact .inr (cleans_ints _)
  | succ i =>
    simp at eo hi
    rw [List.getElem?_append_left (by omega)] at eo
    exact .inl (by simpa using eo)
theorem clause_spec {d m : Nat} {most : Int} {xs : List Int} {r : Hd} {Q : PD} (hm0 : 0 < m) (hm : m ≤ 1000) (q : ∀ (c ys : List Int), (∀ n ∈ c, gd m n) → c.length ≤ m → Q (.tup (c.map D.int)) (.lst (ys.map D.int) :: r)) :
    wpCall gl F (d+2) 12 [.loc 0, .int m, .int most] (.lst (xs.map D.int) :: r) Q := by
  have hz : sizeLine > 200000 := by decide
  refine call_of (c := d__law_clause) rfl rfl ?_
  simp [startD, b__law_clause]
  refine nxt_of ?_
  simp
  refine ⟨by omega, ?_⟩
  refine for_range (fun i τ h' => ∃ (c ys : List Int) (t : Option D), h' = .lst (ys.map D.int) :: (r ++ [.lst (c.map D.int)]) ∧ τ = [some (.loc 0), some (.int m), some (.int most), some (.loc (r.length + 1)), t] ∧ c.length ≤ i ∧ ∀ n ∈ c, gd m n) ⟨[], xs, _, rfl, rfl, by simp, fun n hn => by cases hn⟩ (fun _ => trivial) ?_ ?_
  · rintro i τ h' k hi ⟨c, ys, t, rfl, rfl, hcl, hg⟩ hk
    simp
    split
    · refine take_spec rfl (by omega) (xs := ys) rfl fun n ys r0 r1 => ?_
      simp
      split
      · refine nxt_of ?_
        simp
        refine ⟨by omega, ?_⟩
        refine take_spec rfl (by omega) (xs := ys) rfl fun n ys r0 r1 => ?_
        have hsm : mulOk (1 + (i : Int)) 1 ∧ mulOk (1 + (i : Int)) (-1) := ⟨.inl (.inr ⟨by decide, by decide⟩), .inl (.inr ⟨by decide, by decide⟩)⟩
        have hn : n = 0 ∨ n = 1 := by omega
        rcases hn with rfl | rfl
        · simp
          refine ⟨hsm.1, by omega, hk _ _ ⟨c ++ [1 + (i : Int)], ys, _, by simp, rfl, by simpa using hcl, fun n hn => ?_⟩⟩
          rcases List.mem_append.mp hn with z | z
          · exact hg n z
          · simp at z
            subst z
            unfold gd
            omega
        · simp
          refine ⟨hsm.2, by omega, hk _ _ ⟨c ++ [-(1 + (i : Int))], ys, _, by simp, rfl, by simpa using hcl, fun n hn => ?_⟩⟩
          rcases List.mem_append.mp hn with z | z
          · exact hg n z
          · simp at z
            subst z
            unfold gd
            omega
      · exact hk _ _ ⟨c, ys, _, rfl, rfl, by omega, hg⟩
    · exact hk _ _ ⟨c, ys, _, rfl, rfl, by omega, hg⟩
  · rintro τ h' ⟨c, ys, t, rfl, rfl, hcl, hg⟩
    refine nxt_of ?_
    simp
    exact gc_draw (cleans_ints _) (q c ys hg (by omega))
theorem cleans_cl {n : Nat} : ∀ cs : List (List Int), D.cleans n (cs.map clD)
  | [] => trivial
  | c :: cs => ⟨cleans_ints c, cleans_cl cs⟩
theorem clauses_spec {d m : Nat} {rows : Nat} {xs : List Int} {r : Hd} {Q : PD} (hm0 : 0 < m) (hm : m ≤ 1000) (hr : rows ≤ 100) (q : ∀ (cs : List (List Int)) (ys : List Int), gcs m cs → cs.length ≤ 100 → Q (.tup (cs.map clD)) (.lst (ys.map D.int) :: r)) :
    wpCall gl F (d+3) 13 [.loc 0, .int m, .int rows] (.lst (xs.map D.int) :: r) Q := by
  have hz : sizeLine > 200000 := by decide
  refine call_of (c := d__law_clauses) rfl rfl ?_
  simp [startD, b__law_clauses]
  refine nxt_of ?_
  simp
  refine take_spec rfl (by omega) (xs := xs) rfl fun n ys r0 r1 => ?_
  simp
  refine ⟨by omega, ?_⟩
  refine for_range (fun i τ h' => ∃ (cs : List (List Int)) (ys : List Int) (t t2 : Option D), h' = .lst (ys.map D.int) :: (r ++ [.lst (cs.map clD)]) ∧ τ = [some (.loc 0), some (.int m), some (.int rows), some (.loc (r.length + 1)), t, t2] ∧ cs.length ≤ i ∧ gcs m cs) ⟨[], ys, _, _, rfl, rfl, by simp, fun n hn => by cases hn⟩ (fun _ => trivial) ?_ ?_
  · rintro i τ h' k hi ⟨cs, ys, t, t2, rfl, rfl, hcl, hg⟩ hk
    simp
    refine take_spec rfl (by omega) (xs := ys) rfl fun n ys r0 r1 => ?_
    simp
    refine clause_spec hm0 hm fun c ys hgc hl => ?_
    simp
    refine nxt_of ?_
    simp [x_neIT0]
    have hgs : gcs m (cs ++ [c]) := fun c' hc' => by
      rcases List.mem_append.mp hc' with z | z
      · exact hg c' z
      · simp at z
        subst z
        exact ⟨hgc, by omega⟩
    have app : ∀ (ys : List Int) (t t2 : Option D), k [some (.loc 0), some (.int m), some (.int rows), some (.loc (r.length + 1)), t, t2] (.lst (ys.map D.int) :: (r ++ [.lst (cs.map clD ++ [.tup (c.map D.int)])])) := fun ys t t2 => hk _ _ ⟨cs ++ [c], ys, _, _, by simp [clD], rfl, by simpa using hcl, hgs⟩
    by_cases hc0 : c = []
    · subst hc0
      simp
      refine take_spec rfl (by omega) (xs := ys) rfl fun n ys r0 r1 => ?_
      simp
      split
      · refine nxt_of ?_
        simp
        exact ⟨by omega, app _ _ _⟩
      · exact hk _ _ ⟨cs, ys, _, _, rfl, rfl, by omega, hg⟩
    · simp [hc0]
      refine nxt_of ?_
      simp
      exact ⟨by omega, app _ _ _⟩
  · rintro τ h' ⟨cs, ys, t, t2, rfl, rfl, hcl, hg⟩
    refine nxt_of ?_
    simp
    exact gc_draw (cleans_cl _) (q cs ys hg (by omega))
end K23

namespace K23
open PySem PySem.Spec PyProof.Rows L2 Py
/-! ### clauses by sizes -/
theorem adj_pw : ∀ l : List Int, (∀ i, i + 1 < l.length → l.getD i 0 < l.getD (i + 1) 0) → l.Pairwise (· < ·)
  | [], _ => .nil
  | [a], _ => by simp
  | a :: b :: l, h => by
    have ih := adj_pw (b :: l) fun i hi => by
      have := h (i + 1) (by simp at hi ⊢; omega)
      simpa using this
    have h0 : a < b := by
      have := h 0 (by simp)
      simpa using this
    refine List.pairwise_cons.mpr ⟨fun x hx => ?_, ih⟩
    rcases List.mem_cons.mp hx with rfl | hx
    · exact h0
    · exact Int.lt_trans h0 ((List.pairwise_cons.mp ih).1 x hx)
theorem pw_adj {l : List Int} (h : l.Pairwise (· < ·)) {i : Nat} (hi : i + 1 < l.length) : l.getD i 0 < l.getD (i + 1) 0 := by
  rw [List.getD, List.getD, List.getElem?_eq_getElem hi, List.getElem?_eq_getElem (by omega)]
  exact List.pairwise_iff_getElem.mp h i (i + 1) (by omega) hi (by omega)
def szs (c : List Int) : List Int := c.map fun n => (n.natAbs : Int)
theorem szs_get {c : List Int} {i : Nat} (hi : i < c.length) : (szs c).getD i 0 = ((c.getD i 0).natAbs : Int) := by
  unfold szs
  rw [List.getD, List.getD, List.getElem?_map, List.getElem?_eq_getElem hi]; rfl
theorem pw_same {l us : List Int} (h : us.Pairwise (· < ·)) (hm : ∀ k, k ∈ us ↔ k ∈ l) : l = us ↔ l.Pairwise (· < ·) := by
  constructor
  · intro e; rw [e]; exact h
  · intro p
    have nd : ∀ {l : List Int}, l.Pairwise (· < ·) → l.Nodup := fun h => h.imp fun h e => by omega
    have pm : l.Perm us := (List.perm_ext_iff_of_nodup (nd p) (nd h)).mpr fun k => (hm k).symm
    exact List.Perm.eq_of_pairwise (fun a b _ _ h1 h2 => by omega) p h pm
def bad (many size : Int) : Bool := decide (size = 0) || decide (many < size)
theorem isCl_eq {many : Int} {c us : List Int} (h : us.Pairwise (· < ·)) (hm : ∀ k, k ∈ us ↔ k ∈ szs c) : isCl many c = (decide (szs c = us) && decide (((szs c).filter (bad many)).length = 0)) := by
  rw [Bool.eq_iff_iff]
  simp only [isCl, Bool.and_eq_true, Bool.not_eq_true', List.any_eq_false, List.all_eq_true, List.mem_range, decide_eq_true_eq, List.length_eq_zero_iff, List.filter_eq_nil_iff]
  rw [pw_same h hm]
  have e1 : (∀ x ∈ c, ¬ (decide (x = 0) || decide (many < (x.natAbs : Int))) = true) ↔ ∀ a ∈ szs c, ¬ bad many a = true := by
    unfold szs bad
    simp only [List.forall_mem_map, Bool.or_eq_true, decide_eq_true_eq]
    refine forall_congr' fun x => forall_congr' fun _ => not_congr (or_congr ?_ Iff.rfl)
    omega
  have e2 : (∀ i, i < c.length - 1 → (c.getD i 0).natAbs < (c.getD (i + 1) 0).natAbs) ↔ (szs c).Pairwise (· < ·) := by
    have hl : (szs c).length = c.length := by simp [szs]
    constructor
    · intro q
      refine adj_pw _ fun i hi => ?_
      rw [szs_get (by omega), szs_get (by omega)]
      have := q i (by omega)
      omega
    · intro q i hi
      have := pw_adj q (i := i) (by omega)
      rw [szs_get (by omega), szs_get (by omega)] at this
      omega
  rw [e2, e1]
  exact And.comm
/-! ### the law -/
theorem own_step {d : Nat} {many : Int} {c : List Int} {k : Sd → Hd → Prop} {Z : Endd} {h : Hd} {a0 a1 a3 a4 a5 a6 a7 a9 a10 a11 a12 : Option D} (hl : c.length < 64) (hZ : Z.nx = k)
    (hk : ∀ (h' : Hd) (a9 a10 a11 : Option D), k [a0, a1, some (.int many), a3, a4, a5, a6, a7, some (.tup (c.map D.int)), a9, a10, a11, a12] h') :
    ws (wpCall gl F (d+3)) gl (.seq (.asg (.nm 9) (.comp (.nm 10) (.var 8) none .anil (.prim .abs (.acons (.var 10) .anil))))
    (.seq (.ite (.not_ (.call 11 (.acons (.call 8 (.acons (.var 2) (.acons (.var 8) .anil))) (.acons (.and_ (.prim .eq (.acons (.var 9) (.acons (.prim .sortedSet (.acons (.var 9) .anil)) .anil))) (.prim .eq (.acons (.prim .len (.acons (.comp (.nm 11) (.var 9) (some ()) (.or_ (.prim .eq (.acons (.var 11) (.acons (.cst (.int 0)) .anil))) (.prim .gt (.acons (.var 11) (.acons (.var 2) .anil)))) (.var 11)) .anil)) (.acons (.cst (.int 0)) .anil)))) .anil))))
      (.seq (.ret (.cst (.bl false)))
      .nil)
      .nil)
    .nil)) Z [a0, a1, some (.int many), a3, a4, a5, a6, a7, some (.tup (c.map D.int)), a9, a10, a11, a12] h := by
  have hz : sizeLine > 200000 := by decide
  simp
  refine comp_on D.int (fun n => .int (n.natAbs : Int)) (by omega) trivial (fun n hn k hk => ?_) ?_
  · simp [abs_nat]
    simpa using hk
  · have es : (c.map fun n => D.int (n.natAbs : Int)) = (szs c).map D.int := by unfold szs; rw [List.map_map]; rfl
    rw [es]
    have hcl : isCl many c = isCl many c := rfl
    have eq := fun us h hm => isCl_eq (many := many) (c := c) (us := us) h hm
    have hsl : (szs c).length = c.length := by simp [szs]
    generalize szs c = ss at eq hsl ⊢
    try simp
    refine nxt_of ?_
    simp
    refine is_spec (by omega) ?_
    have el : lstOf (h ++ [.lst (ss.map D.int)]) (.loc h.length) = some (ss.map D.int) := by simp [lstOf]
    simp [x_sortedSet el]
    refine ⟨by omega, fun us h1 h2 => ?_⟩
    rw [x_eqIL el (ms := us) rfl]
    rw [eq us h1 h2]
    simp only [blQ_bl]
    split
    · rename_i w
      simp
      refine comp_onf (as := ss) D.int D.int (bad many) (by omega) ?_ (fun n hn k s hk => ?_) ?_
      · simp
      · simp
        unfold bad at hk
        by_cases w1 : n = 0
        · simpa [w1] using hk
        · simpa [w1] using hk
      · simp at w
        simp [w]
        refine same_bool rfl rfl rfl ?_
        simp [hZ]
        exact hk _ _ _ _
    · rename_i w
      simp at w
      simp [w]
      refine same_bool rfl rfl rfl ?_
      simp [hZ]
      exact hk _ _ _ _
end K23

namespace K23
open PySem PySem.Spec PyProof.Rows L2 Py
theorem nones_map (m : Nat) : List.replicate m D.non = (List.replicate m (none : Option Bool)).map tv := by rw [List.map_replicate]; rfl
theorem nones_flat (m : Nat) : (List.replicate m [D.non]).flatten = (List.replicate m (none : Option Bool)).map tv := by rw [← nones_map]; simp
abbrev few : List (List Int) := [[1, 2], [-1, 3], [-3, 4], [-2], [-1, -4]]
theorem pair_of {d : Nat} (ts : TS) (cs : List (List Int)) {ts' : TS} {o : Option Nat} {h : Hd} {Q : PD} (M : Nat) (hM : ts.count none < M) (e : spr M ts cs = (ts', o)) (hc : gcs ts.length cs) (hl : cs.length ≤ 1000) (hl2 : ts.length ≤ 1000) (hl3 : ts'.length ≤ 1000)
    (q : Q (.tup [.tup (ts'.map tv), on o]) h) : wpCall gl F (d+5) 7 [.tup (ts.map tv), .tup (cs.map clD)] h Q := spread_spec hc hl hl2 hM (by rw [e]; exact q)
theorem same_of {d : Nat} {b : Bool} {h : Hd} {Q : PD} (q : Q (.bl true) h) : wpCall gl F (d+1) 11 [.bl b, .bl b] h Q := same_bool rfl rfl rfl (by simpa using q)
theorem sz1 : (1 ≤ sizeLine) = True := by decide
theorem sz2 : (2 ≤ sizeLine) = True := by decide
theorem sz3 : (3 ≤ sizeLine) = True := by decide
theorem sz4 : (4 ≤ sizeLine) = True := by decide
theorem sz5 : (5 ≤ sizeLine) = True := by decide
theorem law_ok (ns : List Int) (hl : ns.length ≤ 63) : wpCall gl F 40 20 [.rl (ns.map D.int)] [] (fun v _ => v = .bl true) := by
  have hz : sizeLine > 200000 := by decide
  refine call_of (c := d_law) rfl rfl ?_
  simp [startD, b_law]
  refine draws2_spec (m := 200) rfl rfl rfl hl (by omega) fun xs => ?_
  simp
  refine nxt_of ?_
  simp
  refine take_spec rfl (by omega) (xs := xs) rfl fun n xs r0 r1 => ?_
  obtain ⟨m, hm⟩ : ∃ m : Nat, 1 + n = (m : Int) := ⟨(1 + n).toNat, by omega⟩
  have hm0 : 0 < m := by omega
  have hm1 : m ≤ 6 := by omega
  simp [hm]
  refine nxt_of ?_
  simp
  refine clauses_spec (m := m) (rows := 9) (r := []) hm0 (by omega) (by omega) fun cs xs hcs hcl => ?_
  simp
  refine nxt_of ?_
  simp
  refine for_range (fun i τ h' => ∃ (xs : List Int) (t4 t5 : Option D), h' = [.lst (xs.map D.int)] ∧ τ = [some (.rl (ns.map D.int)), some (.loc 0), some (.int m), some (.tup (cs.map clD)), t4, t5, none, none, none, none, none, none, none]) ⟨xs, _, _, rfl, rfl⟩ (fun _ => trivial) ?_ ?_
  · rintro i τ h' k hi ⟨xs, t4, t5, rfl, rfl⟩ hk
    simp
    refine ⟨by omega, ?_⟩
    refine comp_inv (fun i acc h' => ∃ (ts : TS) (xs : List Int), acc = ts.map tv ∧ ts.length = i ∧ h' = [.lst (xs.map D.int)]) (by simp; omega) ⟨[], xs, rfl, rfl, rfl⟩ ?_ ?_
    · rintro i x acc h' k s hx ⟨ts, xs, rfl, hts, rfl⟩ hk hs
      obtain ⟨hi, rfl⟩ := range_get hx
      simp [yesT]
      refine ⟨by omega, ?_⟩
      refine take_spec rfl (by omega) (xs := xs) rfl fun n xs r0 r1 => ?_
      have fin : ∀ o : Option Bool, k (tv o) [.lst (xs.map D.int)] := fun o => hk _ _ ⟨ts ++ [o], xs, by simp, by simpa using hts, rfl⟩
      have hn : n = 0 ∨ n = 1 ∨ n = 2 ∨ n = 3 := by omega
      rcases hn with rfl | rfl | rfl | rfl
      · simp; exact fin none
      · simp; exact fin none
      · simp; exact fin (some false)
      · simp; exact fin (some true)
    · rintro acc h' ⟨ts, xs, rfl, hts, rfl⟩
      have hts : ts.length = m := by simpa using hts
      simp
      refine nxt_of ?_
      simp
      refine told_spec (by rw [hts]; exact hcs) (by omega) (by omega) ?_
      simp
      refine ⟨by omega, by omega, ?_⟩
      simp only [nones_map]
      refine told_spec (by rw [List.length_replicate]; exact hcs) (by omega) (by simp; omega) ?_
      simp
      exact hk _ _ ⟨xs, _, _, rfl, rfl⟩
  · rintro τ h' ⟨xs, t4, t5, rfl, rfl⟩
    refine nxt_of ?_
    simp
    refine take_spec rfl (by omega) (xs := xs) rfl fun n xs r0 r1 => ?_
    simp
    refine ⟨by omega, ?_⟩
    refine comp_inv (fun i acc h' => ∃ (ts xs : List Int), acc = ts.map D.int ∧ ts.length = i ∧ h' = [.lst (xs.map D.int)]) (by simp; omega) ⟨[], xs, rfl, rfl, rfl⟩ ?_ ?_
    · rintro i x acc h' k s hx ⟨ts, xs, rfl, hts, rfl⟩ hk hs
      obtain ⟨hi, rfl⟩ := range_get hx
      simp [yesT]
      refine take_spec rfl (by omega) (xs := xs) rfl fun n xs r0 r1 => ?_
      simp
      exact hk _ _ ⟨ts ++ [n - 8], xs, by simp, by simpa using hts, rfl⟩
    · rintro acc h' ⟨some1, xs, rfl, hts, rfl⟩
      have hts : some1.length ≤ 4 := by simp at hts; omega
      try simp
      refine nxt_of ?_
      have es : seqOf [.lst (xs.map D.int)] (.tup (some1.map D.int)) = some (some1.map D.int) := rfl
      simp [x_sorted es]
      refine clause_spec (m := 6) (r := []) (by omega) (by omega) fun c xs hgc hcl2 => ?_
      simp
      refine ⟨by omega, ?_⟩
      have hsl : (sortI some1).length = some1.length := (sortI_perm some1).length_eq
      refine for_inv (fun i τ h' => ∃ (a4 a5 a6 a8 a9 a10 a11 a12 : Option D), τ = [some (.rl (ns.map D.int)), some (.loc 0), some (.int m), some (.tup (cs.map clD)), a4, a5, a6, some (.tup (some1.map D.int)), a8, a9, a10, a11, a12]) ⟨_, _, _, _, _, _, _, _, rfl⟩ ?_ ?_
      · rintro i x τ h' k hx ⟨a4, a5, a6, a8, a9, a10, a11, a12, rfl⟩ hk
        have hx : ∃ c : List Int, x = .tup (c.map D.int) ∧ c.length < 64 := by
          match i, hx with
          | 0, hx => cases hx; exact ⟨_, rfl, by omega⟩
          | 1, hx => cases hx; exact ⟨_, rfl, by omega⟩
          | 2, hx => cases hx; exact ⟨_, rfl, by omega⟩
        obtain ⟨c, rfl, hc⟩ := hx
        refine ⟨trivial, ?_⟩
        exact own_step hc rfl fun h' a9 a10 a11 => hk _ _ ⟨_, _, _, _, _, _, _, _, rfl⟩
      · rintro τ h' ⟨a4, a5, a6, a8, a9, a10, a11, a12, rfl⟩
        refine ⟨trivial, ?_⟩
        have gfew : gcs 4 few := by
          unfold gcs few gd
          decide
        refine nxt_of ?_
        simp [sz1, sz2, sz3, sz4, sz5]
        refine nxt_of ?_
        simp [sz1, sz2, sz3, sz4, sz5]
        refine pair_of [none, none, none, none] few (ts' := [some true, some false, some true, some true]) (o := some 4) 5 (by decide) (by decide) gfew (by decide) (by decide) (by decide) ?_
        simp [sz1, sz2, sz3, sz4, sz5]
        refine pair_spec (ts := [some true, some false, some true, some true]) (o := some 4) (by decide) ?_
        simp [sz1, sz2, sz3, sz4, sz5]
        refine pair_of [none, none] [[2], [-1, -2], [1]] (ts' := [some false, some true]) (o := some 2) 3 (by decide) (by decide) (by unfold gcs gd; decide) (by decide) (by decide) (by decide) ?_
        simp [sz1, sz2, sz3, sz4, sz5]
        refine pair_spec (ts := [some false, some true]) (o := some 2) (by decide) ?_
        simp [sz1, sz2, sz3, sz4, sz5]
        refine nxt_of ?_
        simp [sz1, sz2, sz3, sz4, sz5]
        refine pair_of [none, none] [[-1, 2], [1], [-2]] (ts' := [some true, some true]) (o := some 2) 3 (by decide) (by decide) (by unfold gcs gd; decide) (by decide) (by decide) (by decide) ?_
        simp [sz1, sz2, sz3, sz4, sz5]
        refine pair_spec (ts := [some true, some true]) (o := some 2) (by decide) ?_
        simp [sz1, sz2, sz3, sz4, sz5]
        refine pair_of [none] [[1], []] (ts' := [none]) (o := some 1) 3 (by decide) (by decide) (by unfold gcs gd; decide) (by decide) (by decide) (by decide) ?_
        simp [sz1, sz2, sz3, sz4, sz5]
        refine pair_spec (ts := [none]) (o := some 1) (by decide) ?_
        simp [sz1, sz2, sz3, sz4, sz5]
        refine nxt_of ?_
        simp [sz1, sz2, sz3, sz4, sz5]
        refine pair_of [some true, none] [] (ts' := [some true, none]) (o := none) 3 (by decide) (by decide) (by unfold gcs gd; decide) (by decide) (by decide) (by decide) ?_
        simp [sz1, sz2, sz3, sz4, sz5]
        refine pair_spec (ts := [some true, none]) (o := none) (by decide) ?_
        simp [sz1, sz2, sz3, sz4, sz5]
        refine nxt_of ?_
        simp [sz1, sz2, sz3, sz4, sz5]
        have ic : ∀ {many : Int} (c : List Int) {b : Bool} {h : Hd} {Q : PD}, isCl many c = b → c.length ≤ 1000 → Q (.bl b) h → wpCall gl F 39 8 [.int many, .tup (c.map D.int)] h Q := by
          intro many c b h Q e hl q
          exact is_spec hl (by rw [e]; exact q)
        refine ic [-1, 3, -4] (b := true) (by decide) (by decide) ?_
        simp [sz1, sz2, sz3, sz4, sz5]
        refine same_of ?_
        simp [sz1, sz2, sz3, sz4, sz5]
        refine ic [3, -1] (b := false) (by decide) (by decide) ?_
        simp [sz1, sz2, sz3, sz4, sz5]
        refine same_of ?_
        simp [sz1, sz2, sz3, sz4, sz5]
        refine ic [1, -1] (b := false) (by decide) (by decide) ?_
        simp [sz1, sz2, sz3, sz4, sz5]
        refine same_of ?_
        simp [sz1, sz2, sz3, sz4, sz5]
        refine nxt_of ?_
        simp [sz1, sz2, sz3, sz4, sz5]
        refine ic [4] (b := false) (by decide) (by decide) ?_
        simp [sz1, sz2, sz3, sz4, sz5]
        refine same_of ?_
        simp [sz1, sz2, sz3, sz4, sz5]
        refine ic [] (b := true) (by decide) (by decide) ?_
        simp [sz1, sz2, sz3, sz4, sz5]
        refine same_of ?_
        simp [sz1, sz2, sz3, sz4, sz5]
        refine nxt_of ?_
        simp [sz1, sz2, sz3, sz4, sz5]
        refine told_spec (ts := [none, some true, some false, none]) (cs := few) gfew (by decide) (by decide) ?_
        simp [sz1, sz2, sz3, sz4, sz5]
        refine nxt_of ?_
        simp [sz1, sz2, sz3, sz4, sz5]
        refine holds_spec (ts := [none]) (c := []) (by simp) (by decide) ?_
        rw [show hol [none] [] = some false by decide]
        simp [sz1, sz2, sz3, sz4, sz5]
        refine all_spec (ts := [none]) (cs := []) (by simp) (by decide) ?_
        rw [show hols [none] [] = some true by decide]
        simp [sz1, sz2, sz3, sz4, sz5]
        refine unit_spec (ts := [some false, none, some true]) (c := [1, 2, -3]) (by unfold gd; decide) (by decide) ?_
        rw [show unit [some false, none, some true] [1, 2, -3] = some 2 by decide]
        simp [od]
        refine same_int rfl rfl rfl ?_
        simp [sz1, sz2, sz3, sz4, sz5]
        refine unit_spec (ts := [some true, none]) (c := [1, 2]) (by unfold gd; decide) (by decide) ?_
        rw [show unit [some true, none] [1, 2] = none by decide]
        simp [sz1, sz2, sz3, sz4, sz5]
        exact gc_same rfl
end K23

namespace K23
open PySem PySem.Spec PyProof.Rows L2 Py
/-! ### the texts -/
theorem sc_truth_of : FnScope d_truth_of.N d_truth_of.ps (defScope d_truth_of.st) := ⟨rfl, rfl, rfl, by decide +kernel, rfl, by decide +kernel, by decide +kernel⟩
theorem ck_truth_of : chkB T d_truth_of.N d_truth_of.body (defScope d_truth_of.st) (defBody d_truth_of.st) = true := by decide +kernel
theorem sc_holds : FnScope d_holds.N d_holds.ps (defScope d_holds.st) := ⟨rfl, rfl, rfl, by decide +kernel, rfl, by decide +kernel, by decide +kernel⟩
theorem ck_holds : chkB T d_holds.N d_holds.body (defScope d_holds.st) (defBody d_holds.st) = true := by decide +kernel
theorem sc_all_hold : FnScope d_all_hold.N d_all_hold.ps (defScope d_all_hold.st) := ⟨rfl, rfl, rfl, by decide +kernel, rfl, by decide +kernel, by decide +kernel⟩
theorem ck_all_hold : chkB T d_all_hold.N d_all_hold.body (defScope d_all_hold.st) (defBody d_all_hold.st) = true := by decide +kernel
theorem sc_unit_of : FnScope d_unit_of.N d_unit_of.ps (defScope d_unit_of.st) := ⟨rfl, rfl, rfl, by decide +kernel, rfl, by decide +kernel, by decide +kernel⟩
theorem ck_unit_of : chkB T d_unit_of.N d_unit_of.body (defScope d_unit_of.st) (defBody d_unit_of.st) = true := by decide +kernel
theorem sc_with_true : FnScope d_with_true.N d_with_true.ps (defScope d_with_true.st) := ⟨rfl, rfl, rfl, by decide +kernel, rfl, by decide +kernel, by decide +kernel⟩
theorem ck_with_true : chkB T d_with_true.N d_with_true.body (defScope d_with_true.st) (defBody d_with_true.st) = true := by decide +kernel
theorem sc_false_clause : FnScope d_false_clause.N d_false_clause.ps (defScope d_false_clause.st) := ⟨rfl, rfl, rfl, by decide +kernel, rfl, by decide +kernel, by decide +kernel⟩
theorem ck_false_clause : chkB T d_false_clause.N d_false_clause.body (defScope d_false_clause.st) (defBody d_false_clause.st) = true := by decide +kernel
theorem sc_first_unit : FnScope d_first_unit.N d_first_unit.ps (defScope d_first_unit.st) := ⟨rfl, rfl, rfl, by decide +kernel, rfl, by decide +kernel, by decide +kernel⟩
theorem ck_first_unit : chkB T d_first_unit.N d_first_unit.body (defScope d_first_unit.st) (defBody d_first_unit.st) = true := by decide +kernel
theorem sc_spread : FnScope d_spread.N d_spread.ps (defScope d_spread.st) := ⟨rfl, rfl, rfl, by decide +kernel, rfl, by decide +kernel, by decide +kernel⟩
theorem ck_spread : chkB T d_spread.N d_spread.body (defScope d_spread.st) (defBody d_spread.st) = true := by decide +kernel
theorem sc_is_clause : FnScope d_is_clause.N d_is_clause.ps (defScope d_is_clause.st) := ⟨rfl, rfl, rfl, by decide +kernel, rfl, by decide +kernel, by decide +kernel⟩
theorem ck_is_clause : chkB T d_is_clause.N d_is_clause.body (defScope d_is_clause.st) (defBody d_is_clause.st) = true := by decide +kernel
theorem sc__law_draws : FnScope d__law_draws.N d__law_draws.ps (defScope d__law_draws.st) := ⟨rfl, rfl, rfl, by decide +kernel, rfl, by decide +kernel, by decide +kernel⟩
theorem ck__law_draws : chkB T d__law_draws.N d__law_draws.body (defScope d__law_draws.st) (defBody d__law_draws.st) = true := by decide +kernel
theorem sc__law_take : FnScope d__law_take.N d__law_take.ps (defScope d__law_take.st) := ⟨rfl, rfl, rfl, by decide +kernel, rfl, by decide +kernel, by decide +kernel⟩
theorem ck__law_take : chkB T d__law_take.N d__law_take.body (defScope d__law_take.st) (defBody d__law_take.st) = true := by decide +kernel
theorem sc__law_same : FnScope d__law_same.N d__law_same.ps (defScope d__law_same.st) := ⟨rfl, rfl, rfl, by decide +kernel, rfl, by decide +kernel, by decide +kernel⟩
theorem ck__law_same : chkB T d__law_same.N d__law_same.body (defScope d__law_same.st) (defBody d__law_same.st) = true := by decide +kernel
theorem sc__law_clause : FnScope d__law_clause.N d__law_clause.ps (defScope d__law_clause.st) := ⟨rfl, rfl, rfl, by decide +kernel, rfl, by decide +kernel, by decide +kernel⟩
theorem ck__law_clause : chkB T d__law_clause.N d__law_clause.body (defScope d__law_clause.st) (defBody d__law_clause.st) = true := by decide +kernel
theorem sc__law_clauses : FnScope d__law_clauses.N d__law_clauses.ps (defScope d__law_clauses.st) := ⟨rfl, rfl, rfl, by decide +kernel, rfl, by decide +kernel, by decide +kernel⟩
theorem ck__law_clauses : chkB T d__law_clauses.N d__law_clauses.body (defScope d__law_clauses.st) (defBody d__law_clauses.st) = true := by decide +kernel
theorem sc__law_look : FnScope d__law_look.N d__law_look.ps (defScope d__law_look.st) := ⟨rfl, rfl, rfl, by decide +kernel, rfl, by decide +kernel, by decide +kernel⟩
theorem ck__law_look : chkB T d__law_look.N d__law_look.body (defScope d__law_look.st) (defBody d__law_look.st) = true := by decide +kernel
theorem sc__law_worth : FnScope d__law_worth.N d__law_worth.ps (defScope d__law_worth.st) := ⟨rfl, rfl, rfl, by decide +kernel, rfl, by decide +kernel, by decide +kernel⟩
theorem ck__law_worth : chkB T d__law_worth.N d__law_worth.body (defScope d__law_worth.st) (defBody d__law_worth.st) = true := by decide +kernel
theorem sc__law_unit : FnScope d__law_unit.N d__law_unit.ps (defScope d__law_unit.st) := ⟨rfl, rfl, rfl, by decide +kernel, rfl, by decide +kernel, by decide +kernel⟩
theorem ck__law_unit : chkB T d__law_unit.N d__law_unit.body (defScope d__law_unit.st) (defBody d__law_unit.st) = true := by decide +kernel
theorem sc__law_spread : FnScope d__law_spread.N d__law_spread.ps (defScope d__law_spread.st) := ⟨rfl, rfl, rfl, by decide +kernel, rfl, by decide +kernel, by decide +kernel⟩
theorem ck__law_spread : chkB T d__law_spread.N d__law_spread.body (defScope d__law_spread.st) (defBody d__law_spread.st) = true := by decide +kernel
theorem sc__law_same_pair : FnScope d__law_same_pair.N d__law_same_pair.ps (defScope d__law_same_pair.st) := ⟨rfl, rfl, rfl, by decide +kernel, rfl, by decide +kernel, by decide +kernel⟩
theorem ck__law_same_pair : chkB T d__law_same_pair.N d__law_same_pair.body (defScope d__law_same_pair.st) (defBody d__law_same_pair.st) = true := by decide +kernel
theorem sc__law_are_told : FnScope d__law_are_told.N d__law_are_told.ps (defScope d__law_are_told.st) := ⟨rfl, rfl, rfl, by decide +kernel, rfl, by decide +kernel, by decide +kernel⟩
theorem ck__law_are_told : chkB T d__law_are_told.N d__law_are_told.body (defScope d__law_are_told.st) (defBody d__law_are_told.st) = true := by decide +kernel
theorem sc_law : FnScope d_law.N d_law.ps (defScope d_law.st) := ⟨rfl, rfl, rfl, by decide +kernel, rfl, by decide +kernel, by decide +kernel⟩
theorem ck_law : chkB T d_law.N d_law.body (defScope d_law.st) (defBody d_law.st) = true := by decide +kernel
theorem txts : Txts T F := by
  refine ⟨rfl, fun c h => ?_, fun c h => ?_⟩
  · simp only [F, List.mem_cons, List.not_mem_nil, or_false] at h
    rcases h with rfl | rfl | rfl | rfl | rfl | rfl | rfl | rfl | rfl | rfl | rfl | rfl | rfl | rfl | rfl | rfl | rfl | rfl | rfl | rfl | rfl
    · exact sc_truth_of
    · exact sc_holds
    · exact sc_all_hold
    · exact sc_unit_of
    · exact sc_with_true
    · exact sc_false_clause
    · exact sc_first_unit
    · exact sc_spread
    · exact sc_is_clause
    · exact sc__law_draws
    · exact sc__law_take
    · exact sc__law_same
    · exact sc__law_clause
    · exact sc__law_clauses
    · exact sc__law_look
    · exact sc__law_worth
    · exact sc__law_unit
    · exact sc__law_spread
    · exact sc__law_same_pair
    · exact sc__law_are_told
    · exact sc_law
  · simp only [F, List.mem_cons, List.not_mem_nil, or_false] at h
    rcases h with rfl | rfl | rfl | rfl | rfl | rfl | rfl | rfl | rfl | rfl | rfl | rfl | rfl | rfl | rfl | rfl | rfl | rfl | rfl | rfl | rfl
    · exact ck_truth_of
    · exact ck_holds
    · exact ck_all_hold
    · exact ck_unit_of
    · exact ck_with_true
    · exact ck_false_clause
    · exact ck_first_unit
    · exact ck_spread
    · exact ck_is_clause
    · exact ck__law_draws
    · exact ck__law_take
    · exact ck__law_same
    · exact ck__law_clause
    · exact ck__law_clauses
    · exact ck__law_look
    · exact ck__law_worth
    · exact ck__law_unit
    · exact ck__law_spread
    · exact ck__law_same_pair
    · exact ck__law_are_told
    · exact ck_law
/-! ### the top -/
theorem all_mk {l : PySem.W.OpenLaw} {w : World} {K : PySem.W.Frag} {h : Heap} {mg : Str → Option Value} {fa : Addr} (X : K.In h) (G : h.Ns mainGlobals mg) (hfa : mg "law" = some (.ref fa))
    {f0 : Addr} {od0 an0 : Option Addr} {sl0 : Array (Option Value)} {oc0 kV0 dc0 pm0 cd0 ct0 : Value}
    (a0 : PySem.W.nsIn K mainGlobals "truth_of" = some (some (.ref f0))) (l0 : K.lookup f0 = some ⟨oc0, od0, .func (PySem.W.fnOf "truth_of" "truth_of" (defArgs d_truth_of.st) (defBody d_truth_of.st) (defScope d_truth_of.st) .none kV0 dc0 pm0 an0 cd0 ct0), sl0⟩) (c0 : PySem.W.codeIn K cd0 "truth_of" = true) (k0 : PySem.W.keepIn K (.ref f0) = true)
    {f1 : Addr} {od1 an1 : Option Addr} {sl1 : Array (Option Value)} {oc1 kV1 dc1 pm1 cd1 ct1 : Value}
    (a1 : PySem.W.nsIn K mainGlobals "holds" = some (some (.ref f1))) (l1 : K.lookup f1 = some ⟨oc1, od1, .func (PySem.W.fnOf "holds" "holds" (defArgs d_holds.st) (defBody d_holds.st) (defScope d_holds.st) .none kV1 dc1 pm1 an1 cd1 ct1), sl1⟩) (c1 : PySem.W.codeIn K cd1 "holds" = true) (k1 : PySem.W.keepIn K (.ref f1) = true)
    {f2 : Addr} {od2 an2 : Option Addr} {sl2 : Array (Option Value)} {oc2 kV2 dc2 pm2 cd2 ct2 : Value}
    (a2 : PySem.W.nsIn K mainGlobals "all_hold" = some (some (.ref f2))) (l2 : K.lookup f2 = some ⟨oc2, od2, .func (PySem.W.fnOf "all_hold" "all_hold" (defArgs d_all_hold.st) (defBody d_all_hold.st) (defScope d_all_hold.st) .none kV2 dc2 pm2 an2 cd2 ct2), sl2⟩) (c2 : PySem.W.codeIn K cd2 "all_hold" = true) (k2 : PySem.W.keepIn K (.ref f2) = true)
    {f3 : Addr} {od3 an3 : Option Addr} {sl3 : Array (Option Value)} {oc3 kV3 dc3 pm3 cd3 ct3 : Value}
    (a3 : PySem.W.nsIn K mainGlobals "unit_of" = some (some (.ref f3))) (l3 : K.lookup f3 = some ⟨oc3, od3, .func (PySem.W.fnOf "unit_of" "unit_of" (defArgs d_unit_of.st) (defBody d_unit_of.st) (defScope d_unit_of.st) .none kV3 dc3 pm3 an3 cd3 ct3), sl3⟩) (c3 : PySem.W.codeIn K cd3 "unit_of" = true) (k3 : PySem.W.keepIn K (.ref f3) = true)
    {f4 : Addr} {od4 an4 : Option Addr} {sl4 : Array (Option Value)} {oc4 kV4 dc4 pm4 cd4 ct4 : Value}
    (a4 : PySem.W.nsIn K mainGlobals "with_true" = some (some (.ref f4))) (l4 : K.lookup f4 = some ⟨oc4, od4, .func (PySem.W.fnOf "with_true" "with_true" (defArgs d_with_true.st) (defBody d_with_true.st) (defScope d_with_true.st) .none kV4 dc4 pm4 an4 cd4 ct4), sl4⟩) (c4 : PySem.W.codeIn K cd4 "with_true" = true) (k4 : PySem.W.keepIn K (.ref f4) = true)
    {f5 : Addr} {od5 an5 : Option Addr} {sl5 : Array (Option Value)} {oc5 kV5 dc5 pm5 cd5 ct5 : Value}
    (a5 : PySem.W.nsIn K mainGlobals "false_clause" = some (some (.ref f5))) (l5 : K.lookup f5 = some ⟨oc5, od5, .func (PySem.W.fnOf "false_clause" "false_clause" (defArgs d_false_clause.st) (defBody d_false_clause.st) (defScope d_false_clause.st) .none kV5 dc5 pm5 an5 cd5 ct5), sl5⟩) (c5 : PySem.W.codeIn K cd5 "false_clause" = true) (k5 : PySem.W.keepIn K (.ref f5) = true)
    {f6 : Addr} {od6 an6 : Option Addr} {sl6 : Array (Option Value)} {oc6 kV6 dc6 pm6 cd6 ct6 : Value}
    (a6 : PySem.W.nsIn K mainGlobals "first_unit" = some (some (.ref f6))) (l6 : K.lookup f6 = some ⟨oc6, od6, .func (PySem.W.fnOf "first_unit" "first_unit" (defArgs d_first_unit.st) (defBody d_first_unit.st) (defScope d_first_unit.st) .none kV6 dc6 pm6 an6 cd6 ct6), sl6⟩) (c6 : PySem.W.codeIn K cd6 "first_unit" = true) (k6 : PySem.W.keepIn K (.ref f6) = true)
    {f7 : Addr} {od7 an7 : Option Addr} {sl7 : Array (Option Value)} {oc7 kV7 dc7 pm7 cd7 ct7 : Value}
    (a7 : PySem.W.nsIn K mainGlobals "spread" = some (some (.ref f7))) (l7 : K.lookup f7 = some ⟨oc7, od7, .func (PySem.W.fnOf "spread" "spread" (defArgs d_spread.st) (defBody d_spread.st) (defScope d_spread.st) .none kV7 dc7 pm7 an7 cd7 ct7), sl7⟩) (c7 : PySem.W.codeIn K cd7 "spread" = true) (k7 : PySem.W.keepIn K (.ref f7) = true)
    {f8 : Addr} {od8 an8 : Option Addr} {sl8 : Array (Option Value)} {oc8 kV8 dc8 pm8 cd8 ct8 : Value}
    (a8 : PySem.W.nsIn K mainGlobals "is_clause" = some (some (.ref f8))) (l8 : K.lookup f8 = some ⟨oc8, od8, .func (PySem.W.fnOf "is_clause" "is_clause" (defArgs d_is_clause.st) (defBody d_is_clause.st) (defScope d_is_clause.st) .none kV8 dc8 pm8 an8 cd8 ct8), sl8⟩) (c8 : PySem.W.codeIn K cd8 "is_clause" = true) (k8 : PySem.W.keepIn K (.ref f8) = true)
    {f9 : Addr} {od9 an9 : Option Addr} {sl9 : Array (Option Value)} {oc9 kV9 dc9 pm9 cd9 ct9 : Value}
    (a9 : PySem.W.nsIn K mainGlobals "_law_draws" = some (some (.ref f9))) (l9 : K.lookup f9 = some ⟨oc9, od9, .func (PySem.W.fnOf "_law_draws" "_law_draws" (defArgs d__law_draws.st) (defBody d__law_draws.st) (defScope d__law_draws.st) .none kV9 dc9 pm9 an9 cd9 ct9), sl9⟩) (c9 : PySem.W.codeIn K cd9 "_law_draws" = true) (k9 : PySem.W.keepIn K (.ref f9) = true)
    {f10 : Addr} {od10 an10 : Option Addr} {sl10 : Array (Option Value)} {oc10 kV10 dc10 pm10 cd10 ct10 : Value}
    (a10 : PySem.W.nsIn K mainGlobals "_law_take" = some (some (.ref f10))) (l10 : K.lookup f10 = some ⟨oc10, od10, .func (PySem.W.fnOf "_law_take" "_law_take" (defArgs d__law_take.st) (defBody d__law_take.st) (defScope d__law_take.st) .none kV10 dc10 pm10 an10 cd10 ct10), sl10⟩) (c10 : PySem.W.codeIn K cd10 "_law_take" = true) (k10 : PySem.W.keepIn K (.ref f10) = true)
    {f11 : Addr} {od11 an11 : Option Addr} {sl11 : Array (Option Value)} {oc11 kV11 dc11 pm11 cd11 ct11 : Value}
    (a11 : PySem.W.nsIn K mainGlobals "_law_same" = some (some (.ref f11))) (l11 : K.lookup f11 = some ⟨oc11, od11, .func (PySem.W.fnOf "_law_same" "_law_same" (defArgs d__law_same.st) (defBody d__law_same.st) (defScope d__law_same.st) .none kV11 dc11 pm11 an11 cd11 ct11), sl11⟩) (c11 : PySem.W.codeIn K cd11 "_law_same" = true) (k11 : PySem.W.keepIn K (.ref f11) = true)
    {f12 : Addr} {od12 an12 : Option Addr} {sl12 : Array (Option Value)} {oc12 kV12 dc12 pm12 cd12 ct12 : Value}
    (a12 : PySem.W.nsIn K mainGlobals "_law_clause" = some (some (.ref f12))) (l12 : K.lookup f12 = some ⟨oc12, od12, .func (PySem.W.fnOf "_law_clause" "_law_clause" (defArgs d__law_clause.st) (defBody d__law_clause.st) (defScope d__law_clause.st) .none kV12 dc12 pm12 an12 cd12 ct12), sl12⟩) (c12 : PySem.W.codeIn K cd12 "_law_clause" = true) (k12 : PySem.W.keepIn K (.ref f12) = true)
    {f13 : Addr} {od13 an13 : Option Addr} {sl13 : Array (Option Value)} {oc13 kV13 dc13 pm13 cd13 ct13 : Value}
    (a13 : PySem.W.nsIn K mainGlobals "_law_clauses" = some (some (.ref f13))) (l13 : K.lookup f13 = some ⟨oc13, od13, .func (PySem.W.fnOf "_law_clauses" "_law_clauses" (defArgs d__law_clauses.st) (defBody d__law_clauses.st) (defScope d__law_clauses.st) .none kV13 dc13 pm13 an13 cd13 ct13), sl13⟩) (c13 : PySem.W.codeIn K cd13 "_law_clauses" = true) (k13 : PySem.W.keepIn K (.ref f13) = true)
    {f14 : Addr} {od14 an14 : Option Addr} {sl14 : Array (Option Value)} {oc14 kV14 dc14 pm14 cd14 ct14 : Value}
    (a14 : PySem.W.nsIn K mainGlobals "_law_look" = some (some (.ref f14))) (l14 : K.lookup f14 = some ⟨oc14, od14, .func (PySem.W.fnOf "_law_look" "_law_look" (defArgs d__law_look.st) (defBody d__law_look.st) (defScope d__law_look.st) .none kV14 dc14 pm14 an14 cd14 ct14), sl14⟩) (c14 : PySem.W.codeIn K cd14 "_law_look" = true) (k14 : PySem.W.keepIn K (.ref f14) = true)
    {f15 : Addr} {od15 an15 : Option Addr} {sl15 : Array (Option Value)} {oc15 kV15 dc15 pm15 cd15 ct15 : Value}
    (a15 : PySem.W.nsIn K mainGlobals "_law_worth" = some (some (.ref f15))) (l15 : K.lookup f15 = some ⟨oc15, od15, .func (PySem.W.fnOf "_law_worth" "_law_worth" (defArgs d__law_worth.st) (defBody d__law_worth.st) (defScope d__law_worth.st) .none kV15 dc15 pm15 an15 cd15 ct15), sl15⟩) (c15 : PySem.W.codeIn K cd15 "_law_worth" = true) (k15 : PySem.W.keepIn K (.ref f15) = true)
    {f16 : Addr} {od16 an16 : Option Addr} {sl16 : Array (Option Value)} {oc16 kV16 dc16 pm16 cd16 ct16 : Value}
    (a16 : PySem.W.nsIn K mainGlobals "_law_unit" = some (some (.ref f16))) (l16 : K.lookup f16 = some ⟨oc16, od16, .func (PySem.W.fnOf "_law_unit" "_law_unit" (defArgs d__law_unit.st) (defBody d__law_unit.st) (defScope d__law_unit.st) .none kV16 dc16 pm16 an16 cd16 ct16), sl16⟩) (c16 : PySem.W.codeIn K cd16 "_law_unit" = true) (k16 : PySem.W.keepIn K (.ref f16) = true)
    {f17 : Addr} {od17 an17 : Option Addr} {sl17 : Array (Option Value)} {oc17 kV17 dc17 pm17 cd17 ct17 : Value}
    (a17 : PySem.W.nsIn K mainGlobals "_law_spread" = some (some (.ref f17))) (l17 : K.lookup f17 = some ⟨oc17, od17, .func (PySem.W.fnOf "_law_spread" "_law_spread" (defArgs d__law_spread.st) (defBody d__law_spread.st) (defScope d__law_spread.st) .none kV17 dc17 pm17 an17 cd17 ct17), sl17⟩) (c17 : PySem.W.codeIn K cd17 "_law_spread" = true) (k17 : PySem.W.keepIn K (.ref f17) = true)
    {f18 : Addr} {od18 an18 : Option Addr} {sl18 : Array (Option Value)} {oc18 kV18 dc18 pm18 cd18 ct18 : Value}
    (a18 : PySem.W.nsIn K mainGlobals "_law_same_pair" = some (some (.ref f18))) (l18 : K.lookup f18 = some ⟨oc18, od18, .func (PySem.W.fnOf "_law_same_pair" "_law_same_pair" (defArgs d__law_same_pair.st) (defBody d__law_same_pair.st) (defScope d__law_same_pair.st) .none kV18 dc18 pm18 an18 cd18 ct18), sl18⟩) (c18 : PySem.W.codeIn K cd18 "_law_same_pair" = true) (k18 : PySem.W.keepIn K (.ref f18) = true)
    {f19 : Addr} {od19 an19 : Option Addr} {sl19 : Array (Option Value)} {oc19 kV19 dc19 pm19 cd19 ct19 : Value}
    (a19 : PySem.W.nsIn K mainGlobals "_law_are_told" = some (some (.ref f19))) (l19 : K.lookup f19 = some ⟨oc19, od19, .func (PySem.W.fnOf "_law_are_told" "_law_are_told" (defArgs d__law_are_told.st) (defBody d__law_are_told.st) (defScope d__law_are_told.st) .none kV19 dc19 pm19 an19 cd19 ct19), sl19⟩) (c19 : PySem.W.codeIn K cd19 "_law_are_told" = true) (k19 : PySem.W.keepIn K (.ref f19) = true)
    {f20 : Addr} {od20 an20 : Option Addr} {sl20 : Array (Option Value)} {oc20 kV20 dc20 pm20 cd20 ct20 : Value}
    (a20 : PySem.W.nsIn K mainGlobals "law" = some (some (.ref f20))) (l20 : K.lookup f20 = some ⟨oc20, od20, .func (PySem.W.fnOf "law" "law" (defArgs d_law.st) (defBody d_law.st) (defScope d_law.st) .none kV20 dc20 pm20 an20 cd20 ct20), sl20⟩) (c20 : PySem.W.codeIn K cd20 "law" = true) (k20 : PySem.W.keepIn K (.ref f20) = true)
    (z0 : PySem.W.nsIn K mainGlobals "abs" = some none)
    (z1 : PySem.W.nsIn K mainGlobals "len" = some none)
    (z2 : PySem.W.nsIn K mainGlobals "range" = some none)
    (z3 : PySem.W.nsIn K mainGlobals "any" = some none)
    (z4 : PySem.W.nsIn K mainGlobals "all" = some none)
    (z5 : PySem.W.nsIn K mainGlobals "int" = some none)
    (z6 : PySem.W.nsIn K mainGlobals "list" = some none)
    (z7 : PySem.W.nsIn K mainGlobals "isinstance" = some none)
    (z8 : PySem.W.nsIn K mainGlobals "bool" = some none)
    (z9 : PySem.W.nsIn K mainGlobals "str" = some none)
    (z10 : PySem.W.nsIn K mainGlobals "tuple" = some none)
    (z11 : PySem.W.nsIn K mainGlobals "sorted" = some none)
    (z12 : PySem.W.nsIn K mainGlobals "set" = some none)
    : ∃ fd : FuncData, (∀ (s : Shared) (v : Value), BindsTo s fd ⟨[v], []⟩ [("script", v)]) ∧ ∀ base : Heap, K.In base → base.Ns mainGlobals mg → FnOk l.prog w K mg base CX0 40 fa fd ["script"] (spD K (wpCall gl F 40) 20) := by
  have e := hfa.symm.trans (PySem.W.mg_of X G a20)
  cases e
  have F0 := fun_mk (st := d_truth_of.st) l0 c0 k0
  have b0 := F0.binds (ps := d_truth_of.ps) fun _ _ _ _ _ _ us hl => match us, hl with | [_, _], _ => rfl
  have F1 := fun_mk (st := d_holds.st) l1 c1 k1
  have b1 := F1.binds (ps := d_holds.ps) fun _ _ _ _ _ _ us hl => match us, hl with | [_, _], _ => rfl
  have F2 := fun_mk (st := d_all_hold.st) l2 c2 k2
  have b2 := F2.binds (ps := d_all_hold.ps) fun _ _ _ _ _ _ us hl => match us, hl with | [_, _], _ => rfl
  have F3 := fun_mk (st := d_unit_of.st) l3 c3 k3
  have b3 := F3.binds (ps := d_unit_of.ps) fun _ _ _ _ _ _ us hl => match us, hl with | [_, _], _ => rfl
  have F4 := fun_mk (st := d_with_true.st) l4 c4 k4
  have b4 := F4.binds (ps := d_with_true.ps) fun _ _ _ _ _ _ us hl => match us, hl with | [_, _], _ => rfl
  have F5 := fun_mk (st := d_false_clause.st) l5 c5 k5
  have b5 := F5.binds (ps := d_false_clause.ps) fun _ _ _ _ _ _ us hl => match us, hl with | [_, _], _ => rfl
  have F6 := fun_mk (st := d_first_unit.st) l6 c6 k6
  have b6 := F6.binds (ps := d_first_unit.ps) fun _ _ _ _ _ _ us hl => match us, hl with | [_, _], _ => rfl
  have F7 := fun_mk (st := d_spread.st) l7 c7 k7
  have b7 := F7.binds (ps := d_spread.ps) fun _ _ _ _ _ _ us hl => match us, hl with | [_, _], _ => rfl
  have F8 := fun_mk (st := d_is_clause.st) l8 c8 k8
  have b8 := F8.binds (ps := d_is_clause.ps) fun _ _ _ _ _ _ us hl => match us, hl with | [_, _], _ => rfl
  have F9 := fun_mk (st := d__law_draws.st) l9 c9 k9
  have b9 := F9.binds (ps := d__law_draws.ps) fun _ _ _ _ _ _ us hl => match us, hl with | [_, _], _ => rfl
  have F10 := fun_mk (st := d__law_take.st) l10 c10 k10
  have b10 := F10.binds (ps := d__law_take.ps) fun _ _ _ _ _ _ us hl => match us, hl with | [_, _], _ => rfl
  have F11 := fun_mk (st := d__law_same.st) l11 c11 k11
  have b11 := F11.binds (ps := d__law_same.ps) fun _ _ _ _ _ _ us hl => match us, hl with | [_, _], _ => rfl
  have F12 := fun_mk (st := d__law_clause.st) l12 c12 k12
  have b12 := F12.binds (ps := d__law_clause.ps) fun _ _ _ _ _ _ us hl => match us, hl with | [_, _, _], _ => rfl
  have F13 := fun_mk (st := d__law_clauses.st) l13 c13 k13
  have b13 := F13.binds (ps := d__law_clauses.ps) fun _ _ _ _ _ _ us hl => match us, hl with | [_, _, _], _ => rfl
  have F14 := fun_mk (st := d__law_look.st) l14 c14 k14
  have b14 := F14.binds (ps := d__law_look.ps) fun _ _ _ _ _ _ us hl => match us, hl with | [_, _], _ => rfl
  have F15 := fun_mk (st := d__law_worth.st) l15 c15 k15
  have b15 := F15.binds (ps := d__law_worth.ps) fun _ _ _ _ _ _ us hl => match us, hl with | [_, _], _ => rfl
  have F16 := fun_mk (st := d__law_unit.st) l16 c16 k16
  have b16 := F16.binds (ps := d__law_unit.ps) fun _ _ _ _ _ _ us hl => match us, hl with | [_, _], _ => rfl
  have F17 := fun_mk (st := d__law_spread.st) l17 c17 k17
  have b17 := F17.binds (ps := d__law_spread.ps) fun _ _ _ _ _ _ us hl => match us, hl with | [_, _], _ => rfl
  have F18 := fun_mk (st := d__law_same_pair.st) l18 c18 k18
  have b18 := F18.binds (ps := d__law_same_pair.ps) fun _ _ _ _ _ _ us hl => match us, hl with | [_, _], _ => rfl
  have F19 := fun_mk (st := d__law_are_told.st) l19 c19 k19
  have b19 := F19.binds (ps := d__law_are_told.ps) fun _ _ _ _ _ _ us hl => match us, hl with | [_, _], _ => rfl
  have F20 := fun_mk (st := d_law.st) l20 c20 k20
  have b20 := F20.binds (ps := d_law.ps) fun _ _ _ _ _ _ us hl => match us, hl with | [_], _ => rfl
  have tp : Top T F K mg := by
    refine ⟨fun x hx => ?_, fun x id hx => ?_, fun x d hx => ?_, fun c h => ?_⟩
    · simp only [T, List.mem_cons, List.not_mem_nil, or_false] at hx
      rcases hx with rfl | rfl | rfl | rfl | rfl | rfl | rfl | rfl | rfl | rfl | rfl | rfl | rfl
      · exact PySem.W.mg_none_of X G z0
      · exact PySem.W.mg_none_of X G z1
      · exact PySem.W.mg_none_of X G z2
      · exact PySem.W.mg_none_of X G z3
      · exact PySem.W.mg_none_of X G z4
      · exact PySem.W.mg_none_of X G z5
      · exact PySem.W.mg_none_of X G z6
      · exact PySem.W.mg_none_of X G z7
      · exact PySem.W.mg_none_of X G z8
      · exact PySem.W.mg_none_of X G z9
      · exact PySem.W.mg_none_of X G z10
      · exact PySem.W.mg_none_of X G z11
      · exact PySem.W.mg_none_of X G z12
    · simp only [T] at hx
      cases hx
    · simp only [T, gl, List.not_mem_nil] at hx
    · simp only [F, List.mem_cons, List.not_mem_nil, or_false] at h
      rcases h with rfl | rfl | rfl | rfl | rfl | rfl | rfl | rfl | rfl | rfl | rfl | rfl | rfl | rfl | rfl | rfl | rfl | rfl | rfl | rfl | rfl
      · exact ⟨_, _, F0, PySem.W.mg_of X G a0, b0⟩
      · exact ⟨_, _, F1, PySem.W.mg_of X G a1, b1⟩
      · exact ⟨_, _, F2, PySem.W.mg_of X G a2, b2⟩
      · exact ⟨_, _, F3, PySem.W.mg_of X G a3, b3⟩
      · exact ⟨_, _, F4, PySem.W.mg_of X G a4, b4⟩
      · exact ⟨_, _, F5, PySem.W.mg_of X G a5, b5⟩
      · exact ⟨_, _, F6, PySem.W.mg_of X G a6, b6⟩
      · exact ⟨_, _, F7, PySem.W.mg_of X G a7, b7⟩
      · exact ⟨_, _, F8, PySem.W.mg_of X G a8, b8⟩
      · exact ⟨_, _, F9, PySem.W.mg_of X G a9, b9⟩
      · exact ⟨_, _, F10, PySem.W.mg_of X G a10, b10⟩
      · exact ⟨_, _, F11, PySem.W.mg_of X G a11, b11⟩
      · exact ⟨_, _, F12, PySem.W.mg_of X G a12, b12⟩
      · exact ⟨_, _, F13, PySem.W.mg_of X G a13, b13⟩
      · exact ⟨_, _, F14, PySem.W.mg_of X G a14, b14⟩
      · exact ⟨_, _, F15, PySem.W.mg_of X G a15, b15⟩
      · exact ⟨_, _, F16, PySem.W.mg_of X G a16, b16⟩
      · exact ⟨_, _, F17, PySem.W.mg_of X G a17, b17⟩
      · exact ⟨_, _, F18, PySem.W.mg_of X G a18, b18⟩
      · exact ⟨_, _, F19, PySem.W.mg_of X G a19, b19⟩
      · exact ⟨_, _, F20, PySem.W.mg_of X G a20, b20⟩
  exact ⟨PySem.W.fnOf "law" "law" (defArgs d_law.st) (defBody d_law.st) (defScope d_law.st) .none kV20 dc20 pm20 an20 cd20 ct20, fun s v => .of_eq rfl, fun base _ _ => fns_ok txts tp 40 20 d_law _ _ rfl F20⟩
end K23
open PySem PySem.W PyProof.Rows
set_option maxHeartbeats 0 in
theorem PySem.Challenge.cw_sayswhy_k23_clauses_spread_by_units_holds : PySem.Challenge.rw_sayswhy_k23_clauses_spread_by_units.Holds := by
  w_on; o_law; k_head; (case hw => w_witness2)
  k_fill
  refine L2.walk_of (l := PySem.Challenge.rw_sayswhy_k23_clauses_spread_by_units) (n := 63) (k := 40) (x := "script") (CX := fun _ => L2.CX0) (sp := fun w => Py.spD _ (Py.wpCall K23.gl K23.F 40) 20) rfl (by decide) rfl ⟨rfl, by decide, by decide⟩ (fun w h Y => PySem.W.kIn_of Y) ?F (fun _ _ a ns hl hO hS => Py.law_sp hO hS (K23.law_ok ns hl)) (fun _ _ _ _ _ h => h)
  case F =>
    intro w mg fa h KX G hmg
    refine' K23.all_mk KX G hmg ?a0 ?l0 ?c0 ?k0 ?a1 ?l1 ?c1 ?k1 ?a2 ?l2 ?c2 ?k2 ?a3 ?l3 ?c3 ?k3 ?a4 ?l4 ?c4 ?k4 ?a5 ?l5 ?c5 ?k5 ?a6 ?l6 ?c6 ?k6 ?a7 ?l7 ?c7 ?k7 ?a8 ?l8 ?c8 ?k8 ?a9 ?l9 ?c9 ?k9 ?a10 ?l10 ?c10 ?k10 ?a11 ?l11 ?c11 ?k11 ?a12 ?l12 ?c12 ?k12 ?a13 ?l13 ?c13 ?k13 ?a14 ?l14 ?c14 ?k14 ?a15 ?l15 ?c15 ?k15 ?a16 ?l16 ?c16 ?k16 ?a17 ?l17 ?c17 ?k17 ?a18 ?l18 ?c18 ?k18 ?a19 ?l19 ?c19 ?k19 ?a20 ?l20 ?c20 ?k20 ?z0 ?z1 ?z2 ?z3 ?z4 ?z5 ?z6 ?z7 ?z8 ?z9 ?z10 ?z11 ?z12
    (case a0 => k_is); (case l0 => k_is); (case c0 => k_is); (case k0 => k_is); (case a1 => k_is); (case l1 => k_is); (case c1 => k_is); (case k1 => k_is); (case a2 => k_is); (case l2 => k_is); (case c2 => k_is); (case k2 => k_is); (case a3 => k_is); (case l3 => k_is); (case c3 => k_is); (case k3 => k_is); (case a4 => k_is); (case l4 => k_is); (case c4 => k_is); (case k4 => k_is); (case a5 => k_is); (case l5 => k_is); (case c5 => k_is); (case k5 => k_is); (case a6 => k_is); (case l6 => k_is); (case c6 => k_is); (case k6 => k_is); (case a7 => k_is); (case l7 => k_is); (case c7 => k_is); (case k7 => k_is); (case a8 => k_is); (case l8 => k_is); (case c8 => k_is); (case k8 => k_is); (case a9 => k_is); (case l9 => k_is); (case c9 => k_is); (case k9 => k_is); (case a10 => k_is); (case l10 => k_is); (case c10 => k_is); (case k10 => k_is); (case a11 => k_is); (case l11 => k_is); (case c11 => k_is); (case k11 => k_is); (case a12 => k_is); (case l12 => k_is); (case c12 => k_is); (case k12 => k_is); (case a13 => k_is); (case l13 => k_is); (case c13 => k_is); (case k13 => k_is); (case a14 => k_is); (case l14 => k_is); (case c14 => k_is); (case k14 => k_is); (case a15 => k_is); (case l15 => k_is); (case c15 => k_is); (case k15 => k_is); (case a16 => k_is); (case l16 => k_is); (case c16 => k_is); (case k16 => k_is); (case a17 => k_is); (case l17 => k_is); (case c17 => k_is); (case k17 => k_is); (case a18 => k_is); (case l18 => k_is); (case c18 => k_is); (case k18 => k_is); (case a19 => k_is); (case l19 => k_is); (case c19 => k_is); (case k19 => k_is); (case a20 => k_is); (case l20 => k_is); (case c20 => k_is); (case k20 => k_is); (case z0 => k_is); (case z1 => k_is); (case z2 => k_is); (case z3 => k_is); (case z4 => k_is); (case z5 => k_is); (case z6 => k_is); (case z7 => k_is); (case z8 => k_is); (case z9 => k_is); (case z10 => k_is); (case z11 => k_is); (case z12 => k_is)
