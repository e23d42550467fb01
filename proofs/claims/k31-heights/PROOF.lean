import PyProof.Rows.All
import Wide.All
import OpenK.AllK
import Wide.FinOn
import HandS.ForMost
import HandS.Wide
import HandS.TupMul
import HandS.TupAny
import HandS.SetFor
import HandS.SortInts
import HandS.ExcValue
import HandS.ExcOwn
import PyProof.TupleOfSeq
import HandS.Strs
import HandS.Style
import HandS.WideBits
import HandS.Gcd
import HandS.IsInst
import HandS.Small
import HandS.WordsDict
import HandS.Conv
import PySem.Challenge.RW_sayswhy_k31_heights_rings_and_ways
set_option Elab.async false
set_option linter.all false
set_option maxRecDepth 100000
set_option maxHeartbeats 4000000
set_option autoImplicit false
namespace Py
open PySem PySem.Spec PyProof.Rows L2
/-! ### a tuple times one, times nothing -/
theorem mul_same (l : Addr) (items : Array Value) (n : Nat) (dd : Option Addr) (sl : Array (Option Value)) (x : Int) (u : Tok) (c0 : (decide (x < -(2 ^ 63)) || decide (x ≥ 2 ^ 63)) = false) (c1 : (items.isEmpty || x == 1) = true) :
    Meets (Builtin.«tuple.__mul__» ⟨[.ref l, .int x u], []⟩) (fun _ R s => s.heap.get? l = some { cls := .type "tuple", dict := dd, data := .seq items n, slots := sl } ∧ R (.ok (.ret (Value.ref l))) s) :=
  .of_wp fun prog w A R s h => by
    obtain ⟨hp, g, d, tk, os⟩ := s
    obtain ⟨hl, h⟩ := h
    have f1 := AutoSeq1.idx_int
    wp_walk using wpAny_loadPart' hl
    repeat (first
      | (refine wpAny_ite_false (decide_eq_false (by rw [c0]; exact Bool.false_ne_true)) ?_; wp_walk using wpAny_loadPart' hl)
      | (refine wpAny_ite_true (decide_eq_true (by rw [c1])) ?_; wp_walk using wpAny_loadPart' hl))
    exact ⟨_, rfl, h⟩
theorem mul_none (l : Addr) (items : Array Value) (n : Nat) (dd : Option Addr) (sl : Array (Option Value)) (x : Int) (u : Tok) (c0 : (decide (x < -(2 ^ 63)) || decide (x ≥ 2 ^ 63)) = false) (c1 : (items.isEmpty || x == 1) = false) (c2 : (decide (x ≤ 0) || items.isEmpty) = true) :
    Meets (Builtin.«tuple.__mul__» ⟨[.ref l, .int x u], []⟩) (fun _ R s => s.heap.get? l = some { cls := .type "tuple", dict := dd, data := .seq items n, slots := sl } ∧
      R (.ok (.ret (Value.ref s.heap.objs.size))) { s with heap := s.heap.push { cls := Value.type "tuple", data := Data.seq #[] }, toks := s.toks }) :=
  .of_wp fun prog w A R s h => by
    obtain ⟨hp, g, d, tk, os⟩ := s
    obtain ⟨hl, h⟩ := h
    have f1 := AutoSeq1.idx_int
    wp_walk using wpAny_loadPart' hl
    repeat (first
      | (refine wpAny_ite_false (decide_eq_false (by rw [c0]; exact Bool.false_ne_true)) ?_; wp_walk using wpAny_loadPart' hl)
      | (refine wpAny_ite_false (decide_eq_false (by rw [c1]; exact Bool.false_ne_true)) ?_; wp_walk using wpAny_loadPart' hl)
      | (refine wpAny_ite_true (decide_eq_true (by rw [c2])) ?_; wp_walk using wpAny_loadPart' hl))
    exact ⟨_, rfl, h⟩
section
variable {X : Cx}
theorem op_same : OpR X (binaryOp .Mult) (fun x y H Q => ∃ l k xs, x = .ref l ∧ y = .int k ∧ SqT X.K H l xs ∧ (xs = [] ∨ k = 1) ∧ -(2 ^ 63) ≤ k ∧ k < 2 ^ 63 ∧ Q (.ref l) H) := by
  intro pins s σ H x y v u Q I rx ry h
  obtain ⟨l, k, xs, rfl, rfl, hT, hk, h1, h2, q⟩ := h
  cases rx
  obtain ⟨t, rfl⟩ := ry
  obtain ⟨its, r, ⟨⟨cls, dd, data, sl⟩, ho, hc, n, hd⟩, hs⟩ := I.tuple hT
  simp only at hc hd
  subst hc hd
  have hle : its.length = xs.length := r.length.symm
  have c0 : (decide (k < -(2 ^ 63)) || decide (k ≥ 2 ^ 63)) = false := by
    rw [decide_eq_false (by omega), decide_eq_false (by omega)] <;> rfl
  have c1 : (its.toArray.isEmpty || k == 1) = true := by
    rcases hk with rfl | rfl
    · have : its = [] := List.eq_nil_of_length_eq_zero hle
      subst this
      rfl
    · simp
  exact wpAny_binaryOp_repeat_ref (T := "tuple") (U := "int") (by decide) ⟨_, ho, rfl⟩ (fun s' => typeIs_int s' k t) noFill_tuple_mul F.fills_int_mul F.slot_int_rmul repeat_tuple F.slot_int_index.lookup
    (call_meets F.slot_int_rmul (typeIs_int s k t) F.entry_int_rmul (F.args_int_rmul_2 _ _) (int_rmul_tuple k t l its.toArray n dd sl)
      ⟨ho, rfl, ⟨_, ho, rfl⟩, call_meets F.slot_tuple_mul ⟨_, ho, rfl⟩ F.entry_tuple_mul (F.args_tuple_mul_2 _ _) (mul_same l its.toArray n dd sl k t c0 c1) ⟨ho, ⟨.ref l, H, I, rfl, q⟩⟩⟩)
theorem op_none : OpR X (binaryOp .Mult) (fun x y H Q => ∃ l k xs, x = .ref l ∧ y = .int k ∧ SqT X.K H l xs ∧ xs ≠ [] ∧ k ≤ 0 ∧ -(2 ^ 63) ≤ k ∧ ∀ p, H p = none → Q (.ref p) (upd H p (.tup []))) := by
  intro pins s σ H x y v u Q I rx ry h
  obtain ⟨l, k, xs, rfl, rfl, hT, hne, hk, h1, q⟩ := h
  cases rx
  obtain ⟨t, rfl⟩ := ry
  obtain ⟨its, r, ⟨⟨cls, dd, data, sl⟩, ho, hc, n, hd⟩, hs⟩ := I.tuple hT
  simp only at hc hd
  subst hc hd
  have hle : its.length = xs.length := r.length.symm
  have hi : its.toArray.isEmpty = false := by
    cases its with
    | nil => exact absurd (List.eq_nil_of_length_eq_zero hle.symm) hne
    | cons a b => rfl
  have c0 : (decide (k < -(2 ^ 63)) || decide (k ≥ 2 ^ 63)) = false := by
    rw [decide_eq_false (by omega), decide_eq_false (by omega)] <;> rfl
  have c1 : (its.toArray.isEmpty || k == 1) = false := by
    rw [hi, Bool.false_or]
    exact beq_eq_false_iff_ne.mpr (by omega)
  have c2 : (decide (k ≤ 0) || its.toArray.isEmpty) = true := by
    rw [decide_eq_true hk]; rfl
  refine wpAny_binaryOp_repeat_ref (T := "tuple") (U := "int") (by decide) ⟨_, ho, rfl⟩ (fun s' => typeIs_int s' k t) noFill_tuple_mul F.fills_int_mul F.slot_int_rmul repeat_tuple F.slot_int_index.lookup
    (call_meets F.slot_int_rmul (typeIs_int s k t) F.entry_int_rmul (F.args_int_rmul_2 _ _) (int_rmul_tuple k t l its.toArray n dd sl)
      ⟨ho, rfl, ⟨_, ho, rfl⟩, call_meets F.slot_tuple_mul ⟨_, ho, rfl⟩ F.entry_tuple_mul (F.args_tuple_mul_2 _ _) (mul_none l its.toArray n dd sl k t c0 c1 c2) ⟨ho, ?_⟩⟩)
  refine ⟨.ref s.heap.objs.size, _, I.laid (t' := s.toks) (o := .tup []) (fun b ob q => Heap.get?_push_of_some _ q) (Nat.le_refl _) ?_, rfl, q _ (I.hok.fresh (Nat.le_refl _))⟩
  exact ⟨by simp, [], .nil, IsTup.new _ _⟩
end
/-! ### t += u -/
theorem no_tup_iadd : typeLookup (.type "tuple") (dunderI "add") = pure none := by rw [typeLookup_type, builtinLookup_eq_fast]; kernel_rfl
theorem iop_cat {X : Cx} : OpR X (inplaceOp .Add) (rCatA X.K) := by
  intro pins s σ H x y v u Q I rx ry h
  obtain ⟨a, b, xs, ys, rfl, rfl, ha, hb, hz, q0, q1, q2⟩ := h
  cases rx
  cases ry
  obtain ⟨its, r1, p1, _⟩ := I.tuple ha
  obtain ⟨its2, r2, p2, _⟩ := I.tuple hb
  obtain ⟨⟨cls, dd, data, sl⟩, ho, hc, n, hd⟩ := id p1
  obtain ⟨⟨cls2, dd2, data2, sl2⟩, ho2, hc2, n2, hd2⟩ := id p2
  simp only at hc hd hc2 hd2
  subst hc hd hc2 hd2
  have e : its.toArray ++ its2.toArray = (its ++ its2).toArray := by simp
  refine wpAny_inplaceOp_concat ⟨_, ho, rfl⟩ ⟨_, ho2, rfl⟩ no_tup_iadd noFill_tuple_add seq_tuple_add ?_
  by_cases hx : its = []
  · subst hx
    exact call_meets PySem.F.slot_tuple_add ⟨_, ho, rfl⟩ PySem.F.entry_tuple_add (PySem.F.args_tuple_add_2 _ _) (tuple_addW0 a b ([] : List Value).toArray its2.toArray n n2 dd dd2 sl sl2 (by simp)) ⟨ho, ho2, ⟨.ref b, H, I, rfl, q0 (r1.nil_iff.mp rfl)⟩⟩
  · by_cases hw : its2 = []
    · exact call_meets PySem.F.slot_tuple_add ⟨_, ho, rfl⟩ PySem.F.entry_tuple_add (PySem.F.args_tuple_add_2 _ _) (tuple_addW1 a b its.toArray its2.toArray n n2 dd dd2 sl sl2 (by simpa using hx) (by simp [hw])) ⟨ho, ho2, ⟨.ref a, H, I, rfl, q1 (fun z => hx (r1.nil_iff.mpr z)) (r2.nil_iff.mp hw)⟩⟩
    · refine call_meets PySem.F.slot_tuple_add ⟨_, ho, rfl⟩ PySem.F.entry_tuple_add (PySem.F.args_tuple_add_2 _ _) (tuple_addW2 a b its.toArray its2.toArray n n2 dd dd2 sl sl2 (by simpa using hx) (by simpa using hw) (by rw [List.size_toArray, List.size_toArray, ← r1.length, ← r2.length]; exact hz)) ⟨ho, ho2, ?_⟩
      rw [e]
      exact ⟨.ref s.heap.objs.size, _, I.laid (t' := s.toks) (o := .tup (xs ++ ys)) (fun b ob q => Heap.get?_push_of_some _ q) (Nat.le_refl _) ⟨by rw [List.length_append]; exact hz, _, r1.append r2, IsTup.new _ _⟩, rfl, q2 (fun z => hx (r1.nil_iff.mpr z)) (fun z => hw (r2.nil_iff.mpr z)) _ (I.hok.fresh (Nat.le_refl _))⟩
theorem iop_mulW2 {X : Cx} : OpR X (inplaceOp .Mult) (rI CMulW fun i j => .int (i * j)) := opI fun _ _ _ _ _ _ _ hc q => imul_int q hc.ok
end Py

namespace Py
open PySem PySem.Spec PyProof.Rows L2
/-! ### set(x), x a list of numbers -/
abbrev setNew (w : World) : Obj := { cls := .type "set", dict := none, data := .set #[] 0 (.fresh 0 0 (!w.params.followText "set-order")) }
abbrev sh (w : World) (s : Shared) : Heap := s.heap.push (setNew w)
section
variable {P : Program} {w : World} {A : Around} {E : Value → Shared → Prop} {s : Shared}
theorem set_list_ints {l : Addr} {items : Array Value} (ns : List Int) {Q : Value → Shared → Prop} (hh : A.handled = none) (hl : s.heap.IsList l items) (hit : IntsAre items.toList ns) (hb : ns.length + 1 < scanBound)
    (h : ∀ (h' : Heap) (tk c : Nat), SetR w h' s.heap.objs.size (fun j => decide (j ∈ ns)) c → c ≤ ns.length → (∀ b o, s.heap.get? b = some o → h'.get? b = some o) → Q (.ref s.heap.objs.size) { s with heap := h', toks := tk }) :
    wpAny (model P w) A (call (.type "set") [.ref l]) Q E s := by
  have hisz : items.size = ns.length := by
    have q := IntsAre.length hit
    rw [Array.length_toList] at q
    exact q
  obtain ⟨c, tl, hmro⟩ := F.called_set.mro
  have hmade := F.called_set.made
  have hsub := F.called_set.sub
  refine wpAny_call (codeAny_of_tree ?_)
  show wpAny _ _ (callAny (.type "set") _) _ _ _
  refine wpAny_pure ⟨Code.quiet_builtin _ (by decide +kernel), codeAny_builtin F.entry_type_call ?_⟩
  rw [Around.under_plain (weight_type_call_type "set" [.ref l] []) rfl]
  have h1 := F.called_set.notType
  have h2 := F.called_set.canCreate
  have hct := F.typeCall_set_1 (.ref l)
  repeat (any_goals (first | assumption | wp_step))

  refine codeAny_mono (code_set_led1 (.ref l) (E := E) (Q₁ := fun obj s₁ => obj = .ref s.heap.objs.size ∧ s₁ = { s with heap := sh w s }) ⟨rfl, rfl⟩) fun r s₁ hr => ?_
  cases r with
  | error e => exact hr
  | ok fl =>
    cases fl with
    | ret obj =>
      obtain ⟨rfl, rfl⟩ := hr
      have hS : (sh w s).get? s.heap.objs.size = some (setNew w) := Heap.get?_push_size _ rfl
      have hT : Shared.TypeIs { s with heap := sh w s } (.ref s.heap.objs.size) "set" := ⟨_, hS, rfl⟩
      have hli := F.called_set.init.lookup
      have hbi := F.called_set.init.bind (.ref s.heap.objs.size)
      repeat (any_goals (first | assumption | wp_step))

      refine codeAny_mono (codeAny_call_builtin (R := wants (fun r s₂ => r = .none ∧ ∃ h' tk c, s₂ = { s with heap := h', toks := tk } ∧ SetR w h' s.heap.objs.size (fun j => decide (j ∈ ns)) c ∧ c ≤ ns.length ∧
          (∀ b o, s.heap.get? b = some o → h'.get? b = some o)) E) F.called_set.init.plain F.entry_set_init (check_set_init_1 hT ?_)) fun r₂ s₂ hr₂ => ?_
      · obtain ⟨ol, hol, hcl, nl, hdl⟩ := hl
        obtain ⟨ocls, odict, odata, oslots⟩ := ol
        simp only at hcl hdl
        subst hcl; subst hdl
        have hol' : (sh w s).get? l = some { cls := .type "list", dict := odict, data := .seq items nl, slots := oslots } := Heap.get?_push_of_some _ hol
        have hsls := F.sub_list_set
        have hslf := F.sub_list_frozenset
        have hne : (Value.type "list" == Value.type "dict") = false := by decide
        have hl1 : (sh w s).IsList l items := ⟨_, hol', rfl, nl, rfl⟩
        unfold Builtin.«set.__init__» noKeywords Builtin.Frozenset.updateFrom
        generalize hPI : pyIter = PI
        wp_walk
        subst hPI

        refine wpAny_pyIter_list hl1 ?_
        refine wpAny_bind (wpAny_runValue ?_)
        have hlS : l < s.heap.objs.size := Heap.lt_size hol
        have hh3 : A.in1.in1.in1.handled = none := by simp [hh]
        have hz1 : (sh w s).objs.size = s.heap.objs.size + 1 := Heap.size_push ..
        have hneI : l ≠ (sh w s).objs.size := by
          rw [Heap.size_push]; exact Nat.ne_of_lt (Nat.lt_succ_of_lt hlS)
        have hSf : s.heap.objs.size ∉ [(sh w s).objs.size, l] := by
          rw [Heap.size_push]; simp only [List.mem_cons, List.mem_singleton, List.not_mem_nil, or_false, not_or]
          exact ⟨Nat.ne_of_lt (Nat.lt_succ_self _), Nat.ne_of_gt hlS⟩
        have hval : ∀ (i : Nat) (v : Value), items[i]? = some v → ∃ k t, ns[i]? = some k ∧ v = .int k t := fun i v hv => by
          have hi : i < ns.length := by rw [← hisz]; exact (Array.getElem?_eq_some_iff.mp hv).1
          obtain ⟨t, e⟩ := PyProof.Rows.IntsAre.int_at hit i v (by rw [Array.getElem?_toList]; exact hv)
          refine ⟨ns[i], t, List.getElem?_eq_getElem hi, ?_⟩
          rw [e, List.getD_eq_getElem?_getD, List.getElem?_eq_getElem hi] <;> rfl
        refine set_update_ints ((Walks.list hh3 _ l hneI items).toS) s.heap.objs.size
          hSf ns hisz hb hval (items.size - 0) 0 _ (by omega) (Nat.zero_le _)
          ⟨⟨_, Heap.get?_push_size _ rfl, rfl, rfl⟩, (hl1.push _)⟩ ?hS0 ?hR
        case hS0 =>
          have hget : ((sh w s).push { cls := .type "list_iterator", data := .fields #[.ref l, .int 0 0] }).get? s.heap.objs.size
              = some (setNew w) := Heap.get?_push_of_some _ hS
          exact ⟨0, Nat.le_refl 0, setR_new_at hget⟩
        case hR =>
          intro s' c' hm hc' hS'
          obtain ⟨h', g2, d', tk', os'⟩ := s'
          have eg : g2 = s.gens := hm.gens
          have ed : d' = s.drawn := hm.drawn
          have eo : os' = s.os := hm.os
          subst eg; subst ed; subst eo
          show wpAny _ _ _ _ _ _
          refine wpAny_pure ?_
          show wpAny _ _ (ret Value.none) _ _ _
          rw [hisz] at hc'
          refine wpAny_pure ⟨rfl, h', tk', c', rfl, hS', hc', fun b o e => ?_⟩
          have hb0 : b < s.heap.objs.size := Heap.lt_size e
          have hb1 : b ≠ s.heap.objs.size := Nat.ne_of_lt hb0
          have hb2 : b ≠ (sh w s).objs.size := by
            rw [Heap.size_push]; exact Nat.ne_of_lt (Nat.lt_succ_of_lt hb0)
          exact hm.heap b o (by simp only [List.mem_cons, List.mem_singleton, List.not_mem_nil, or_false, not_or]; exact ⟨hb1, hb2⟩) (Heap.get?_push_of_some _ (Heap.get?_push_of_some _ e))

      · cases r₂ with
        | error e => exact hr₂
        | ok fl₂ =>
          cases fl₂ with
          | ret r =>
            obtain ⟨rfl, h', tk, c', rfl, hS', hc', hk'⟩ := hr₂
            repeat (any_goals (first | assumption | wp_step))
            exact h _ _ _ hS' hc' hk'
          | _ => exact hr₂.elim
    | _ => exact hr.elim

end

section
variable {X : Cx}
theorem vals_ints_S : ∀ {ns : List Int} {us : List Value}, Vals (ns.map V.int) us → IntsAre us ns
  | [], _, .nil => .nil
  | n :: ns, _, .cons r t => by
    obtain ⟨k, rfl⟩ := r
    exact .cons n k (vals_ints_S t)
/-- a list or tuple of numbers, fewer than b -/
def NumL (K : PySem.W.Frag) (b : Nat) (x : V) (H : Hp) (l : Addr) (ns : List Int) : Prop := x = .ref l ∧ (SqL K H l (ns.map V.int) ∨ SqT K H l (ns.map V.int)) ∧ ns.length < b
/-- the heap with the set of ns laid at a -/
def withSet (w : World) (H : Hp) (a : Addr) (ns : List Int) (c : Nat) : Hp := upd H a (SetO w a (fun j => decide (j ∈ ns)) c)
def rSrtSet (K : PySem.W.Frag) (w : World) : V → Hp → VK → Prop := fun x H Q => ∃ l ns, NumL K 64 x H l ns ∧ ∀ (a p : Addr) (c : Nat) (us : List Int),
  H a = none → us.Pairwise (· < ·) → (∀ k, k ∈ us ↔ k ∈ ns) → withSet w H a ns c p = none → Q (.ref p) (upd (withSet w H a ns c) p (.lst (us.map V.int)))
def rLenSet (K : PySem.W.Frag) (w : World) : V → Hp → VK → Prop := fun x H Q => ∃ l ns, NumL K 4000 x H l ns ∧ ∀ (a : Addr) (c : Nat) (us : List Int),
  H a = none → us.Nodup → (∀ k, k ∈ us ↔ k ∈ ns) → Q (.int us.length) (withSet w H a ns c)
theorem boot_srt : bootBuiltins "sorted" = some (.builtin "sorted") := by decide +kernel
theorem boot_ln : bootBuiltins "len" = some (.builtin "len") := by decide +kernel
theorem boot_st : bootBuiltins "set" = some (.type "set") := by decide +kernel
/-- f(set(a)) -/
theorem pe_ofSet {f : Str} {id : String} {a : Expr} {ta : TE} {p p2 q pos : Pos} {b : Nat} {r : V → Hp → VK → Prop} (hc : X.calm = true) (hb : b ≤ 4000) (hf : bootBuiltins f = some (.builtin id)) (hn : f ≠ "__name__") (hd : (f == ("__debug__" : Str)) = false)
    (hg : Gl X f) (hm : X.mg f = none) (hg2 : Gl X "set") (hm2 : X.mg "set" = none) (ha : PE X a ta) (na : starEach [a] X.env = (false, eval a X.env) :: starEach [] X.env)
    (fin : ∀ (pins : List (Addr × Obj)) (σ : L2.St) (H : Hp) (x : V) (Q : VK), r x H Q → ∃ l ns, NumL X.K b x H l ns ∧ ∀ (s : Shared) (a : Addr) (c : Nat), H a = none → c ≤ ns.length → SetR X.w s.heap a (fun j => decide (j ∈ ns)) c → Inv X pins σ (withSet X.w H a ns c) s →
      wpAny (model X.prog X.w) X.A (call (.builtin id) [.ref a]) (EP X pins σ Q) X.xe s) :
    PE X (.Call (.Name f p) [.Call (.Name "set" p2) [a] [] q] [] pos) (fun σ H Q => ta σ H fun x H1 => r x H1 Q) := by
  refine ⟨fun pins s σ H Q I h => ?_⟩
  refine Call_ (ld_blt I hg hm hf ?_ hn hd)
  refine PyProof.Rows.callWith_builtin1 (PyProof.Rows.args_cons ?_ rfl) rfl rfl
  refine Call_ (ld_blt I hg2 hm2 boot_st ?_)
  refine PyProof.Rows.callWith_type1 (PyProof.Rows.args_cons (thn (ha.run pins s σ H _ I h) fun v s1 ⟨x, H1, I1, r1, q1⟩ => PyProof.Rows.args_nil ?_) na) na rfl
  obtain ⟨l, ns, ⟨rfl, hq, hl⟩, zf⟩ := fin pins σ H1 x Q q1
  cases r1
  rcases hq with hq | hq
  · obtain ⟨its, rv, pl, hz⟩ := I1.list hq
    refine set_list_ints ns (I1.ok.hd hc) pl.isList (by simpa using vals_ints_S rv) (by unfold scanBound; omega) fun h' tk c R hcn k => ?_
    refine PyProof.Rows.args_nil ?_
    exact zf _ _ c (I1.hok.fresh (Nat.le_refl _)) hcn R (I1.laid (t' := tk) k (Nat.le_refl _) (setO_new R))
  · obtain ⟨its, rv, pl, hz⟩ := I1.tuple hq
    refine L2.call_set_tupI ns (I1.ok.hd hc) pl (by simpa using vals_ints_S rv) (by unfold scanBound; omega) fun h' tk c R hcn k => ?_
    refine PyProof.Rows.args_nil ?_
    exact zf _ _ c (I1.hok.fresh (Nat.le_refl _)) hcn R (I1.laid (t' := tk) k (Nat.le_refl _) (setO_new R))
theorem mem_dec {ns : List Int} {k : Int} : (decide (k ∈ ns) = true) ↔ k ∈ ns := decide_eq_true_iff
theorem pe_srtSet {a : Expr} {ta : TE} {p p2 q pos : Pos} (hc : X.calm = true) (hg : Gl X "sorted") (hm : X.mg "sorted" = none) (hg2 : Gl X "set") (hm2 : X.mg "set" = none) (ha : PE X a ta) (na : starEach [a] X.env = (false, eval a X.env) :: starEach [] X.env) :
    PE X (.Call (.Name "sorted" p) [.Call (.Name "set" p2) [a] [] q] [] pos) (fun σ H Q => ta σ H fun x H1 => rSrtSet X.K X.w x H1 Q) := by
  refine pe_ofSet (b := 64) hc (by decide) boot_srt (by decide) (by decide) hg hm hg2 hm2 ha na fun pins σ H x Q ⟨l, ns, hN, z⟩ => ⟨l, ns, hN, fun s b c hb hcn R I => ?_⟩
  refine cr_sortedSet hc pins s σ _ [.ref b] [.ref b] Q I (.cons rfl .nil) ⟨b, _, c, rfl, upd_same, Nat.lt_of_le_of_lt hcn hN.2.2, fun us p hs hu _ hp => z b p c us hb hs (fun k => (hu k).trans mem_dec) hp⟩
theorem pe_lnSet {a : Expr} {ta : TE} {p p2 q pos : Pos} (hc : X.calm = true) (hg : Gl X "len") (hm : X.mg "len" = none) (hg2 : Gl X "set") (hm2 : X.mg "set" = none) (ha : PE X a ta) (na : starEach [a] X.env = (false, eval a X.env) :: starEach [] X.env) :
    PE X (.Call (.Name "len" p) [.Call (.Name "set" p2) [a] [] q] [] pos) (fun σ H Q => ta σ H fun x H1 => rLenSet X.K X.w x H1 Q) := by
  refine pe_ofSet (b := 4000) hc (by decide) boot_ln (by decide) (by decide) hg hm hg2 hm2 ha na fun pins σ H x Q ⟨l, ns, hN, z⟩ => ⟨l, ns, hN, fun s b c hb hcn R I => ?_⟩
  obtain ⟨o, es, ep, t, ho, hex, hd, _, hnd, hmem, _, hf, hn, _⟩ := R
  have hN := hN.2.2
  refine call_len_set ho hex hd hf (by rw [hn]; omega) ⟨.int (es.toList.map keyOf).length, _, I.tok _, ⟨_, by rw [List.length_map, Array.length_toList]⟩, z b c _ hb hnd fun k => ?_⟩
  exact (hmem k).symm.trans mem_dec
end
/-! ### sorted(t), t a tuple of numbers -/
section
variable {X : Cx}
def rSortT (K : PySem.W.Frag) : List V → Hp → VK → Prop := fun vs H Q => ∃ (a : Addr) (ns : List Int), vs = [V.ref a] ∧ SqT K H a (ns.map V.int) ∧
  ∀ (us : List Int) (p : Addr), us.Perm ns → us.Pairwise (· ≤ ·) → H p = none → Q (.ref p) (upd H p (.lst (us.map V.int)))
theorem cr_sortT : CallR X (.builtin "sorted") (rSortT X.K) := by
  intro pins s σ H vs us Q I r h
  obtain ⟨a, ns, rfl, hs, q⟩ := h
  obtain ⟨its, rv, ⟨o, ho, hc, n, hd⟩, hz⟩ := I.tuple hs
  rw [Vals.ref1 r]
  have hi := rv.ints
  have hl : its.length ≤ sizeLine := by rw [← rv.length]; exact hz
  refine Calls.call_function_entry kind_sorted plain_sorted entry_sorted (args_sorted1 _) ?_
  unfold Builtin.«sorted»
  refine wpAny_bind (m := checkCount "sorted" 1 1 _) (wpAny_pure ?_)
  refine wpAny_bind (wpAny_collect_seq a (.inr rfl) ho hc hd (fun g keep => ?_) (by rw [List.size_toArray]; exact hl))
  have ei : its.toArray.toList = its := by simp
  rw [ei]
  refine wpAny_bind (wpAny_newList ?_ hl)
  have hp : (g.push (seqObj "list" its.toArray 0)).get? g.objs.size = some (seqObj "list" its.toArray 0) := Heap.get?_push_size _ rfl
  refine wpAny_bind (wpAny_holding (wpAny_call_entry slot_list_sort ⟨_, hp, rfl⟩ entry_list_sort (SrtO.list_sort_ord SrtO.swo_int hp hl (fun h2 => SrtO.ints_sortable hi h2) fun out h1 h2 => ⟨_, rfl, ?_⟩) (args_list_sort _)))
  obtain ⟨k1, k2, k3⟩ := SrtO.ints_out hi h1 h2
  obtain ⟨ep, he⟩ := sortedHeap_at (vs := its) (out := out.toArray) hp
  have hlen : ((out.map SrtO.iv).map V.int).length ≤ sizeLine := by
    rw [List.length_map, k2.length_eq]
    rw [List.length_map] at hz
    exact hz
  have hgn : s.heap.get? g.objs.size = none := by
    cases e : s.heap.get? g.objs.size with
    | none => rfl
    | some u => exact absurd (Heap.lt_size (keep _ _ e)) (Nat.lt_irrefl _)
  refine wpAny_pure ⟨_, rfl, .ref g.objs.size, upd H g.objs.size (.lst ((out.map SrtO.iv).map V.int)), I.laidN (t' := s.toks) (fun b u hb => ?_) hgn (I.hok.gone hgn) ⟨hlen, out, ep, vals_of_ints k1, he⟩, rfl, q _ _ k2 k3 (I.hok.gone hgn)⟩
  have hb2 := keep b u hb
  have hlt : b < g.objs.size := Heap.lt_size hb2
  exact (sortedHeap_old (Nat.ne_of_lt hlt) (by rw [Heap.size_push]; exact Nat.lt_succ_of_lt hlt)).trans (Heap.get?_push_of_some _ hb2)
end
end Py

namespace Py
open PySem PySem.Spec PyProof.Rows L2
/-! ### t[::-1] of a tuple -/
theorem back_places (n : Nat) : Builtin.Slice.slicePlaces ((n : Int) - 1) (-1) (-1) = n := by
  unfold Builtin.Slice.slicePlaces
  have h1 : ¬ ((-1 : Int) > 0) := by omega
  have h2 : (-(-1) : Int) = 1 := rfl
  simp only [h1, if_false, h2, Int.ediv_one]
  split <;> omega
theorem fm_map {α β : Type} (f : α → Option β) (g : α → β) : ∀ l : List α, (∀ m ∈ l, f m = some (g m)) → l.filterMap f = l.map g
  | [], _ => rfl
  | a :: l, h => by
    rw [List.filterMap_cons, h a List.mem_cons_self, List.map_cons, fm_map f g l fun m hm => h m (List.mem_cons_of_mem _ hm)]
theorem back_pick (xs : Array Value) : ((List.range xs.size).filterMap fun (m : Nat) => xs[(((xs.size : Int) - 1) + (m : Int) * -1).toNat]?).toArray = xs.toList.reverse.toArray := by
  congr 1
  have e : ∀ m ∈ List.range xs.size, xs[(((xs.size : Int) - 1) + (m : Int) * -1).toNat]? = some (xs.toList.reverse.getD m .none) := by
    intro m hm
    rw [List.mem_range] at hm
    have ei : (((xs.size : Int) - 1) + (m : Int) * -1).toNat = xs.size - 1 - m := by omega
    rw [ei, List.getD, List.getElem?_reverse (by simpa using hm)]
    simp only [Array.length_toList, Array.getElem?_toList]
    rw [Array.getElem?_eq_getElem (by omega)]; rfl
  rw [fm_map _ _ _ e]
  refine List.ext_getElem (by simp) fun i h1 h2 => ?_
  simp only [List.getElem_map, List.getElem_range, List.getD]
  rw [List.getElem?_eq_getElem h2]; rfl
section
variable {prog : Program} {w : World} {A : Around} {E : Value → Shared → Prop} {s : Shared}
theorem applied_back {sl : Addr} {vl vu vs : Value} {n : Nat} {Q : Int × Int × Nat → Shared → Prop} (hs : s.heap.IsSliceOf sl vl vu vs) (pl : IsPart vl none) (pu : IsPart vu none) (ps : IsPart vs (some (-1)))
    (h : Q ((n : Int) - 1, -1, n) s) : wpAny (model prog w) A (Builtin.Slice.sliceApplied (.ref sl) (pure (n : Int))) Q E s := by
  obtain ⟨os, hos, hcs, hds⟩ := id hs
  unfold Builtin.Slice.sliceApplied Builtin.Slice.sliceFields
  refine wpAny_bind (wpAny_bind (wpAny_field hos hds (x := vl) rfl (wpAny_bind (wpAny_field hos hds (x := vu) rfl (wpAny_bind (wpAny_field hos hds (x := vs) rfl (wpAny_pure ?_)))))))
  refine wpAny_bind (HT.slicePart_ ps ?_)
  show wpAny _ _ (if ((-1 : Int) == 0) = true then _ else _) _ _ s
  rw [if_neg (by decide)]
  refine wpAny_bind (HT.slicePart_ pl (wpAny_bind (HT.slicePart_ pu (wpAny_bind (wpAny_pure ?_)))))
  show wpAny _ _ (pure ((n : Int) - 1, (-1 : Int), Builtin.Slice.slicePlaces ((n : Int) - 1) (-1) (-1))) _ _ s
  rw [back_places]
  exact wpAny_pure h
theorem tuple_back {t sl : Addr} {items : Array Value} {vl vu vs : Value} {Q : Value → Shared → Prop} (ht : IsTup s.heap t items) (hs : s.heap.IsSliceOf sl vl vu vs) (pl : IsPart vl none) (pu : IsPart vu none) (ps : IsPart vs (some (-1)))
    (h : Q (.ref s.heap.objs.size) { s with heap := s.heap.push { cls := .type "tuple", data := .seq items.toList.reverse.toArray } }) (hsz : items.size ≤ sizeLine) : wpAny (model prog w) A (getItem (.ref t) (.ref sl)) Q E s := by
  have hk : sizeOk (.seq items.toList.reverse.toArray) := by
    show items.toList.reverse.toArray.size ≤ sizeLine
    rw [List.size_toArray, List.length_reverse, Array.length_toList]
    exact hsz
  obtain ⟨os, hos, hcs, hds⟩ := id hs
  have hT : s.TypeIs (.ref sl) "slice" := ⟨os, hos, hcs⟩
  unfold getItem
  try with_reducible refine wpAny_holding ?_
  first | refine wpAny_bind (wpAny_pure ?_) | skip
  refine wpAny_bind (wpAny_sequenceKey ht.typeIs (by decide) ?_)
  refine wpAny_bind (wpAny_callSpecial?_slot (name := Str.ofString "__getitem__") ht.typeIs PyProof.Rows.slot_tuple_getitem
    (wpAny_call_entry PyProof.Rows.slot_tuple_getitem ht.typeIs entry_tuple_getitem ?_ (args_tuple_getitem _ _)))
  show wpAny _ _ (Builtin.Tuple.tupleItemsOf (.ref t) >>= _) _ _ s
  refine wpAny_bind (tupleItemsOf_ ht ?_)
  refine wpAny_bind (wpAny_typeOf hT ?_)
  rw [if_pos (by decide)]
  refine wpAny_bind (applied_back hs pl pu ps ?_)
  have hno : ¬ ((((items.size : Int) - 1) == 0 && (-1 : Int) == 1 && items.size == items.size) = true) := by
    intro q
    rw [Bool.and_eq_true, Bool.and_eq_true] at q
    exact absurd q.1.2 (by decide)
  show wpAny _ _ (if (((items.size : Int) - 1) == 0 && (-1 : Int) == 1 && items.size == items.size) = true then _ else _) _ _ s
  rw [if_neg hno, back_pick]
  first
    | exact wpAny_bind (m := Builtin.Tuple.tupleExact _) (wpAny_newObj_type (wpAny_pure ⟨_, rfl, wpAny_pure h⟩) hk)
    | exact wpAny_bind (m := Builtin.Tuple.tupleExact _) (wpAny_newObj_type (wpAny_bind (wpAny_pure (wpAny_pure ⟨_, rfl, wpAny_pure h⟩))) hk)
    | exact wpAny_bind (wpAny_bind (m := Builtin.Tuple.tupleExact _) (wpAny_newObj_type (wpAny_pure (wpAny_pure ⟨_, rfl, wpAny_pure h⟩)) hk))
    | exact wpAny_bind (wpAny_bind (m := Builtin.Tuple.tupleExact _) (wpAny_newObj_type (wpAny_pure ⟨_, rfl, wpAny_pure h⟩) hk))
end
section
variable {X : Cx}
/-- e[::-1], e a list or a tuple -/
def tBack (K : PySem.W.Frag) (te : TE) : TE := fun σ H Q => te σ H fun x H1 => (∃ a xs, x = .ref a ∧ SqL K H1 a xs ∧ ∀ p, H1 p = none → Q (.ref p) (upd H1 p (.lst xs.reverse))) ∨
  ∃ a xs, x = .ref a ∧ SqT K H1 a xs ∧ ∀ p, H1 p = none → Q (.ref p) (upd H1 p (.tup xs.reverse))
theorem pe_back {e : Expr} {te : TE} {k : Nat} {p1 p2 p3 pos : Pos} (he : PE X e te) : PE X (.Subscript e (.Slice none none (some (.UnaryOp .USub (.Constant (.int 1) k p1) p2)) p3) pos) (tBack X.K te) := by
  refine ⟨fun pins s σ H Q I h => ?_⟩
  refine Subscript_ (thn (he.run pins s σ H _ I h) fun v s1 ⟨x, H1, I1, r1, q1⟩ => ?_)
  have hst : PO X (some (.UnaryOp .USub (.Constant (.int 1) k p1) p2)) (tPart (tUn (rU fun i => .int (-i)) (tC (.int 1)))) := po_some (pe_un un_neg pe_int)
  refine wpAny_Slice (thn (po_none.run pins s1 σ H1 (fun o H2 => o = none ∧ H2 = H1) I1 ⟨rfl, rfl⟩) fun vl s2 ⟨l, H2, I2, pl, el, e2⟩ => ?_)
  subst el e2
  refine thn (po_none.run pins s2 σ H2 (fun o H3 => o = none ∧ H3 = H2) I2 ⟨rfl, rfl⟩) fun vu s3 ⟨u, H3, I3, pu, eu, e3⟩ => ?_
  subst eu e3
  refine thn (hst.run pins s3 σ H3 (fun o H4 => o = some (-1) ∧ H4 = H3) I3 ⟨1, rfl, -1, rfl, rfl, rfl⟩) fun vs s4 ⟨o, H4, I4, ps, eo, e4⟩ => ?_
  subst eo e4
  have I5 : Inv X pins σ H4 { s4 with heap := s4.heap.push { cls := .type "slice", data := .fields #[vl, vu, vs] } } := I4.kept (t' := s4.toks) fun b ob q => Heap.get?_push_of_some _ q
  rcases q1 with ⟨a, xs, ex, hx, q⟩ | ⟨a, xs, ex, hx, q⟩
  · subst ex
    cases r1
    obtain ⟨its, r, ht, hz⟩ := I5.list hx
    have hlen := r.length
    show wpAny (model X.prog X.w) X.A (subscriptTail e (.Slice none none (some (.UnaryOp .USub (.Constant (.int 1) k p1) p2)) p3) (.ref a) (.ref s4.heap.objs.size)) (EP X pins σ Q) X.xe { s4 with heap := s4.heap.push { cls := .type "slice", data := .fields #[vl, vu, vs] } }
    refine tail_any (ops := [.ref a, .ref s4.heap.objs.size]) ht.isList.typeIs (PySem.slot_list_getitem.lookup) ?_ (by with_unfolding_all rfl)
    refine wpAny_getItem_list_slice ht.isList (Heap.IsSliceOf.new _ vl vu vs) pl pu ps (by decide) ?_ (by rw [List.size_toArray]; omega)
    rw [PySem.W.krv_pick]
    refine ⟨.ref _, _, I5.laid (t' := s4.toks) (o := .lst xs.reverse) (fun b ob q => Heap.get?_push_of_some _ q) (Nat.le_refl _) ?_, rfl, q _ (I5.hok.fresh (Nat.le_refl _))⟩
    exact ⟨by rw [List.length_reverse]; exact hz, _, 0, r.reverse, Heap.get?_push_size _ rfl⟩
  · subst ex
    cases r1
    obtain ⟨its, r, ht, hz⟩ := I5.tuple hx
    have hlen := r.length
    show wpAny (model X.prog X.w) X.A (subscriptTail e (.Slice none none (some (.UnaryOp .USub (.Constant (.int 1) k p1) p2)) p3) (.ref a) (.ref s4.heap.objs.size)) (EP X pins σ Q) X.xe { s4 with heap := s4.heap.push { cls := .type "slice", data := .fields #[vl, vu, vs] } }
    refine tail_any (ops := [.ref a, .ref s4.heap.objs.size]) ht.typeIs PyProof.Rows.slot_tuple_getitem.lookup ?_ (by with_unfolding_all rfl)
    refine tuple_back ht (Heap.IsSliceOf.new _ vl vu vs) pl pu ps ?_ (by rw [List.size_toArray]; omega)
    have hr : Vals xs.reverse its.toArray.toList.reverse := by simpa using r.reverse
    refine ⟨.ref _, _, I5.laid (t' := s4.toks) (o := .tup xs.reverse) (fun b ob q => Heap.get?_push_of_some _ q) (Nat.le_refl _) ⟨by rw [List.length_reverse]; exact hz, _, hr, IsTup.new _ _⟩, rfl, q _ (I5.hok.fresh (Nat.le_refl _))⟩
end
end Py

namespace Py
open PySem PySem.Spec PyProof.Rows L2

/-- a value: tuples are trees, what can change stands at a place of the heap; tl, td: a list, a dict just made that nothing else holds -/
inductive D where
  | non | bl (b : Bool) | int (i : Int) | str (x : Str) | tup (xs : List D) | loc (a : Nat)
  | tl (xs : List D) | td (tk : Bool) (ks : List D) (vs : List D) | rl (xs : List D)
  deriving Inhabited
/-- what stands at a place -/
inductive DO where
  | lst (xs : List D) | dct (tk : Bool) (ks : List D) (vs : List D) | ins (c : Nat) (fs : List (Str × D))
  deriving Inhabited
abbrev Hd := List DO
abbrev Sd := List (Option D)

/-- a list that is never written: the script, one of the module's -/
def FzL (K : PySem.W.Frag) (H : Hp) (a : Addr) (xs : List V) : Prop :=
  (∃ o, H a = some (.frz o (.lst xs))) ∨
    ∃ (o : Obj) (its : Array Value) (n : Nat), K.lookup a = some o ∧ o.cls = .type "list" ∧ o.dict = none ∧ o.data = .seq its n ∧ its.size ≤ sizeLine ∧ Vals xs its.toList
theorem FzL.sq {K : PySem.W.Frag} {H : Hp} {a : Addr} {xs : List V} (h : FzL K H a xs) : SqL K H a xs := by
  rcases h with h | h
  · exact .inl (.inr h)
  · exact .inr h
section
variable (K : PySem.W.Frag) (H : Hp) (R : Nat → Addr) (n : Nat)
mutual
def R0 : D → V → Prop
  | .non, v => v = .non
  | .bl b, v => v = .bl b
  | .int i, v => v = .int i
  | .str x, v => v = .str x
  | .tup ds, v => ∃ a vs, v = .ref a ∧ SqT K H a vs ∧ R0s ds vs
  | .loc i, v => i < n ∧ v = .ref (R i)
  | .tl _, _ => False
  | .td _ _ _, _ => False
  | .rl ds, v => ∃ a vs, v = .ref a ∧ FzL K H a vs ∧ R0s ds vs
def R0s : List D → List V → Prop
  | [], vs => vs = []
  | d :: ds, vs => ∃ v r, vs = v :: r ∧ R0 d v ∧ R0s ds r
end
end
theorem R0s_len {K : PySem.W.Frag} {H : Hp} {R : Nat → Addr} {n : Nat} : ∀ {ds : List D} {vs : List V}, R0s K H R n ds vs → ds.length = vs.length
  | [], vs, h => by simp only [R0s] at h; subst h; rfl
  | d :: ds, vs, h => by
    simp only [R0s] at h
    obtain ⟨v, r, rfl, _, h2⟩ := h
    simp [R0s_len h2]

theorem R0s_get {K : PySem.W.Frag} {H : Hp} {R : Nat → Addr} {n : Nat} : ∀ {ds : List D} {vs : List V} {i : Nat} {d : D}, R0s K H R n ds vs → ds[i]? = some d → ∃ v, vs[i]? = some v ∧ R0 K H R n d v
  | [], vs, i, d, h, e => by simp at e
  | d :: ds, vs, i, x, h, e => by
    simp only [R0s] at h
    obtain ⟨v, r, rfl, h1, h2⟩ := h
    cases i with
    | zero => simp at e; subst e; exact ⟨v, rfl, h1⟩
    | succ i =>
      obtain ⟨u, hu, ru⟩ := R0s_get (i := i) h2 (by simpa using e)
      exact ⟨u, by simpa using hu, ru⟩
theorem R0s_append {K : PySem.W.Frag} {H : Hp} {R : Nat → Addr} {n : Nat} : ∀ {ds es : List D} {vs us : List V}, R0s K H R n ds vs → R0s K H R n es us → R0s K H R n (ds ++ es) (vs ++ us)
  | [], es, vs, us, h, h' => by simp only [R0s] at h; subst h; exact h'
  | d :: ds, es, vs, us, h, h' => by
    simp only [R0s] at h
    obtain ⟨v, r, rfl, h1, h2⟩ := h
    simp only [List.cons_append, R0s]
    exact ⟨v, r ++ us, rfl, h1, R0s_append h2 h'⟩
theorem R0s_take {K : PySem.W.Frag} {H : Hp} {R : Nat → Addr} {n : Nat} : ∀ {ds : List D} {vs : List V} (k : Nat), R0s K H R n ds vs → R0s K H R n (ds.take k) (vs.take k)
  | [], vs, k, h => by simp only [R0s] at h; subst h; simp [R0s]
  | d :: ds, vs, 0, h => by simp [R0s]
  | d :: ds, vs, k + 1, h => by
    simp only [R0s] at h
    obtain ⟨v, r, rfl, h1, h2⟩ := h
    simp only [List.take_succ_cons, R0s]
    exact ⟨v, _, rfl, h1, R0s_take k h2⟩
theorem R0s_drop {K : PySem.W.Frag} {H : Hp} {R : Nat → Addr} {n : Nat} : ∀ {ds : List D} {vs : List V} (k : Nat), R0s K H R n ds vs → R0s K H R n (ds.drop k) (vs.drop k)
  | [], vs, k, h => by simp only [R0s] at h; subst h; simp [R0s]
  | d :: ds, vs, 0, h => h
  | d :: ds, vs, k + 1, h => by
    simp only [R0s] at h
    obtain ⟨v, r, rfl, h1, h2⟩ := h
    exact R0s_drop k h2
theorem R0s_set {K : PySem.W.Frag} {H : Hp} {R : Nat → Addr} {n : Nat} {x : D} {u : V} (hx : R0 K H R n x u) : ∀ {ds : List D} {vs : List V} (k : Nat), R0s K H R n ds vs → R0s K H R n (ds.set k x) (vs.set k u)
  | [], vs, k, h => by simp only [R0s] at h; subst h; simp [R0s]
  | d :: ds, vs, 0, h => by
    simp only [R0s] at h
    obtain ⟨v, r, rfl, h1, h2⟩ := h
    simp only [List.set_cons_zero, R0s]
    exact ⟨u, r, rfl, hx, h2⟩
  | d :: ds, vs, k + 1, h => by
    simp only [R0s] at h
    obtain ⟨v, r, rfl, h1, h2⟩ := h
    simp only [List.set_cons_succ, R0s]
    exact ⟨v, _, rfl, h1, R0s_set hx k h2⟩
theorem R0s_one {K : PySem.W.Frag} {H : Hp} {R : Nat → Addr} {n : Nat} {x : D} {u : V} (hx : R0 K H R n x u) : R0s K H R n [x] [u] := by
  simp only [R0s]; exact ⟨u, [], rfl, hx, rfl⟩
theorem R0s_eraseIdx {K : PySem.W.Frag} {H : Hp} {R : Nat → Addr} {n : Nat} : ∀ {ds : List D} {vs : List V} (k : Nat), R0s K H R n ds vs → R0s K H R n (ds.eraseIdx k) (vs.eraseIdx k)
  | [], vs, k, h => by simp only [R0s] at h; subst h; simp [R0s]
  | d :: ds, vs, 0, h => by
    simp only [R0s] at h
    obtain ⟨v, r, rfl, h1, h2⟩ := h
    exact h2
  | d :: ds, vs, k + 1, h => by
    simp only [R0s] at h
    obtain ⟨v, r, rfl, h1, h2⟩ := h
    simp only [List.eraseIdx_cons_succ, R0s]
    exact ⟨v, _, rfl, h1, R0s_eraseIdx k h2⟩
theorem R0s_dropLast {K : PySem.W.Frag} {H : Hp} {R : Nat → Addr} {n : Nat} {ds : List D} {vs : List V} (h : R0s K H R n ds vs) : R0s K H R n ds.dropLast vs.dropLast := by
  rw [List.dropLast_eq_take, List.dropLast_eq_take, R0s_len h]; exact R0s_take _ h
theorem R0s_reverse {K : PySem.W.Frag} {H : Hp} {R : Nat → Addr} {n : Nat} : ∀ {ds : List D} {vs : List V}, R0s K H R n ds vs → R0s K H R n ds.reverse vs.reverse
  | [], vs, h => by simp only [R0s] at h; subst h; simp [R0s]
  | d :: ds, vs, h => by
    simp only [R0s] at h
    obtain ⟨v, r, rfl, h1, h2⟩ := h
    simp only [List.reverse_cons]
    exact R0s_append (R0s_reverse h2) (R0s_one h1)
theorem R0s_flat {K : PySem.W.Frag} {H : Hp} {R : Nat → Addr} {n : Nat} {ds : List D} {vs : List V} (h : R0s K H R n ds vs) : ∀ k : Nat, R0s K H R n (List.replicate k ds).flatten (List.replicate k vs).flatten
  | 0 => by simp [R0s]
  | k + 1 => by
    simp only [List.replicate_succ, List.flatten_cons]
    exact R0s_append h (R0s_flat h k)

mutual
theorem R0_mono {K : PySem.W.Frag} {H H' : Hp} {R R' : Nat → Addr} {n n' : Nat} (hf : ∀ a vs, FzL K H a vs → FzL K H' a vs) (ht : ∀ a vs, SqT K H a vs → SqT K H' a vs) (hR : ∀ i, i < n → i < n' ∧ R' i = R i) : ∀ (d : D) (v : V), R0 K H R n d v → R0 K H' R' n' d v
  | .non, v, h => h
  | .bl _, v, h => h
  | .int _, v, h => h
  | .str _, v, h => h
  | .tup ds, v, h => by
    simp only [R0] at h ⊢
    obtain ⟨a, vs, e, h1, h2⟩ := h
    exact ⟨a, vs, e, ht _ _ h1, R0s_mono hf ht hR ds vs h2⟩
  | .loc i, v, h => by
    simp only [R0] at h ⊢
    exact ⟨(hR i h.1).1, by rw [(hR i h.1).2]; exact h.2⟩
  | .tl _, v, h => h
  | .td _ _ _, v, h => h
  | .rl ds, v, h => by
    simp only [R0] at h ⊢
    obtain ⟨a, vs, e, h1, h2⟩ := h
    exact ⟨a, vs, e, hf _ _ h1, R0s_mono hf ht hR ds vs h2⟩
theorem R0s_mono {K : PySem.W.Frag} {H H' : Hp} {R R' : Nat → Addr} {n n' : Nat} (hf : ∀ a vs, FzL K H a vs → FzL K H' a vs) (ht : ∀ a vs, SqT K H a vs → SqT K H' a vs) (hR : ∀ i, i < n → i < n' ∧ R' i = R i) : ∀ (ds : List D) (vs : List V), R0s K H R n ds vs → R0s K H' R' n' ds vs
  | [], vs, h => by simp only [R0s] at h ⊢; exact h
  | d :: ds, vs, h => by
    simp only [R0s] at h ⊢
    obtain ⟨v, r, e, h1, h2⟩ := h
    exact ⟨v, r, e, R0_mono hf ht hR d v h1, R0s_mono hf ht hR ds r h2⟩
end

-- all places within lie below n
mutual
def D.clean (n : Nat) : D → Prop
  | .non => True
  | .bl _ => True
  | .int _ => True
  | .str _ => True
  | .tup ds => D.cleans n ds
  | .loc i => i < n
  | .tl ds => D.cleans n ds
  | .td _ ks vs => D.cleans n ks ∧ D.cleans n vs
  | .rl ds => D.cleans n ds
def D.cleans (n : Nat) : List D → Prop
  | [] => True
  | d :: ds => D.clean n d ∧ D.cleans n ds
end
mutual
theorem R0_clean {K : PySem.W.Frag} {H : Hp} {R : Nat → Addr} {n m : Nat} : ∀ (d : D) (v : V), D.clean m d → R0 K H R n d v → R0 K H R m d v
  | .non, v, _, h => h
  | .bl _, v, _, h => h
  | .int _, v, _, h => h
  | .str _, v, _, h => h
  | .tup ds, v, c, h => by
    simp only [R0] at h ⊢
    simp only [D.clean] at c
    obtain ⟨a, vs, e, h1, h2⟩ := h
    exact ⟨a, vs, e, h1, R0s_clean ds vs c h2⟩
  | .loc i, v, c, h => by
    simp only [R0] at h ⊢
    simp only [D.clean] at c
    exact ⟨c, h.2⟩
  | .tl _, v, _, h => h
  | .td _ _ _, v, _, h => h
  | .rl ds, v, c, h => by
    simp only [R0] at h ⊢
    simp only [D.clean] at c
    obtain ⟨a, vs, e, h1, h2⟩ := h
    exact ⟨a, vs, e, h1, R0s_clean ds vs c h2⟩
theorem R0s_clean {K : PySem.W.Frag} {H : Hp} {R : Nat → Addr} {n m : Nat} : ∀ (ds : List D) (vs : List V), D.cleans m ds → R0s K H R n ds vs → R0s K H R m ds vs
  | [], vs, _, h => by simp only [R0s] at h ⊢; exact h
  | d :: ds, vs, c, h => by
    simp only [R0s] at h ⊢
    simp only [D.cleans] at c
    obtain ⟨v, r, e, h1, h2⟩ := h
    exact ⟨v, r, e, R0_clean d v c.1 h1, R0s_clean ds r c.2 h2⟩
end

def keyD : Key → D
  | .inl i => .int i
  | .inr x => .str x
def DO.clean (n : Nat) : DO → Prop
  | .lst xs => D.cleans n xs
  | .dct _ _ vs => D.cleans n vs
  | .ins _ fs => D.cleans n (fs.map (·.2))

section
variable (K : PySem.W.Frag) (H : Hp) (R : Nat → Addr) (n : Nat)
def dcRel (tk : Bool) (ks vs : List D) (o : Option HO) : Prop :=
  (tk = false ∧ ∃ kvs : List (Key × V), o = some (.dK kvs) ∧ ks = kvs.map (fun p => keyD p.1) ∧ R0s K H R n vs (kvs.map (·.2))) ∨
  (tk = true ∧ ∃ kvs : List (List Key × V), o = some (.dT kvs) ∧ ks = kvs.map (fun p => D.tup (p.1.map keyD)) ∧ R0s K H R n vs (kvs.map (·.2)))
def ORel (a : Addr) : DO → Prop
  | .lst ds => ∃ vs, H a = some (.lst vs) ∧ R0s K H R n ds vs
  | .dct tk ks vs => dcRel K H R n tk ks vs (H a)
  | .ins _ _ => False
structure HRel (h : Hd) : Prop where
  inj : ∀ i j, i < h.length → j < h.length → R i = R j → i = j
  obj : ∀ i o, h[i]? = some o → ORel K H R h.length (R i) o
/-- a value as an expression gives it: G, the heap at the expression's start -/
def RT (G : Hp) : D → V → Prop
  | .tl ds, v => ∃ a vs, v = .ref a ∧ G a = none ∧ H a = some (.lst vs) ∧ R0s K H R n ds vs ∧ ∀ i, i < n → R i ≠ a
  | .td tk ks ws, v => ∃ a, v = .ref a ∧ G a = none ∧ dcRel K H R n tk ks ws (H a) ∧ ∀ i, i < n → R i ≠ a
  | d, v => R0 K H R n d v
end
/-- from one heap to a later one -/
structure Ext (K : PySem.W.Frag) (R : Nat → Addr) (h : Hd) (H : Hp) (R' : Nat → Addr) (h' : Hd) (H' : Hp) : Prop where
  len : h.length ≤ h'.length
  agr : ∀ i, i < h.length → R' i = R i
  fresh : ∀ i, h.length ≤ i → i < h'.length → H (R' i) = none
  frame : ∀ a o, H a = some o → (∀ i, i < h.length → R i ≠ a) → H' a = some o
  stay : ∀ a o, H a = some o → ∃ o', H' a = some o'
  tup : ∀ a vs, SqT K H a vs → SqT K H' a vs
  frz : ∀ a vs, FzL K H a vs → FzL K H' a vs
structure SRel (K : PySem.W.Frag) (H : Hp) (R : Nat → Addr) (n : Nat) (τ : Sd) (σ : L2.St) : Prop where
  len : τ.length = σ.length
  at_ : ∀ (i : Nat) (d : D), τ[i]? = some (some d) → ∃ v, σ[i]? = some (some v) ∧ R0 K H R n d v

theorem Ext.refl {K : PySem.W.Frag} {R : Nat → Addr} {h : Hd} {H : Hp} : Ext K R h H R h H :=
  ⟨Nat.le_refl _, fun _ _ => rfl, fun i h1 h2 => absurd h2 (Nat.not_lt.mpr h1), fun _ _ e _ => e, fun _ o e => ⟨o, e⟩, fun _ _ e => e, fun _ _ e => e⟩
section
variable {K : PySem.W.Frag} {R R1 R2 : Nat → Addr} {h h1 h2 : Hd} {H H1 H2 : Hp}
theorem Ext.trans (a : Ext K R h H R1 h1 H1) (b : Ext K R1 h1 H1 R2 h2 H2) : Ext K R h H R2 h2 H2 where
  len := Nat.le_trans a.len b.len
  agr := fun i hi => (b.agr i (Nat.lt_of_lt_of_le hi a.len)).trans (a.agr i hi)
  fresh := fun i z1 z2 => by
    by_cases hi : i < h1.length
    · rw [b.agr i hi]; exact a.fresh i z1 hi
    · have n1 := b.fresh i (Nat.not_lt.mp hi) z2
      cases q : H (R2 i) with
      | none => rfl
      | some o =>
        obtain ⟨o', e⟩ := a.stay _ o q
        rw [n1] at e; cases e
  frame := fun x o e n => by
    refine b.frame x o (a.frame x o e n) fun i hi z => ?_
    by_cases hl : i < h.length
    · exact n i hl ((a.agr i hl).symm.trans z)
    · have := a.fresh i (Nat.not_lt.mp hl) hi
      rw [z, e] at this; cases this
  stay := fun x o e => by
    obtain ⟨o', e'⟩ := a.stay x o e
    exact b.stay x o' e'
  tup := fun x vs e => b.tup x vs (a.tup x vs e)
  frz := fun x vs e => b.frz x vs (a.frz x vs e)
theorem Ext.none_of (e : Ext K R h H R1 h1 H1) {a : Addr} (q : H1 a = none) : H a = none := by
  cases z : H a with
  | none => rfl
  | some o =>
    obtain ⟨o', e'⟩ := e.stay _ o z
    rw [q] at e'; cases e'
theorem Ext.r0 (e : Ext K R h H R1 h1 H1) {d : D} {v : V} (r : R0 K H R h.length d v) : R0 K H1 R1 h1.length d v :=
  R0_mono e.frz e.tup (fun i hi => ⟨Nat.lt_of_lt_of_le hi e.len, e.agr i hi⟩) d v r
theorem Ext.r0s (e : Ext K R h H R1 h1 H1) {d : List D} {v : List V} (r : R0s K H R h.length d v) : R0s K H1 R1 h1.length d v :=
  R0s_mono e.frz e.tup (fun i hi => ⟨Nat.lt_of_lt_of_le hi e.len, e.agr i hi⟩) d v r
theorem Ext.srel (e : Ext K R h H R1 h1 H1) {τ : Sd} {σ : L2.St} (r : SRel K H R h.length τ σ) : SRel K H1 R1 h1.length τ σ :=
  ⟨r.len, fun i d q => let ⟨v, a, b⟩ := r.at_ i d q; ⟨v, a, e.r0 b⟩⟩
/-- a new entry's place is not one that stood -/
theorem Ext.ne (e : Ext K R h H R1 h1 H1) {a : Addr} {o : HO} (q : H a = some o) (n : ∀ i, i < h.length → R i ≠ a) : ∀ i, i < h1.length → R1 i ≠ a := fun i hi z => by
  by_cases hl : i < h.length
  · exact n i hl ((e.agr i hl).symm.trans z)
  · have := e.fresh i (Nat.not_lt.mp hl) hi
    rw [z, q] at this; cases this
theorem dcRel.ext (e : Ext K R h H R1 h1 H1) {tk : Bool} {ks vs : List D} {o : Option HO} (r : dcRel K H R h.length tk ks vs o) : dcRel K H1 R1 h1.length tk ks vs o := by
  rcases r with ⟨t, kvs, a, b, c⟩ | ⟨t, kvs, a, b, c⟩
  · exact .inl ⟨t, kvs, a, b, e.r0s c⟩
  · exact .inr ⟨t, kvs, a, b, e.r0s c⟩
/-- a value stays while something else is reckoned -/
theorem Ext.rt (e : Ext K R h H R1 h1 H1) {G : Hp} {d : D} {v : V} (r : RT K H R h.length G d v) : RT K H1 R1 h1.length G d v := by
  cases d with
  | tl ds =>
    obtain ⟨a, vs, e1, n, q, r, ne⟩ := r
    exact ⟨a, vs, e1, n, e.frame a _ q ne, e.r0s r, e.ne q ne⟩
  | td tk ks ws =>
    obtain ⟨a, e1, n, q, ne⟩ := r
    have hs : ∃ o, H a = some o := by
      rcases q with ⟨_, kvs, a, _⟩ | ⟨_, kvs, a, _⟩ <;> exact ⟨_, a⟩
    obtain ⟨o, ho⟩ := hs
    refine ⟨a, e1, n, ?_, e.ne ho ne⟩
    rw [e.frame a _ ho ne, ← ho]
    exact q.ext e
  | _ => exact e.r0 r
/-- .. told from an earlier start -/
theorem RT.from (g : ∀ a, H a = none → H2 a = none) {R : Nat → Addr} {n : Nat} {d : D} {v : V} (r : RT K H1 R n H d v) : RT K H1 R n H2 d v := by
  cases d with
  | tl ds =>
    obtain ⟨a, vs, e1, n, q⟩ := r
    exact ⟨a, vs, e1, g _ n, q⟩
  | td tk ks ws =>
    obtain ⟨a, e1, n, q⟩ := r
    exact ⟨a, e1, g _ n, q⟩
  | _ => exact r
theorem RT.of {G : Hp} {R : Nat → Addr} {n : Nat} {d : D} {v : V} (r : R0 K H R n d v) : RT K H R n G d v := by
  cases d with
  | tl ds => simp only [R0] at r
  | td tk ks ws => simp only [R0] at r
  | _ => exact r

/-- what is wanted behind an expression -/
def Post (K : PySem.W.Frag) (R : Nat → Addr) (h : Hd) (H : Hp) (P : D → Hd → Prop) (Q : VK) : Prop :=
  ∀ R' h' H' d v, Ext K R h H R' h' H' → HRel K H' R' h' → RT K H' R' h'.length H d v → P d h' → Q v H'
theorem Post.on {P : D → Hd → Prop} {Q : VK} (p : Post K R h H P Q) (e : Ext K R h H R1 h1 H1) : Post K R1 h1 H1 P Q :=
  fun R' h' H' d v e' hr rt q => p R' h' H' d v (e.trans e') hr (rt.from fun _ => e.none_of) q
end

abbrev TEd := Sd → Hd → (D → Hd → Prop) → Prop
abbrev TTd := Sd → Hd → (Bool → Hd → Prop) → Prop
abbrev TAd := Sd → Hd → (List D → Hd → Prop) → Prop
structure Endd where
  nx : Sd → Hd → Prop
  rt : D → Hd → Prop
  bk : Sd → Hd → Prop
  ct : Sd → Hd → Prop
abbrev TSd := Endd → Sd → Hd → Prop
/-- a reading over values as a reading over HandS's -/
def lift (K : PySem.W.Frag) (t : TEd) : TE := fun σ H Q => ∃ R τ h P, SRel K H R h.length τ σ ∧ HRel K H R h ∧ t τ h P ∧ Post K R h H P Q
def liftT (K : PySem.W.Frag) (t : TTd) : TT := fun σ H Q => ∃ R τ h P, SRel K H R h.length τ σ ∧ HRel K H R h ∧ t τ h P ∧
  ∀ R' h' H' b, Ext K R h H R' h' H' → HRel K H' R' h' → P b h' → Q b H'
def liftS (K : PySem.W.Frag) (t : TSd) : TS := fun Z σ H => ∃ R τ h, ∃ P : Endd, SRel K H R h.length τ σ ∧ HRel K H R h ∧ t P τ h ∧
  (∀ R' h' H' τ' σ', Ext K R h H R' h' H' → HRel K H' R' h' → SRel K H' R' h'.length τ' σ' → P.nx τ' h' → Z.nx σ' H') ∧
  (∀ R' h' H' d v, Ext K R h H R' h' H' → HRel K H' R' h' → RT K H' R' h'.length H d v → P.rt d h' → Z.rt v H') ∧
  (∀ R' h' H' τ' σ', Ext K R h H R' h' H' → HRel K H' R' h' → SRel K H' R' h'.length τ' σ' → P.bk τ' h' → Z.bk σ' H') ∧
  (∀ R' h' H' τ' σ', Ext K R h H R' h' H' → HRel K H' R' h' → SRel K H' R' h'.length τ' σ' → P.ct τ' h' → Z.ct σ' H')

theorem PE.imp {X : Cx} {e : Expr} {t u : TE} (p : PE X e t) (h : ∀ σ H Q, u σ H Q → t σ H Q) : PE X e u := ⟨fun pins s σ H Q I w => p.run pins s σ H Q I (h _ _ _ w)⟩
theorem PT.imp {X : Cx} {e : Expr} {t u : TT} (p : PT X e t) (h : ∀ σ H Q, u σ H Q → t σ H Q) : PT X e u := ⟨fun pins s σ H Q I w => p.run pins s σ H Q I (h _ _ _ w)⟩
theorem PA.imp {X : Cx} {e : List Expr} {t u : TA} (p : PA X e t) (h : ∀ σ H Q, u σ H Q → t σ H Q) : PA X e u := ⟨fun po pins s σ H Q I w => p.run po pins s σ H Q I (h _ _ _ w)⟩
theorem PS.imp {X : Cx} {e : Stmt} {t u : TS} (p : PS X e t) (h : ∀ Z σ H, u Z σ H → t Z σ H) : PS X e u := ⟨fun pins s σ H Q I w => p.run pins s σ H Q I (h _ _ _ w)⟩
theorem PSs.imp {X : Cx} {e : List Stmt} {t u : TS} (p : PSs X e t) (h : ∀ Z σ H, u Z σ H → t Z σ H) : PSs X e u := ⟨fun pins s σ H Q I w => p.run pins s σ H Q I (h _ _ _ w)⟩
end Py

namespace Py
open PySem PySem.Spec PyProof.Rows L2

abbrev PD := D → Hd → Prop
/-- what a list, or a tuple or list, holds -/
def lstOf (h : Hd) : D → Option (List D)
  | .tl xs => some xs
  | .loc a => match h[a]? with
    | some (.lst xs) => some xs
    | _ => none
  | .rl xs => some xs
  | _ => none
def seqOf (h : Hd) : D → Option (List D)
  | .tup xs => some xs
  | d => lstOf h d

-- data without places
mutual
def D.pure : D → Bool
  | .tup xs => D.pures xs
  | .loc _ => false
  | .tl _ => false
  | .td _ _ _ => false
  | .rl _ => false
  | _ => true
def D.pures : List D → Bool
  | [] => true
  | d :: ds => D.pure d && D.pures ds
end
mutual
def D.pd : D → PyData
  | .non => .none
  | .bl b => .bool b
  | .int i => .int i
  | .str x => .str x
  | .tup xs => .tuple (D.pds xs)
  | .loc _ => .none
  | .tl _ => .none
  | .td _ _ _ => .none
  | .rl _ => .none
def D.pds : List D → List PyData
  | [] => []
  | d :: ds => D.pd d :: D.pds ds
end
/-- a list that is not the script -/
def mutOf (h : Hd) : D → Option (List D)
  | .rl _ => none
  | d => lstOf h d
/-- the data that a value is now -/
def snap (h : Hd) (d : D) : Option PyData :=
  if d.pure then some d.pd else match lstOf h d with
    | some xs => if D.pures xs then some (.list (D.pds xs)) else none
    | none => none

/-! ### operators by values -/
def addW (x y : D) (h : Hd) (Q : PD) : Prop := match x, y with
  | .int i, .int j => Q (.int (i + j)) h
  | .str a, .str b => a.length + b.length ≤ sizeLine ∧ Q (.str (a ++ b)) h
  | .tup a, .tup b => a.length + b.length ≤ sizeLine ∧ Q (.tup (a ++ b)) h
  | x, y => match mutOf h x, mutOf h y with
    | some a, some b => a.length + b.length ≤ sizeLine ∧ Q (.tl (a ++ b)) h
    | _, _ => False
def subW (x y : D) (h : Hd) (Q : PD) : Prop := match x, y with
  | .int i, .int j => Q (.int (i - j)) h
  | _, _ => False
/-- sizes of a product's factors -/
def mulOk (i j : Int) : Prop := CMul i j ∨ CMulW i j
def mulW (x y : D) (h : Hd) (Q : PD) : Prop := match x, y with
  | .int i, .int j => mulOk i j ∧ Q (.int (i * j)) h
  | .tup a, .int k => (-(2 ^ 63) ≤ k ∧ k ≤ 1000 ∧ a.length ≤ 1000) ∧ Q (.tup (List.replicate k.toNat a).flatten) h
  | x, .int k => match mutOf h x with
    | some a => a.length * k.toNat ≤ sizeLine ∧ -(2 ^ 63) ≤ k ∧ k < 2 ^ 63 ∧ Q (.tl (List.replicate k.toNat a).flatten) h
    | none => False
  | _, _ => False
def divOk (j : Int) : Prop := j ≠ 0 ∧ j.natAbs.log2 < 9000
def fdivW (x y : D) (h : Hd) (Q : PD) : Prop := match x, y with
  | .int i, .int j => divOk j ∧ Q (.int (i.fdiv j)) h
  | _, _ => False
def modW (x y : D) (h : Hd) (Q : PD) : Prop := match x, y with
  | .int i, .int j => j ≠ 0 ∧ Q (.int (i.fmod j)) h
  | _, _ => False
def powW (x y : D) (h : Hd) (Q : PD) : Prop := match x, y with
  | .int i, .int j => (0 ≤ j ∧ j ≤ 1000000 ∧ i.natAbs < 2 ^ 64) ∧ Q (.int (i ^ j.toNat)) h
  | _, _ => False
def negW (x : D) (h : Hd) (Q : PD) : Prop := match x with
  | .int i => Q (.int (-i)) h
  | _ => False
/-- x == y -/
def eqW (x y : D) (h : Hd) (Q : Bool → Hd → Prop) : Prop := match x, y with
  | .int i, .int j => Q (decide (i = j)) h
  | .str i, .str j => Q (decide (i = j)) h
  | .bl i, .bl j => Q (decide (i = j)) h
  | x, y => match snap h x, snap h y with
    | some a, some b => SeqAt.shaped a = true ∧ SeqAt.shaped b = true ∧ Q (PyData.eqv a b) h
    | _, _ => False
/-- an order -/
def ordW (f : Int → Int → Bool) (x y : D) (h : Hd) (Q : Bool → Hd → Prop) : Prop := match x, y with
  | .int i, .int j => Q (f i j) h
  | _, _ => False
def isNonD : D → Bool
  | .non => true | _ => false
def isBlD (b : Bool) : D → Bool
  | .bl c => c == b | _ => false
/-- x is y: none and truths -/
def isW (x y : D) (h : Hd) (Q : Bool → Hd → Prop) : Prop := match y with
  | .non => Q (isNonD x) h
  | .bl b => Q (isBlD b x) h
  | _ => False
def flatD : D → Bool
  | .non => true | .bl _ => true | .int _ => true | .str _ => true | _ => false
def flatB : D → Bool
  | .bl _ => true | _ => false
def flatI : D → Bool
  | .int _ => true | _ => false
/-- equality of flat values, no truth beside a number -/
def feq : D → D → Bool
  | .non, .non => true
  | .bl a, .bl b => a == b
  | .int a, .int b => a == b
  | .str a, .str b => a == b
  | _, _ => false
/-- x in y, y a tuple or list -/
def inW (x y : D) (h : Hd) (Q : Bool → Hd → Prop) : Prop := match seqOf h y with
  | some ys => (flatD x = true ∧ ys.all flatD = true ∧ ¬ (flatB x = true ∧ ys.any flatI = true) ∧ ¬ (flatI x = true ∧ ys.any flatB = true)) ∧ Q (ys.any fun z => feq z x) h
  | none => False
/-- x[y] -/
def idxW (x y : D) (h : Hd) (Q : PD) : Prop := match y with
  | .int i => match x with
    | .str z => z.length ≤ sizeLine ∧ (match atI z.cps.toList i with
      | some c => Q (.str ⟨#[c]⟩) h
      | none => False)
    | x => match seqOf h x with
      | some xs => (match atI xs i with
        | some v => Q v h
        | none => False)
      | none => False
  | _ => False
/-- a part's place -/
def partW (x : D) : Option Int := match x with
  | .int i => some i
  | _ => none
def cutD (xs : List D) (lo hi : Option Int) : List D := (xs.drop (HT.sIx xs.length 0 lo)).take (HT.sIx xs.length xs.length hi - HT.sIx xs.length 0 lo)
def slW (x : D) (lo hi : Option Int) (h : Hd) (Q : PD) : Prop := match x with
  | .tup xs => Q (.tup (cutD xs lo hi)) h
  | x => match lstOf h x with
    | some xs => Q (.tl (cutD xs lo hi)) h
    | none => False
def revW (x : D) (h : Hd) (Q : PD) : Prop := match x with
  | .tup xs => Q (.tup xs.reverse) h
  | x => match lstOf h x with
    | some xs => Q (.tl xs.reverse) h
    | none => False
/-! ### built-in functions by values -/
def lenW (x : D) (h : Hd) (Q : PD) : Prop := match x with
  | .str z => z.length ≤ sizeLine ∧ Q (.int z.length) h
  | x => match seqOf h x with
    | some xs => Q (.int xs.length) h
    | none => False
def absW (x : D) (h : Hd) (Q : PD) : Prop := match x with
  | .int i => Q (.int (if i < 0 then -i else i)) h
  | _ => False
def intW (x : D) (h : Hd) (Q : PD) : Prop := match x with
  | .int i => Q (.int i) h
  | .bl b => Q (.int (if b then 1 else 0)) h
  | _ => False
def gcdW (x y : D) (h : Hd) (Q : PD) : Prop := match x, y with
  | .int i, .int j => Q (.int ((Nat.gcd i.natAbs j.natAbs : Nat) : Int)) h
  | _, _ => False
def listW (x : D) (h : Hd) (Q : PD) : Prop := match seqOf h x with
  | some xs => Q (.tl xs) h
  | none => False
def tupleW (x : D) (h : Hd) (Q : PD) : Prop := match seqOf h x with
  | some xs => Q (.tup xs) h
  | none => False
def bitsW (x : D) (h : Hd) (Q : PD) : Prop := match x with
  | .int i => Q (.int (Builtin.Int.intBits i : Nat)) h
  | _ => False
/-- lists of numbers, of truths -/
def intsOf : List D → Option (List Int)
  | [] => some []
  | .int i :: r => match intsOf r with
    | some is => some (i :: is)
    | none => none
  | _ :: _ => none
def blsOf : List D → Option (List Bool)
  | [] => some []
  | .bl i :: r => match blsOf r with
    | some is => some (i :: is)
    | none => none
  | _ :: _ => none
def intsAt (h : Hd) (x : D) : Option (List Int) := match lstOf h x with
  | some xs => intsOf xs
  | none => none
def blsAt (h : Hd) (x : D) : Option (List Bool) := match lstOf h x with
  | some xs => blsOf xs
  | none => none
def intsSq (h : Hd) (x : D) : Option (List Int) := match seqOf h x with
  | some xs => intsOf xs
  | none => none
def sortI (ns : List Int) : List Int := ns.mergeSort fun a b => decide (a ≤ b)
def anyW (x : D) (h : Hd) (Q : PD) : Prop := match blsAt h x with
  | some bs => Q (.bl (bs.any id)) h
  | none => False
def allW (x : D) (h : Hd) (Q : PD) : Prop := match blsAt h x with
  | some bs => Q (.bl (bs.all id)) h
  | none => False
def sumW (x : D) (h : Hd) (Q : PD) : Prop := match intsAt h x with
  | some ns => Q (.int ns.sum) h
  | none => False
def maxLW (x : D) (h : Hd) (Q : PD) : Prop := match intsAt h x with
  | some ns => (match ns.max? with
    | some m => Q (.int m) h
    | none => False)
  | none => False
def minLW (x : D) (h : Hd) (Q : PD) : Prop := match intsAt h x with
  | some ns => (match ns.min? with
    | some m => Q (.int m) h
    | none => False)
  | none => False
def max2W (x y : D) (h : Hd) (Q : PD) : Prop := match x, y with
  | .int i, .int j => Q (.int (if j > i then j else i)) h
  | _, _ => False
def min2W (x y : D) (h : Hd) (Q : PD) : Prop := match x, y with
  | .int i, .int j => Q (.int (if j < i then j else i)) h
  | _, _ => False
def sortedW (x : D) (h : Hd) (Q : PD) : Prop := match intsSq h x with
  | some ns => Q (.tl ((sortI ns).map D.int)) h
  | none => False
def sortedSetW (x : D) (h : Hd) (Q : PD) : Prop := match intsSq h x with
  | some ns => ns.length < 64 ∧ ∀ us : List Int, us.Pairwise (· < ·) → (∀ k, k ∈ us ↔ k ∈ ns) → Q (.tl (us.map D.int)) h
  | none => False
def lenSetW (x : D) (h : Hd) (Q : PD) : Prop := match intsSq h x with
  | some ns => ns.length < 4000 ∧ ∀ us : List Int, us.Nodup → (∀ k, k ∈ us ↔ k ∈ ns) → Q (.int us.length) h
  | none => False
/-- dicts with numbers and texts as keys -/
def dkey : D → Option Key
  | .int i => some (.inl i)
  | .str x => some (.inr x)
  | _ => none
def dGet : List D → List D → Key → Option D
  | x :: ks, v :: vs, k => if dkey x = some k then some v else dGet ks vs k
  | _, _, _ => none
def dHas (ks : List D) (k : Key) : Bool := ks.any fun x => decide (dkey x = some k)
def dPut (ks vs : List D) (k : Key) (w : D) : List D × List D :=
  if dHas ks k = true then (ks, List.zipWith (fun x v => if dkey x = some k then w else v) ks vs) else (ks ++ [keyD k], vs ++ [w])
def dctOf (h : Hd) : D → Option (List D × List D)
  | .loc a => match h[a]? with
    | some (.dct false ks vs) => some (ks, vs)
    | _ => none
  | _ => none
def dgetW (x y : D) (h : Hd) (Q : PD) : Prop := match dctOf h x, dkey y with
  | some (ks, vs), some k => (match dGet ks vs k with
    | some v => Q v h
    | none => False)
  | _, _ => False
def dinW (x y : D) (h : Hd) (Q : Bool → Hd → Prop) : Prop := match dctOf h y, dkey x with
  | some (ks, vs), some k => Q (dGet ks vs k).isSome h
  | _, _ => False
def dlenW (x : D) (h : Hd) (Q : PD) : Prop := match dctOf h x with
  | some (ks, _) => Q (.int ks.length) h
  | none => False
def lrngW (x : D) (h : Hd) (Q : PD) : Prop := match x with
  | .int n => (-(2 ^ 62) ≤ n ∧ n ≤ 2 ^ 24) ∧ Q (.tl ((List.range n.toNat).map fun (i : Nat) => D.int (0 + (i : Int)))) h
  | _ => False
/-- isinstance(x, T) -/
def isInst (T : String) (h : Hd) : D → Option Bool
  | .non => some (T == "NoneType")
  | .bl _ => some (T == "bool" || T == "int")
  | .int _ => some (T == "int")
  | .str _ => some (T == "str")
  | .tup _ => some (T == "tuple")
  | .tl _ => some (T == "list")
  | .td _ _ _ => some (T == "dict")
  | .rl _ => some (T == "list")
  | .loc a => match h[a]? with
    | some (.lst _) => some (T == "list")
    | some (.dct _ _ _) => some (T == "dict")
    | _ => none
def instW (T : String) (x : D) (h : Hd) (Q : PD) : Prop := match isInst T h x with
  | some b => Q (.bl b) h
  | none => False
/-! ### methods by values -/
def appendW (o x : D) (h : Hd) (Q : PD) : Prop := match o with
  | .loc a => match h[a]? with
    | some (.lst xs) => xs.length < sizeLine ∧ Q .non (h.set a (.lst (xs ++ [x])))
    | _ => False
  | _ => False
def popW (o : D) (h : Hd) (Q : PD) : Prop := match o with
  | .loc a => match h[a]? with
    | some (.lst xs) => (match xs[xs.length - 1]? with
      | some y => Q y (h.set a (.lst xs.dropLast))
      | none => False)
    | _ => False
  | _ => False
def reverseW (o : D) (h : Hd) (Q : PD) : Prop := match o with
  | .loc a => match h[a]? with
    | some (.lst xs) => Q .non (h.set a (.lst xs.reverse))
    | _ => False
  | _ => False
def setIdxW (o i v : D) (h : Hd) (k : Hd → Prop) : Prop := match o, i with
  | .loc a, .int j => match h[a]? with
    | some (.lst xs) => (match ixN xs.length j with
      | some n => k (h.set a (.lst (xs.set n v)))
      | none => False)
    | some (.dct false ks vs) => ks.length < sizeLine ∧ k (h.set a (.dct false (dPut ks vs (.inl j) v).1 (dPut ks vs (.inl j) v).2))
    | _ => False
  | .loc a, .str j => match h[a]? with
    | some (.dct false ks vs) => ks.length < sizeLine ∧ k (h.set a (.dct false (dPut ks vs (.inr j) v).1 (dPut ks vs (.inr j) v).2))
    | _ => False
  | _, _ => False
/-- a value gets a place of its own -/
def mat (d : D) (h : Hd) (Q : PD) : Prop := match d with
  | .tl xs => Q (.loc h.length) (h ++ [.lst xs])
  | .td tk ks vs => Q (.loc h.length) (h ++ [.dct tk ks vs])
  | d => Q d h
/-- a value's truth -/
def truth (h : Hd) : D → Option Bool
  | .non => some false
  | .bl b => some b
  | .int i => some (i != 0)
  | .tup xs => some (!xs.isEmpty)
  | .str _ => none
  | d => match lstOf h d with
    | some xs => some (!xs.isEmpty)
    | none => none

inductive Prim where
  | add | sub | mul | fdiv | mod | pow | neg
  | eq | ne | lt | le | gt | ge | is_ | isnot | in_ | notin
  | idx | slLo | slHi | rev
  | len | abs | int1 | gcd | list | tuple | bits | inst (T : String)
  | pop | reverse
  | any | all | sum | maxL | minL | sorted | max2 | min2 | sortedSet | lenSet
  | dnew | dget | din | dnotin | dlen | lrng
  deriving DecidableEq

def bo (Q : PD) : Bool → Hd → Prop := fun b h => Q (.bl b) h
def bon (Q : PD) : Bool → Hd → Prop := fun b h => Q (.bl (!b)) h
def wpP : Prim → List D → Hd → PD → Prop
  | .add, [x, y], h, Q => addW x y h Q
  | .sub, [x, y], h, Q => subW x y h Q
  | .mul, [x, y], h, Q => mulW x y h Q
  | .fdiv, [x, y], h, Q => fdivW x y h Q
  | .mod, [x, y], h, Q => modW x y h Q
  | .pow, [x, y], h, Q => powW x y h Q
  | .neg, [x], h, Q => negW x h Q
  | .eq, [x, y], h, Q => eqW x y h (bo Q)
  | .ne, [x, y], h, Q => eqW x y h (bon Q)
  | .lt, [x, y], h, Q => ordW (fun i j => decide (i < j)) x y h (bo Q)
  | .le, [x, y], h, Q => ordW (fun i j => decide (i ≤ j)) x y h (bo Q)
  | .gt, [x, y], h, Q => ordW (fun i j => decide (j < i)) x y h (bo Q)
  | .ge, [x, y], h, Q => ordW (fun i j => decide (j ≤ i)) x y h (bo Q)
  | .is_, [x, y], h, Q => isW x y h (bo Q)
  | .isnot, [x, y], h, Q => isW x y h (bon Q)
  | .in_, [x, y], h, Q => inW x y h (bo Q)
  | .notin, [x, y], h, Q => inW x y h (bon Q)
  | .idx, [x, y], h, Q => idxW x y h Q
  | .slLo, [x, y], h, Q => match partW y with | some i => slW x (some i) none h Q | none => False
  | .slHi, [x, y], h, Q => match partW y with | some i => slW x none (some i) h Q | none => False
  | .rev, [x], h, Q => revW x h Q
  | .len, [x], h, Q => lenW x h Q
  | .abs, [x], h, Q => absW x h Q
  | .int1, [x], h, Q => intW x h Q
  | .gcd, [x, y], h, Q => gcdW x y h Q
  | .list, [x], h, Q => listW x h Q
  | .tuple, [x], h, Q => tupleW x h Q
  | .bits, [x], h, Q => bitsW x h Q
  | .inst T, [x], h, Q => instW T x h Q
  | .pop, [x], h, Q => popW x h Q
  | .reverse, [x], h, Q => reverseW x h Q
  | .any, [x], h, Q => anyW x h Q
  | .all, [x], h, Q => allW x h Q
  | .sum, [x], h, Q => sumW x h Q
  | .maxL, [x], h, Q => maxLW x h Q
  | .minL, [x], h, Q => minLW x h Q
  | .sorted, [x], h, Q => sortedW x h Q
  | .max2, [x, y], h, Q => max2W x y h Q
  | .min2, [x, y], h, Q => min2W x y h Q
  | .sortedSet, [x], h, Q => sortedSetW x h Q
  | .lenSet, [x], h, Q => lenSetW x h Q
  | .dnew, [], h, Q => Q (.td false [] []) h
  | .dget, [x, y], h, Q => dgetW x y h Q
  | .din, [x, y], h, Q => dinW x y h (bo Q)
  | .dnotin, [x, y], h, Q => dinW x y h (bon Q)
  | .dlen, [x], h, Q => dlenW x h Q
  | .lrng, [x], h, Q => lrngW x h Q
  | _, _, _, _ => False

/-- methods with arguments -/
inductive MP where
  | append
  deriving DecidableEq
def tyM : MP → Hd → D → Prop
  | .append, h, x => (mutOf h x).isSome = true
def wpM : MP → D → List D → Hd → PD → Prop
  | .append, x, [y], h, Q => appendW x y h Q
  | _, _, _, _, _ => False
/-! ### the resolved syntax -/
inductive Pat where
  | nm (i : Nat) | tp (is : List Nat)
inductive CE where
  | var (i : Nat) | cst (d : D) | glob (i : Nat)
  | anil | acons (e r : CE)
  | tup (as : CE) | lst (as : CE) | prim (p : Prim) (as : CE) | meth (m : MP) (o as : CE) | call (f : Nat) (as : CE)
  | ife (t a b : CE) | and_ (a b : CE) | or_ (a b : CE) | not_ (a : CE)
  | chain (p q : Prim) (a b c : CE) | sl2 (a b c : CE)
  | r1 (a : CE) | r2 (a b : CE)
  | comp (p : Pat) (it : CE) (cond : Option Unit) (c : CE) (elt : CE)
/-- what is walked -/
inductive Iter where
  | vals (xs : List D) | live (a : Nat) (xs : List D)
def Iter.xs : Iter → List D
  | .vals xs => xs
  | .live _ xs => xs
def Iter.ok : Iter → Hd → Prop
  | .vals _, _ => True
  | .live a xs, h => h[a]? = some (.lst xs)
def setAll : Sd → List Nat → List D → Sd
  | τ, i :: is, d :: ds => setAll (τ.set i (some d)) is ds
  | τ, _, _ => τ
def bindW (p : Pat) (d : D) (τ : Sd) (k : Sd → Prop) : Prop := match p with
  | .nm i => k (τ.set i (some d))
  | .tp is => match d with
    | .tup ds => ds.length = is.length ∧ k (setAll τ is ds)
    | _ => False
def Pat.ix : Pat → List Nat
  | .nm i => [i]
  | .tp is => is
def wipeD (τ : Sd) : List Nat → Sd
  | [] => τ
  | v :: vs => (wipeD τ vs).set v none
/-- the turns of a comprehension -/
def compW (ok : Hd → Prop) (p : Pat) (cond : TTd) (elt : TEd) (τ : Sd) (Q : List D → Hd → Prop) : List D → List D → Hd → Prop
  | [], acc, h => ok h ∧ Q acc h
  | x :: xs, acc, h => ok h ∧ bindW p x τ fun τ' => cond τ' h fun b h1 =>
      if b = true then elt τ' h1 fun y h2 => mat y h2 fun z h3 => acc.length < sizeLine ∧ compW ok p cond elt τ Q xs (acc ++ [z]) h3
      else compW ok p cond elt τ Q xs acc h1
abbrev CallD := Nat → List D → Hd → PD → Prop
abbrev TId := Sd → Hd → (Iter → Hd → Prop) → Prop
def rangeD (lo : Int) (n : Nat) : List D := (List.range n).map fun (i : Nat) => D.int (lo + (i : Int))
def chrs (x : Str) : List D := x.cps.toList.map fun c => D.str ⟨#[c]⟩
/-- the four readings of a piece of syntax: as a value, as a test, as arguments (true: each gets a place), as what is walked -/
structure RD where
  e : TEd
  t : TTd
  a : Bool → TAd
  i : TId
def tstOf (e : TEd) : TTd := fun τ h Q => e τ h fun d h' => match truth h' d with | some k => Q k h' | none => False
def itOf (e : TEd) : TId := fun τ h K => e τ h fun d h' => match d with
    | .tup xs => K (.vals xs) h'
    | .tl xs => K (.vals xs) h'
    | .rl xs => K (.vals xs) h'
    | .str x => x.length ≤ sizeLine ∧ K (.vals (chrs x)) h'
    | .loc a => match h'[a]? with
      | some (.lst xs) => K (.live a xs) h'
      | _ => False
    | _ => False
def mkR (e : TEd) : RD := ⟨e, tstOf e, fun _ _ _ _ => False, itOf e⟩
def varE (i : Nat) : TEd := fun τ h Q => match τ[i]? with | some (some d) => Q d h | _ => False
def cstE (d : D) : TEd := fun _ h Q => Q d h
def tupE (as : Bool → TAd) : TEd := fun τ h Q => as true τ h fun ds h' => ds.length ≤ sizeLine ∧ Q (.tup ds) h'
def lstE (as : Bool → TAd) : TEd := fun τ h Q => as true τ h fun ds h' => ds.length ≤ sizeLine ∧ Q (.tl ds) h'
def primE (p : Prim) (as : Bool → TAd) : TEd := fun τ h Q => as false τ h fun ds h' => wpP p ds h' Q
def methE (m : MP) (o : TEd) (as : Bool → TAd) : TEd := fun τ h Q => o τ h fun x h1 => tyM m h1 x ∧ as true τ h1 fun ds h2 => wpM m x ds h2 Q
def callE (cl : CallD) (f : Nat) (as : Bool → TAd) : TEd := fun τ h Q => as true τ h fun ds h' => cl f ds h' Q
def iteE (t : TTd) (a b : TEd) : TEd := fun τ h Q => t τ h fun k h' => if k = true then a τ h' Q else b τ h' Q
def andE (a b : TEd) : TEd := fun τ h Q => a τ h fun d h' => ∃ k, d = .bl k ∧ if k = true then b τ h' Q else Q (.bl false) h'
def orE (a b : TEd) : TEd := fun τ h Q => a τ h fun d h' => ∃ k, d = .bl k ∧ if k = true then Q (.bl true) h' else b τ h' Q
def notE (a : TEd) : TEd := fun τ h Q => a τ h fun d h' => ∃ k, d = .bl k ∧ Q (.bl (!k)) h'
def andT (a b : TTd) : TTd := fun τ h Q => a τ h fun k h' => if k = true then b τ h' Q else Q false h'
def orT (a b : TTd) : TTd := fun τ h Q => a τ h fun k h' => if k = true then Q true h' else b τ h' Q
def notT (a : TTd) : TTd := fun τ h Q => a τ h fun k h' => Q (!k) h'
def chainE (p q : Prim) (a b c : TEd) : TEd := fun τ h Q => a τ h fun x h1 => b τ h1 fun y h2 => wpP p [x, y] h2 fun r h3 => ∃ k, r = .bl k ∧
      if k = true then c τ h3 fun z h4 => wpP q [y, z] h4 Q else Q (.bl false) h3
def sl2E (a b c : TEd) : TEd := fun τ h Q => a τ h fun x h1 => b τ h1 fun y h2 => match y with
  | .int i => c τ h2 fun z h3 => match z with
    | .int j => slW x (some i) (some j) h3 Q
    | _ => False
  | _ => False
def compE (it : TId) (p : Pat) (cond : TTd) (elt : TEd) : TEd := fun τ h Q => it τ h fun w h1 => compW w.ok p cond elt (wipeD τ p.ix) (fun acc h2 => Q (.tl acc) h2) w.xs [] h1
def yesT : TTd := fun _ h Q => Q true h
def nilA : Bool → TAd := fun _ _ h Q => Q [] h
def consA (e : TEd) (r : Bool → TAd) : Bool → TAd
  | true => fun τ h Q => e τ h fun d h1 => mat d h1 fun d' h2 => r true τ h2 fun ds h3 => Q (d' :: ds) h3
  | false => fun τ h Q => e τ h fun d h1 => r false τ h1 fun ds h3 => Q (d :: ds) h3
def r1I (a : TEd) : TId := fun τ h K => a τ h fun d h' => match d with | .int n => (-(2 ^ 62) ≤ n ∧ n < 2 ^ 62) ∧ K (.vals (rangeD 0 n.toNat)) h' | _ => False
def r2I (a b : TEd) : TId := fun τ h K => a τ h fun x h1 => b τ h1 fun y h2 => match x, y with
    | .int i, .int j => (-(2 ^ 62) ≤ i ∧ i < 2 ^ 62 ∧ -(2 ^ 62) ≤ j ∧ j < 2 ^ 62) ∧ K (.vals (rangeD i (j - i).toNat)) h2
    | _, _ => False
def noE : TEd := fun _ _ _ => False
def globE (gl : List (Str × D)) (i : Nat) : TEd := fun _ h Q => match gl[i]? with | some (_, d) => Q d h | none => False
def wp (cl : CallD) (gl : List (Str × D)) : CE → RD
  | .var i => mkR (varE i)
  | .cst d => mkR (cstE d)
  | .glob i => mkR (globE gl i)
  | .tup as => mkR (tupE (wp cl gl as).a)
  | .lst as => mkR (lstE (wp cl gl as).a)
  | .prim p as => mkR (primE p (wp cl gl as).a)
  | .meth m o as => mkR (methE m (wp cl gl o).e (wp cl gl as).a)
  | .call f as => mkR (callE cl f (wp cl gl as).a)
  | .ife t a b => mkR (iteE (wp cl gl t).t (wp cl gl a).e (wp cl gl b).e)
  | .and_ a b => { mkR (andE (wp cl gl a).e (wp cl gl b).e) with t := andT (wp cl gl a).t (wp cl gl b).t }
  | .or_ a b => { mkR (orE (wp cl gl a).e (wp cl gl b).e) with t := orT (wp cl gl a).t (wp cl gl b).t }
  | .not_ a => { mkR (notE (wp cl gl a).e) with t := notT (wp cl gl a).t }
  | .chain p q a b c => mkR (chainE p q (wp cl gl a).e (wp cl gl b).e (wp cl gl c).e)
  | .sl2 a b c => mkR (sl2E (wp cl gl a).e (wp cl gl b).e (wp cl gl c).e)
  | .comp p it none _ elt => mkR (compE (wp cl gl it).i p yesT (wp cl gl elt).e)
  | .comp p it (some _) c elt => mkR (compE (wp cl gl it).i p (wp cl gl c).t (wp cl gl elt).e)
  | .anil => { mkR noE with a := nilA }
  | .acons e r => { mkR noE with a := consA (wp cl gl e).e (wp cl gl r).a }
  | .r1 a => { mkR noE with i := r1I (wp cl gl a).e }
  | .r2 a b => { mkR noE with i := r2I (wp cl gl a).e (wp cl gl b).e }
end Py

namespace Py
open PySem PySem.Spec PyProof.Rows L2

section
variable {K : PySem.W.Frag} {R : Nat → Addr} {h : Hd} {H G : Hp} {P : PD} {Q : VK} {d : D} {v : V}

theorem Post.here (p : Post K R h H P Q) (hr : HRel K H R h) (r : RT K H R h.length H d v) (q : P d h) : Q v H := p R h H d v .refl hr r q
theorem Post.int {i : Int} (p : Post K R h H P Q) (hr : HRel K H R h) (q : P (.int i) h) : Q (.int i) H := p.here hr (by rfl) q
theorem Post.bl {i : Bool} (p : Post K R h H P Q) (hr : HRel K H R h) (q : P (.bl i) h) : Q (.bl i) H := p.here hr (by rfl) q
theorem Post.str {i : Str} (p : Post K R h H P Q) (hr : HRel K H R h) (q : P (.str i) h) : Q (.str i) H := p.here hr (by rfl) q
theorem Post.non (p : Post K R h H P Q) (hr : HRel K H R h) (q : P .non h) : Q .non H := p.here hr (by rfl) q

theorem rd_upd {a p : Addr} {o u : HO} (hp : H p = none) (r : Rd H a u) : Rd (upd H p o) a u := by
  rcases r with r | ⟨ob, r⟩
  · exact .inl (by rw [upd_ne (ne_of_none r hp)]; exact r)
  · exact .inr ⟨ob, by rw [upd_ne (ne_of_none r hp)]; exact r⟩
theorem sqT_upd {a p : Addr} {o : HO} {vs : List V} (hp : H p = none) (r : SqT K H a vs) : SqT K (upd H p o) a vs := r.imp (rd_upd hp) id
theorem sqL_upd {a p : Addr} {o : HO} {vs : List V} (hp : H p = none) (r : SqL K H a vs) : SqL K (upd H p o) a vs := r.imp (rd_upd hp) id
theorem fzL_upd {a p : Addr} {o : HO} {vs : List V} (hp : H p = none) (r : FzL K H a vs) : FzL K (upd H p o) a vs :=
  r.imp (fun ⟨ob, r⟩ => ⟨ob, by rw [upd_ne (ne_of_none r hp)]; exact r⟩) id
theorem Ext.laid {p : Addr} {o : HO} (hp : H p = none) : Ext K R h H R h (upd H p o) where
  len := Nat.le_refl _
  agr := fun _ _ => rfl
  fresh := fun i h1 h2 => absurd h2 (Nat.not_lt.mpr h1)
  frame := fun a o e _ => by rw [upd_ne (ne_of_none e hp)]; exact e
  stay := fun a o e => ⟨o, by rw [upd_ne (ne_of_none e hp)]; exact e⟩
  tup := fun a vs r => sqT_upd hp r
  frz := fun a vs r => fzL_upd hp r
theorem HRel.laid {p : Addr} {o : HO} (hr : HRel K H R h) (hp : H p = none) : HRel K (upd H p o) R h := by
  refine ⟨hr.inj, fun i ob e => ?_⟩
  have x := hr.obj i ob e
  have E : Ext K R h H R h (upd H p o) := .laid hp
  cases ob with
  | lst ds =>
    obtain ⟨vs, a, b⟩ := x
    exact ⟨vs, by rw [upd_ne (ne_of_none a hp)]; exact a, E.r0s b⟩
  | dct tk ks vs =>
    have x' : dcRel K H R h.length tk ks vs (H (R i)) := x
    show dcRel K (upd H p o) R h.length tk ks vs (upd H p o (R i))
    have hne : R i ≠ p := by
      rcases x' with ⟨_, kvs, a, _⟩ | ⟨_, kvs, a, _⟩ <;> exact ne_of_none a hp
    rw [upd_ne hne]
    exact x'.ext E
  | ins c fs => exact x
/-- a new thing at p is none of the places -/
theorem HRel.nep {p : Addr} (hr : HRel K H R h) (hp : H p = none) : ∀ i, i < h.length → R i ≠ p := fun i hi => by
  have e : h[i]? = some h[i] := List.getElem?_eq_getElem hi
  have x := hr.obj i _ e
  generalize hob : h[i] = ob at x e
  cases ob with
  | lst ds => obtain ⟨vs, a, _⟩ := x; exact ne_of_none a hp
  | dct tk ks vs =>
    rcases x with ⟨_, kvs, a, _⟩ | ⟨_, kvs, a, _⟩ <;> exact ne_of_none a hp
  | ins c fs => exact x.elim

theorem rd_wr {a p : Addr} {o u w : HO} (hp : H p = some w) (nu : w ≠ u) (nf : ∀ ob, w ≠ .frz ob u) (r : Rd H a u) : Rd (upd H p o) a u := by
  rcases r with r | ⟨ob, r⟩
  · exact .inl (by rw [upd_ne (ne_of r hp (Ne.symm nu))]; exact r)
  · exact .inr ⟨ob, by rw [upd_ne (ne_of r hp (Ne.symm (nf ob)))]; exact r⟩
/-- what may be written (no tuple, nothing frozen) -/
def Wr : HO → Prop
  | .lst _ => True
  | .dK _ => True
  | .dT _ => True
  | .set _ _ => True
  | .ins _ _ _ => True
  | _ => False
theorem Ext.put {i : Nat} {o : HO} {u : DO} {w : HO} (hr : HRel K H R h) (hi : i < h.length) (hw : H (R i) = some w) (wr : Wr w) : Ext K R h H R (h.set i u) (upd H (R i) o) where
  len := by simp
  agr := fun _ _ => rfl
  fresh := fun j h1 h2 => absurd h2 (by simpa using h1)
  frame := fun a ob e n => by rw [upd_ne (Ne.symm (n i hi))]; exact e
  stay := fun a ob e => by
    by_cases q : a = R i
    · exact ⟨o, by rw [q, upd_same]⟩
    · exact ⟨ob, by rw [upd_ne q]; exact e⟩
  tup := fun a vs r => r.imp (rd_wr hw (by intro z; subst z; exact wr) fun ob z => by subst z; exact wr) id
  frz := fun a vs r => r.imp (fun ⟨ob, r⟩ => ⟨ob, by rw [upd_ne (ne_of r hw (by intro z; subst z; exact wr))]; exact r⟩) id
/-- .. what stands there now as u -/
theorem HRel.put {i : Nat} {o : HO} {u : DO} {w : HO} (hr : HRel K H R h) (hi : i < h.length) (hw : H (R i) = some w) (wr : Wr w) (new : ORel K (upd H (R i) o) R (h.set i u).length (R i) u) :
    HRel K (upd H (R i) o) R (h.set i u) := by
  have E : Ext K R h H R (h.set i u) (upd H (R i) o) := .put hr hi hw wr
  refine ⟨fun a b ha hb e => hr.inj a b (by simpa using ha) (by simpa using hb) e, fun j ob e => ?_⟩
  by_cases hj : j = i
  · subst hj
    rw [List.getElem?_set_self hi] at e
    cases e
    exact new
  · rw [List.getElem?_set_ne (Ne.symm hj)] at e
    have hjl : j < h.length := (List.getElem?_eq_some_iff.mp e).1
    have ne : R j ≠ R i := fun z => hj (hr.inj j i hjl hi z)
    have x := hr.obj j ob e
    cases ob with
    | lst ds =>
      obtain ⟨vs, a, b⟩ := x
      exact ⟨vs, by rw [upd_ne ne]; exact a, E.r0s b⟩
    | dct tk ks vs =>
      show dcRel K (upd H (R i) o) R (h.set i u).length tk ks vs (upd H (R i) o (R j))
      rw [upd_ne ne]
      exact dcRel.ext E x
    | ins c fs => exact x
theorem HRel.lst {i : Nat} {ds : List D} (hr : HRel K H R h) (e : h[i]? = some (.lst ds)) : i < h.length ∧ ∃ vs, H (R i) = some (.lst vs) ∧ R0s K H R h.length ds vs :=
  ⟨(List.getElem?_eq_some_iff.mp e).1, hr.obj i _ e⟩

/-- a new list comes back -/
theorem Post.tl {p : Addr} {ds : List D} {vs : List V} (q : Post K R h H P Q) (hr : HRel K H R h) (hp : H p = none) (r : R0s K H R h.length ds vs) (w : P (.tl ds) h) : Q (.ref p) (upd H p (.lst vs)) := by
  have E : Ext K R h H R h (upd H p (.lst vs)) := .laid hp
  exact q R h _ (.tl ds) _ E (hr.laid hp) ⟨p, vs, rfl, hp, upd_same, E.r0s r, hr.nep hp⟩ w
/-- a new tuple comes back -/
theorem Post.tup {p : Addr} {ds : List D} {vs : List V} (q : Post K R h H P Q) (hr : HRel K H R h) (hp : H p = none) (r : R0s K H R h.length ds vs) (w : P (.tup ds) h) : Q (.ref p) (upd H p (.tup vs)) := by
  have E : Ext K R h H R h (upd H p (.tup vs)) := .laid hp
  refine q R h _ (.tup ds) _ E (hr.laid hp) ?_ w
  show R0 _ _ _ _ (.tup ds) _
  simp only [R0]
  exact ⟨p, vs, rfl, .inl (.inl upd_same), E.r0s r⟩
/-- what a list value is -/
theorem RT.lst (hr : HRel K H R h) (r : RT K H R h.length G d v) {xs : List D} (e : lstOf h d = some xs) : ∃ a vs, v = .ref a ∧ SqL K H a vs ∧ R0s K H R h.length xs vs := by
  cases d with
  | tl ds =>
    obtain ⟨a, vs, e1, _, q, r, _⟩ := r
    cases e
    exact ⟨a, vs, e1, .of q, r⟩
  | rl ds =>
    have r' : R0 K H R h.length (.rl ds) v := r
    simp only [R0] at r'
    obtain ⟨a, vs, e1, q, r⟩ := r'
    cases e
    exact ⟨a, vs, e1, q.sq, r⟩
  | loc i =>
    have r' : R0 K H R h.length (.loc i) v := r
    simp only [R0] at r'
    simp only [lstOf] at e
    split at e
    · rename_i ys e2
      cases e
      obtain ⟨_, vs, q, z⟩ := hr.lst e2
      exact ⟨R i, vs, r'.2, .of q, z⟩
    · cases e
  | _ => cases e
/-- a list that is not read-only -/
theorem RT.lstM (hr : HRel K H R h) (r : RT K H R h.length G d v) {xs : List D} (e : lstOf h d = some xs) (n : ∀ ys, d ≠ .rl ys) : ∃ a vs, v = .ref a ∧ H a = some (.lst vs) ∧ R0s K H R h.length xs vs := by
  cases d with
  | tl ds =>
    obtain ⟨a, vs, e1, _, q, r, _⟩ := r
    cases e
    exact ⟨a, vs, e1, q, r⟩
  | rl ds => exact absurd rfl (n ds)
  | loc i =>
    have r' : R0 K H R h.length (.loc i) v := r
    simp only [R0] at r'
    simp only [lstOf] at e
    split at e
    · rename_i ys e2
      cases e
      obtain ⟨_, vs, q, z⟩ := hr.lst e2
      exact ⟨R i, vs, r'.2, q, z⟩
    · cases e
  | _ => cases e
theorem RT.tup {xs : List D} (r : RT K H R h.length G (.tup xs) v) : ∃ a vs, v = .ref a ∧ SqT K H a vs ∧ R0s K H R h.length xs vs := by
  have r' : R0 K H R h.length (.tup xs) v := r
  simp only [R0] at r'
  exact r'
theorem RT.seq (hr : HRel K H R h) (r : RT K H R h.length G d v) {xs : List D} (e : seqOf h d = some xs) : ∃ a vs, v = .ref a ∧ (SqL K H a vs ∨ SqT K H a vs) ∧ R0s K H R h.length xs vs := by
  cases d with
  | tup ds =>
    cases e
    obtain ⟨a, vs, e1, q, r⟩ := r.tup
    exact ⟨a, vs, e1, .inr q, r⟩
  | _ =>
    obtain ⟨a, vs, e1, q, r⟩ := r.lst hr e
    exact ⟨a, vs, e1, .inl q, r⟩

def Sim1 (K : PySem.W.Frag) (r : V → Hp → VK → Prop) (p : D → Hd → PD → Prop) : Prop :=
  ∀ R h H G x v P Q, HRel K H R h → RT K H R h.length G x v → p x h P → Post K R h H P Q → r v H Q
def Sim2 (K : PySem.W.Frag) (r : R2) (p : D → D → Hd → PD → Prop) : Prop :=
  ∀ R h H G G' x y v u P Q, HRel K H R h → RT K H R h.length G x v → RT K H R h.length G' y u → p x y h P → Post K R h H P Q → r v u H Q
end
end Py

namespace Py
open PySem PySem.Spec PyProof.Rows L2

section
variable {K : PySem.W.Frag} {R : Nat → Addr} {h : Hd} {H G : Hp} {P : PD} {Q : VK} {d : D} {v : V}
theorem RT.intE {i : Int} (r : RT K H R h.length G (.int i) v) : v = .int i := r
theorem RT.blE {i : Bool} (r : RT K H R h.length G (.bl i) v) : v = .bl i := r
theorem RT.strE {i : Str} (r : RT K H R h.length G (.str i) v) : v = .str i := r
theorem RT.nonE (r : RT K H R h.length G .non v) : v = .non := r
theorem mutOf_of {d : D} {xs : List D} (e : mutOf h d = some xs) : lstOf h d = some xs ∧ ∀ ys, d ≠ .rl ys := by
  cases d with
  | rl ys => cases e
  | _ => exact ⟨e, fun ys z => by cases z⟩
theorem RT.mlst (hr : HRel K H R h) (r : RT K H R h.length G d v) {xs : List D} (e : mutOf h d = some xs) : ∃ a vs, v = .ref a ∧ H a = some (.lst vs) ∧ R0s K H R h.length xs vs :=
  let ⟨a, b⟩ := mutOf_of e
  r.lstM hr a b
theorem R0s_nil_iff {xs : List D} {vs : List V} (r : R0s K H R h.length xs vs) : vs = [] ↔ xs = [] := by
  have := R0s_len r
  constructor
  · intro e; subst e; exact List.eq_nil_of_length_eq_zero this
  · intro e; subst e; exact List.eq_nil_of_length_eq_zero this.symm
end

def rAddD (K : PySem.W.Frag) : R2 := fun x y H Q => rI0 (fun i j => .int (i + j)) x y H Q ∨ (∃ i j, x = .str i ∧ y = .str j ∧ i.length + j.length ≤ sizeLine ∧ Q (.str (i ++ j)) H) ∨ rCatA K x y H Q ∨ rCat x y H Q
theorem ok_add {X : Cx} : OpR X (binaryOp .Add) (rAddD X.K) := op_add.or (op_add_str.or (op_catA.or op_cat))
theorem sim_add {K : PySem.W.Frag} : Sim2 K (rAddD K) addW := by
  intro R h H G G' x y v u P Q hr rx ry w p
  unfold addW at w
  split at w
  · cases rx.intE; cases ry.intE
    exact .inl ⟨_, _, rfl, rfl, p.int hr w⟩
  · cases rx.strE; cases ry.strE
    exact .inr (.inl ⟨_, _, rfl, rfl, w.1, p.str hr w.2⟩)
  · rename_i as bs
    obtain ⟨a, vs, rfl, ha, ra⟩ := rx.tup
    obtain ⟨b, us, rfl, hb, rb⟩ := ry.tup
    refine .inr (.inr (.inl ⟨a, b, vs, us, rfl, rfl, ha, hb, by rw [← R0s_len ra, ← R0s_len rb]; exact w.1, fun e => ?_, fun e1 e2 => ?_, fun e1 e2 q hq => ?_⟩))
    · have e' := (R0s_nil_iff ra).mp e
      subst e'
      exact p.here (d := .tup bs) hr (by show R0 _ _ _ _ (.tup bs) _; simp only [R0]; exact ⟨b, us, rfl, hb, rb⟩) (by simpa using w.2)
    · have e' := (R0s_nil_iff rb).mp e2
      subst e'
      exact p.here (d := .tup as) hr (by show R0 _ _ _ _ (.tup as) _; simp only [R0]; exact ⟨a, vs, rfl, ha, ra⟩) (by simpa using w.2)
    · exact p.tup hr hq (R0s_append ra rb) w.2
  · split at w
    · rename_i as bs ea eb
      obtain ⟨a, vs, rfl, ha, ra⟩ := rx.mlst hr ea
      obtain ⟨b, us, rfl, hb, rb⟩ := ry.mlst hr eb
      exact .inr (.inr (.inr ⟨a, b, vs, us, rfl, rfl, ha, hb, by rw [← R0s_len ra, ← R0s_len rb]; exact w.1, fun q hq => p.tl hr hq (R0s_append ra rb) w.2⟩))
    · exact w.elim
theorem sim_sub {K : PySem.W.Frag} : Sim2 K (rI0 fun i j => .int (i - j)) subW := by
  intro R h H G G' x y v u P Q hr rx ry w p
  unfold subW at w
  split at w
  · cases rx.intE; cases ry.intE
    exact ⟨_, _, rfl, rfl, p.int hr w⟩
  · exact w.elim
def rSameT (K : PySem.W.Frag) : R2 := fun x y H Q => ∃ l k xs, x = .ref l ∧ y = .int k ∧ SqT K H l xs ∧ (xs = [] ∨ k = 1) ∧ -(2 ^ 63) ≤ k ∧ k < 2 ^ 63 ∧ Q (.ref l) H
def rNoneT (K : PySem.W.Frag) : R2 := fun x y H Q => ∃ l k xs, x = .ref l ∧ y = .int k ∧ SqT K H l xs ∧ xs ≠ [] ∧ k ≤ 0 ∧ -(2 ^ 63) ≤ k ∧ ∀ p, H p = none → Q (.ref p) (upd H p (.tup []))
def rMulD (K : PySem.W.Frag) : R2 := fun x y H Q => rI CMul (fun i j => .int (i * j)) x y H Q ∨ rI CMulW (fun i j => .int (i * j)) x y H Q ∨ (rSameT K x y H Q ∨ rNoneT K x y H Q ∨ rRepT K x y H Q) ∨ rRep x y H Q
theorem ok_mul {X : Cx} : OpR X (binaryOp .Mult) (rMulD X.K) := op_mul.or (op_mulW.or ((OpR.or (r := rSameT X.K) op_same (OpR.or (r := rNoneT X.K) op_none op_repT)).or op_rep))
theorem sim_mul {K : PySem.W.Frag} : Sim2 K (rMulD K) mulW := by
  intro R h H G G' x y v u P Q hr rx ry w p
  unfold mulW at w
  split at w
  · cases rx.intE; cases ry.intE
    obtain ⟨c | c, w⟩ := w
    · exact .inl ⟨_, _, rfl, rfl, c, p.int hr w⟩
    · exact .inr (.inl ⟨_, _, rfl, rfl, c, p.int hr w⟩)
  · obtain ⟨a, vs, rfl, ha, ra⟩ := rx.tup
    cases ry.intE
    rename_i ds k
    obtain ⟨⟨c2, c3, c4⟩, w⟩ := w
    refine .inr (.inr (.inl ?_))
    by_cases hs : vs = [] ∨ k = 1
    · refine .inl ⟨a, _, vs, rfl, rfl, ha, hs, c2, by omega, p.here (d := .tup ds) hr ?_ ?_⟩
      · show R0 K H R h.length (.tup ds) _
        simp only [R0]
        exact ⟨a, vs, rfl, ha, ra⟩
      · have e : (List.replicate k.toNat ds).flatten = ds := by
          rcases hs with z | rfl
          · rw [(R0s_nil_iff ra).mp z]
            simp
          · simp
        rw [e] at w
        exact w
    · have hv : vs ≠ [] := fun z => hs (.inl z)
      by_cases hk : k ≤ 0
      · refine .inr (.inl ⟨a, _, vs, rfl, rfl, ha, hv, hk, c2, fun q hq => p.tup hr hq (ds := []) (by simp only [R0s]) ?_⟩)
        have e : k.toNat = 0 := by omega
        rw [e] at w
        exact w
      · exact .inr (.inr ⟨a, _, vs, rfl, rfl, ha, hv, by have : k ≠ 1 := fun z => hs (.inr z); omega, c3, by rw [← R0s_len ra]; exact c4, fun q hq => p.tup hr hq (R0s_flat ra _) w⟩)
  · split at w
    · rename_i as ea
      obtain ⟨a, vs, rfl, ha, ra⟩ := rx.mlst hr ea
      cases ry.intE
      obtain ⟨c1, c2, c3, w⟩ := w
      exact .inr (.inr (.inr ⟨a, _, vs, rfl, rfl, ha, c2, c3, by rw [← R0s_len ra]; exact c1, fun q hq => p.tl hr hq (R0s_flat ra _) w⟩))
    · exact w.elim
  · exact w.elim
def rDivD : R2 := rI (fun _ j => divOk j) fun i j => .int (i.fdiv j)
theorem ok_fdiv {X : Cx} : OpR X (binaryOp .FloorDiv) rDivD := opI fun _ _ _ _ _ _ _ hc q => floordiv_int hc.1 q (.inl (PyProof.noPylong_of_log2 hc.2))
theorem sim_fdiv {K : PySem.W.Frag} : Sim2 K rDivD fdivW := by
  intro R h H G G' x y v u P Q hr rx ry w p
  unfold fdivW at w
  split at w
  · cases rx.intE; cases ry.intE
    exact ⟨_, _, rfl, rfl, w.1, p.int hr w.2⟩
  · exact w.elim
theorem sim_mod {K : PySem.W.Frag} : Sim2 K (rI (fun _ j => j ≠ 0) fun i j => .int (i.fmod j)) modW := by
  intro R h H G G' x y v u P Q hr rx ry w p
  unfold modW at w
  split at w
  · cases rx.intE; cases ry.intE
    exact ⟨_, _, rfl, rfl, w.1, p.int hr w.2⟩
  · exact w.elim
theorem sim_pow {K : PySem.W.Frag} : Sim2 K (rI CPow fun i j => .int (i ^ j.toNat)) powW := by
  intro R h H G G' x y v u P Q hr rx ry w p
  unfold powW at w
  split at w
  · cases rx.intE; cases ry.intE
    exact ⟨_, _, rfl, rfl, w.1, p.int hr w.2⟩
  · exact w.elim
theorem sim_neg {K : PySem.W.Frag} : Sim1 K (rU fun i => .int (-i)) negW := by
  intro R h H G x v P Q hr rx w p
  unfold negW at w
  split at w
  · cases rx.intE
    exact ⟨_, rfl, p.int hr w⟩
  · exact w.elim

/-! ### comparisons -/
theorem sim_ord {K : PySem.W.Frag} {f : Int → Int → Bool} : Sim2 K (rI0 fun i j => .bl (f i j)) (fun x y h Q => ordW f x y h (bo Q)) := by
  intro R h H G G' x y v u P Q hr rx ry w p
  have w := w
  unfold ordW at w
  split at w
  · cases rx.intE; cases ry.intE
    exact ⟨_, _, rfl, rfl, p.bl hr w⟩
  · exact w.elim
mutual
theorem dp_of {K : PySem.W.Frag} {H : Hp} {R : Nat → Addr} {n : Nat} : ∀ (d : D) (v : V), d.pure = true → R0 K H R n d v → Dp K H v d.pd
  | .non, v, _, r => by simp only [R0] at r; subst r; exact .non
  | .bl b, v, _, r => by simp only [R0] at r; subst r; exact .bl b
  | .int b, v, _, r => by simp only [R0] at r; subst r; exact .int b
  | .str b, v, _, r => by simp only [R0] at r; subst r; exact .str b
  | .tup ds, v, p, r => by
    simp only [R0] at r
    simp only [D.pure] at p
    obtain ⟨a, vs, rfl, q, r⟩ := r
    simp only [D.pd]
    exact .tup q (dps_of ds vs p r)
  | .loc _, v, p, _ => by simp [D.pure] at p
  | .tl _, v, p, _ => by simp [D.pure] at p
  | .td _ _ _, v, p, _ => by simp [D.pure] at p
  | .rl _, v, p, _ => by simp [D.pure] at p
theorem dps_of {K : PySem.W.Frag} {H : Hp} {R : Nat → Addr} {n : Nat} : ∀ (ds : List D) (vs : List V), D.pures ds = true → R0s K H R n ds vs → DpAll K H vs (D.pds ds)
  | [], vs, _, r => by simp only [R0s] at r; subst r; exact .nil
  | d :: ds, vs, p, r => by
    simp only [R0s] at r
    simp only [D.pures, Bool.and_eq_true] at p
    obtain ⟨v, us, rfl, r1, r2⟩ := r
    simp only [D.pds]
    exact .cons (dp_of d v p.1 r1) (dps_of ds us p.2 r2)
end
theorem RT.pureR {K : PySem.W.Frag} {H G : Hp} {R : Nat → Addr} {n : Nat} {d : D} {v : V} (p : d.pure = true) (r : RT K H R n G d v) : R0 K H R n d v := by
  cases d with
  | tl _ => simp [D.pure] at p
  | td _ _ _ => simp [D.pure] at p
  | _ => exact r
theorem snap_dp {K : PySem.W.Frag} {H G : Hp} {R : Nat → Addr} {h : Hd} {d : D} {v : V} {q : PyData} (hr : HRel K H R h) (r : RT K H R h.length G d v) (e : snap h d = some q) : Dp K H v q := by
  unfold snap at e
  split at e
  · rename_i p
    cases e
    exact dp_of d v p (r.pureR p)
  · split at e
    · rename_i xs ex
      split at e
      · rename_i p
        cases e
        obtain ⟨a, vs, rfl, s, z⟩ := r.lst hr ex
        exact .lst s (dps_of xs vs p z)
      · cases e
    · cases e
theorem dV_int {i j : Int} : decide (V.int i = V.int j) = decide (i = j) := by simp
theorem dV_str {i j : Str} : decide (V.str i = V.str j) = decide (i = j) := by simp
theorem dV_bl {i j : Bool} : decide (V.bl i = V.bl j) = decide (i = j) := by simp
def rEqA (K : PySem.W.Frag) : R2 := fun x y H Q => rEq x y H Q ∨ rEqD K x y H Q
def rNeA (K : PySem.W.Frag) : R2 := fun x y H Q => rNe x y H Q ∨ rNeD K x y H Q
theorem sim_eq {K : PySem.W.Frag} : Sim2 K (rEqA K) (fun x y h Q => eqW x y h (bo Q)) := by
  intro R h H G G' x y v u P Q hr rx ry w p
  have w := w
  unfold eqW at w
  split at w
  · cases rx.intE; cases ry.intE
    refine .inl ⟨rfl, ?_⟩
    rw [dV_int]
    exact p.bl hr w
  · cases rx.strE; cases ry.strE
    refine .inl ⟨rfl, ?_⟩
    rw [dV_str]
    exact p.bl hr w
  · cases rx.blE; cases ry.blE
    refine .inl ⟨rfl, ?_⟩
    rw [dV_bl]
    exact p.bl hr w
  · split at w
    · rename_i a b ea eb
      exact .inr ⟨a, b, snap_dp hr rx ea, snap_dp hr ry eb, w.1, w.2.1, p.bl hr w.2.2⟩
    · exact w.elim
theorem sim_ne {K : PySem.W.Frag} : Sim2 K (rNeA K) (fun x y h Q => eqW x y h (bon Q)) := by
  intro R h H G G' x y v u P Q hr rx ry w p
  have w := w
  unfold eqW at w
  split at w
  · cases rx.intE; cases ry.intE
    refine .inl ⟨rfl, ?_⟩
    rw [dV_int]
    exact p.bl hr w
  · cases rx.strE; cases ry.strE
    refine .inl ⟨rfl, ?_⟩
    rw [dV_str]
    exact p.bl hr w
  · cases rx.blE; cases ry.blE
    refine .inl ⟨rfl, ?_⟩
    rw [dV_bl]
    exact p.bl hr w
  · split at w
    · rename_i a b ea eb
      exact .inr ⟨a, b, snap_dp hr rx ea, snap_dp hr ry eb, w.1, w.2.1, p.bl hr w.2.2⟩
    · exact w.elim

/-! ### is, in -/
def isNonV : V → Bool
  | .non => true | _ => false
def isBlV (b : Bool) : V → Bool
  | .bl c => c == b | _ => false
def rIsA : R2 := fun x y H Q => (y = .non ∧ Q (.bl (isNonV x)) H) ∨ (∃ b, y = .bl b ∧ Q (.bl (isBlV b x)) H)
def rIsNotA : R2 := fun x y H Q => (y = .non ∧ Q (.bl (!isNonV x)) H) ∨ (∃ b, y = .bl b ∧ Q (.bl (!isBlV b x)) H)
theorem plainIs_bool {x : V} {v : Value} {b : Bool} (r : RelV x v) (nt : ∀ n, x ≠ .ty n) : plainIs v (.bool b) = true ∧ (v == Value.bool b) = isBlV b x := by
  cases x with
  | non => cases r; exact ⟨rfl, rfl⟩
  | bl c => cases r; exact ⟨rfl, by cases c <;> cases b <;> rfl⟩
  | int i => obtain ⟨t, rfl⟩ := r; exact ⟨rfl, rfl⟩
  | str i => obtain ⟨t, rfl⟩ := r; exact ⟨rfl, rfl⟩
  | byt i => obtain ⟨t, rfl⟩ := r; exact ⟨rfl, rfl⟩
  | flt i => obtain ⟨t, rfl⟩ := r; exact ⟨rfl, rfl⟩
  | ref i => cases r; exact ⟨rfl, rfl⟩
  | ty n => exact absurd rfl (nt n)
theorem ok_is {X : Cx} : OpR X (compareOp .Is) (fun x y H Q => (∀ n, x ≠ .ty n) ∧ rIsA x y H Q) := by
  intro pins s σ H x y v u Q I rx ry h
  obtain ⟨nt, h⟩ := h
  rcases h with ⟨rfl, q⟩ | ⟨b, rfl, q⟩
  · cases ry
    refine is_none_gen (fin_bl I q ?_)
    cases x <;> first
      | (cases rx; rfl)
      | (obtain ⟨t, rfl⟩ := rx; rfl)
  · cases ry
    obtain ⟨a, e⟩ := plainIs_bool (b := b) rx nt
    refine wpAny_is_plain a ?_
    rw [e]
    exact fin_bl I q rfl
theorem ok_isnot {X : Cx} : OpR X (compareOp .IsNot) (fun x y H Q => (∀ n, x ≠ .ty n) ∧ rIsNotA x y H Q) := by
  intro pins s σ H x y v u Q I rx ry h
  obtain ⟨nt, h⟩ := h
  rcases h with ⟨rfl, q⟩ | ⟨b, rfl, q⟩
  · cases ry
    refine isnot_none_gen (fin_bl I q ?_)
    cases x <;> first
      | (cases rx; rfl)
      | (obtain ⟨t, rfl⟩ := rx; rfl)
  · cases ry
    obtain ⟨a, e⟩ := plainIs_bool (b := b) rx nt
    refine wpAny_isNot_plain a ?_
    rw [e]
    exact fin_bl I q rfl
theorem RT.noty {K : PySem.W.Frag} {H G : Hp} {R : Nat → Addr} {m : Nat} {d : D} {v : V} (r : RT K H R m G d v) : ∀ n, v ≠ .ty n := by
  intro n e
  subst e
  cases d with
  | tl _ => obtain ⟨_, _, e, _⟩ := r; cases e
  | td _ _ _ => obtain ⟨_, e, _⟩ := r; cases e
  | tup ds => have r' : R0 K H R m (.tup ds) _ := r; simp only [R0] at r'; obtain ⟨_, _, e, _⟩ := r'; cases e
  | rl ds => have r' : R0 K H R m (.rl ds) _ := r; simp only [R0] at r'; obtain ⟨_, _, e, _⟩ := r'; cases e
  | loc i => have r' : R0 K H R m (.loc i) _ := r; simp only [R0] at r'; cases r'.2
  | _ => have r' := r; simp only [RT, R0] at r'; cases r'
theorem RT.isn {K : PySem.W.Frag} {H G : Hp} {R : Nat → Addr} {m : Nat} {d : D} {v : V} (r : RT K H R m G d v) : isNonV v = isNonD d := by
  cases d with
  | tl _ => obtain ⟨_, _, e, _⟩ := r; subst e; rfl
  | td _ _ _ => obtain ⟨_, e, _⟩ := r; subst e; rfl
  | tup ds => have r' : R0 K H R m (.tup ds) _ := r; simp only [R0] at r'; obtain ⟨_, _, e, _⟩ := r'; subst e; rfl
  | rl ds => have r' : R0 K H R m (.rl ds) _ := r; simp only [R0] at r'; obtain ⟨_, _, e, _⟩ := r'; subst e; rfl
  | loc i => have r' : R0 K H R m (.loc i) _ := r; simp only [R0] at r'; rw [r'.2]; rfl
  | _ => have r' := r; simp only [RT, R0] at r'; subst r'; rfl
theorem RT.isb {K : PySem.W.Frag} {H G : Hp} {R : Nat → Addr} {m : Nat} {d : D} {v : V} {b : Bool} (r : RT K H R m G d v) : isBlV b v = isBlD b d := by
  cases d with
  | tl _ => obtain ⟨_, _, e, _⟩ := r; subst e; rfl
  | td _ _ _ => obtain ⟨_, e, _⟩ := r; subst e; rfl
  | tup ds => have r' : R0 K H R m (.tup ds) _ := r; simp only [R0] at r'; obtain ⟨_, _, e, _⟩ := r'; subst e; rfl
  | rl ds => have r' : R0 K H R m (.rl ds) _ := r; simp only [R0] at r'; obtain ⟨_, _, e, _⟩ := r'; subst e; rfl
  | loc i => have r' : R0 K H R m (.loc i) _ := r; simp only [R0] at r'; rw [r'.2]; rfl
  | _ => have r' := r; simp only [RT, R0] at r'; subst r'; rfl
theorem sim_is {K : PySem.W.Frag} : Sim2 K (fun x y H Q => (∀ n, x ≠ .ty n) ∧ rIsA x y H Q) (fun x y h Q => isW x y h (bo Q)) := by
  intro R h H G G' x y v u P Q hr rx ry w p
  have w := w
  unfold isW at w
  refine ⟨rx.noty, ?_⟩
  split at w
  · cases ry.nonE
    exact .inl ⟨rfl, by rw [rx.isn]; exact p.bl hr w⟩
  · cases ry.blE
    exact .inr ⟨_, rfl, by rw [rx.isb]; exact p.bl hr w⟩
  · exact w.elim
theorem sim_isnot {K : PySem.W.Frag} : Sim2 K (fun x y H Q => (∀ n, x ≠ .ty n) ∧ rIsNotA x y H Q) (fun x y h Q => isW x y h (bon Q)) := by
  intro R h H G G' x y v u P Q hr rx ry w p
  have w := w
  unfold isW at w
  refine ⟨rx.noty, ?_⟩
  split at w
  · cases ry.nonE
    exact .inl ⟨rfl, by rw [rx.isn]; exact p.bl hr w⟩
  · cases ry.blE
    exact .inr ⟨_, rfl, by rw [rx.isb]; exact p.bl hr w⟩
  · exact w.elim
def toV : D → V
  | .non => .non | .bl b => .bl b | .int i => .int i | .str x => .str x | _ => .non
theorem R0.flat {K : PySem.W.Frag} {H : Hp} {R : Nat → Addr} {n : Nat} {d : D} {v : V} (f : flatD d = true) (r : R0 K H R n d v) : v = toV d ∧ flatV v = true := by
  cases d with
  | non => simp only [R0] at r; subst r; exact ⟨rfl, rfl⟩
  | bl _ => simp only [R0] at r; subst r; exact ⟨rfl, rfl⟩
  | int _ => simp only [R0] at r; subst r; exact ⟨rfl, rfl⟩
  | str _ => simp only [R0] at r; subst r; exact ⟨rfl, rfl⟩
  | _ => cases f
theorem RT.flat {K : PySem.W.Frag} {H G : Hp} {R : Nat → Addr} {n : Nat} {d : D} {v : V} (f : flatD d = true) (r : RT K H R n G d v) : R0 K H R n d v := by
  cases d with
  | tl _ => cases f
  | td _ _ _ => cases f
  | _ => exact r
theorem feq_eqV {a b : D} (fa : flatD a = true) (fb : flatD b = true) (h1 : ¬ (flatB b = true ∧ flatI a = true)) (h2 : ¬ (flatI b = true ∧ flatB a = true)) : eqV (toV a) (toV b) = feq a b := by
  cases a <;> first | (cases fa; done) | (cases b <;> first | (cases fb; done) | rfl | exact absurd ⟨rfl, rfl⟩ h1 | exact absurd ⟨rfl, rfl⟩ h2)
theorem any_feq {K : PySem.W.Frag} {H : Hp} {R : Nat → Addr} {n : Nat} {x : D} {v : V} (fx : flatD x = true) (rx : R0 K H R n x v) : ∀ {ys : List D} {us : List V}, R0s K H R n ys us → ys.all flatD = true →
    ¬ (flatB x = true ∧ ys.any flatI = true) → ¬ (flatI x = true ∧ ys.any flatB = true) → us.all flatV = true ∧ inV v us = ys.any fun z => feq z x
  | [], us, r, _, _, _ => by simp only [R0s] at r; subst r; exact ⟨rfl, rfl⟩
  | y :: ys, us, r, f, h1, h2 => by
    simp only [R0s] at r
    obtain ⟨u, us', rfl, r1, r2⟩ := r
    rw [List.all_cons, Bool.and_eq_true] at f
    rw [List.any_cons, Bool.or_eq_true] at h1 h2
    obtain ⟨e1, e2⟩ := any_feq fx rx r2 f.2 (fun z => h1 ⟨z.1, .inr z.2⟩) (fun z => h2 ⟨z.1, .inr z.2⟩)
    obtain ⟨ev, fv⟩ := rx.flat fx
    obtain ⟨eu, fu⟩ := r1.flat f.1
    refine ⟨by rw [List.all_cons, fu, e1]; rfl, ?_⟩
    unfold inV at e2 ⊢
    rw [List.any_cons, List.any_cons, e2, ev, eu, feq_eqV f.1 fx (fun z => h1 ⟨z.1, .inl z.2⟩) (fun z => h2 ⟨z.1, .inl z.2⟩)]
theorem sim_in {K : PySem.W.Frag} : Sim2 K (rIn K false) (fun x y h Q => inW x y h (bo Q)) := by
  intro R h H G G' x y v u P Q hr rx ry w p
  have w := w
  unfold inW at w
  split at w
  · rename_i ys e
    obtain ⟨⟨f1, f2, f3, f4⟩, w⟩ := w
    obtain ⟨a, vs, rfl, q, r⟩ := ry.seq hr e
    have rx' := rx.flat f1
    obtain ⟨e1, e2⟩ := any_feq f1 rx' r f2 f3 f4
    refine ⟨a, vs, rfl, q, (rx'.flat f1).2, e1, ?_⟩
    rw [if_neg Bool.false_ne_true, e2]
    exact p.bl hr w
  · exact w.elim
theorem sim_notin {K : PySem.W.Frag} : Sim2 K (rIn K true) (fun x y h Q => inW x y h (bon Q)) := by
  intro R h H G G' x y v u P Q hr rx ry w p
  have w := w
  unfold inW at w
  split at w
  · rename_i ys e
    obtain ⟨⟨f1, f2, f3, f4⟩, w⟩ := w
    obtain ⟨a, vs, rfl, q, r⟩ := ry.seq hr e
    have rx' := rx.flat f1
    obtain ⟨e1, e2⟩ := any_feq f1 rx' r f2 f3 f4
    refine ⟨a, vs, rfl, q, (rx'.flat f1).2, e1, ?_⟩
    rw [if_pos rfl, e2]
    exact p.bl hr w
  · exact w.elim

/-! ### places, slices -/
theorem atI_rel {K : PySem.W.Frag} {H : Hp} {R : Nat → Addr} {n : Nat} {xs : List D} {vs : List V} {i : Int} {d : D} (r : R0s K H R n xs vs) (e : atI xs i = some d) : ∃ v, atI vs i = some v ∧ R0 K H R n d v := by
  unfold atI at e ⊢
  rw [← R0s_len r]
  cases q : ixN xs.length i with
  | none => rw [q] at e; cases e
  | some j =>
    rw [q] at e
    exact R0s_get r e
theorem RT.int_iff {K : PySem.W.Frag} {H G : Hp} {R : Nat → Addr} {n : Nat} {d : D} {v : V} (r : RT K H R n G d v) {i : Int} (e : d = .int i) : v = .int i := by subst e; exact r
theorem sim_idx {K : PySem.W.Frag} : Sim2 K (rIx K) idxW := by
  intro R h H G G' x y v u P Q hr rx ry w p
  unfold idxW at w
  split at w
  · rename_i i
    cases ry.intE
    split at w
    · cases rx.strE
      obtain ⟨hz, w⟩ := w
      split at w
      · rename_i c e
        exact .inr (.inr ⟨_, _, c, rfl, rfl, hz, e, p.str hr w⟩)
      · exact w.elim
    · split at w
      · rename_i xs e
        split at w
        · rename_i d e2
          obtain ⟨a, vs, rfl, q, r⟩ := rx.seq hr e
          obtain ⟨v, ev, rv⟩ := atI_rel r e2
          rcases q with q | q
          · exact .inl ⟨a, vs, _, v, rfl, rfl, q, ev, p.here hr (.of rv) w⟩
          · exact .inr (.inl ⟨a, vs, _, v, rfl, rfl, q, ev, p.here hr (.of rv) w⟩)
        · exact w.elim
      · exact w.elim
  · exact w.elim
theorem cut_rel {K : PySem.W.Frag} {H : Hp} {R : Nat → Addr} {n : Nat} {xs : List D} {vs : List V} {lo hi : Option Int} (r : R0s K H R n xs vs) : R0s K H R n (cutD xs lo hi) (cutV vs lo hi) := by
  unfold cutD cutV
  rw [R0s_len r]
  exact R0s_take _ (R0s_drop _ r)
theorem cut_all {xs : List D} {lo hi : Option Int} (h : HT.sIx xs.length 0 lo = 0 ∧ HT.sIx xs.length xs.length hi = xs.length) : cutD xs lo hi = xs := by
  unfold cutD
  rw [h.1, h.2]
  simp
def rSlD (K : PySem.W.Frag) : V → Option Int → Option Int → Hp → VK → Prop := fun x lo hi H Q => rSlA K x lo hi H Q ∨ rSlL K x lo hi H Q
theorem ok_sl {X : Cx} : SlR X (rSlD X.K) := sl_tupA.or sl_list
theorem sim_sl {K : PySem.W.Frag} {lo hi : Option Int} : Sim1 K (fun x H Q => rSlD K x lo hi H Q) (fun x h Q => slW x lo hi h Q) := by
  intro R h H G x v P Q hr rx w p
  have w := w
  unfold slW at w
  split at w
  · obtain ⟨a, vs, rfl, q, r⟩ := rx.tup
    refine .inl ⟨a, vs, rfl, q, fun e => ?_, fun _ b hb => p.tup hr hb (cut_rel r) w⟩
    rw [← R0s_len r] at e
    rw [cut_all e] at w
    exact p.here hr (RT.of (show R0 K H R h.length (.tup _) _ from rx)) w
  · split at w
    · rename_i xs e
      obtain ⟨a, vs, rfl, q, r⟩ := rx.lst hr e
      exact .inr ⟨a, vs, rfl, q, fun b hb => p.tl hr hb (cut_rel r) w⟩
    · exact w.elim

theorem sim_rev {K : PySem.W.Frag} : Sim1 K (fun x H Q => (∃ a xs, x = .ref a ∧ SqL K H a xs ∧ ∀ p, H p = none → Q (.ref p) (upd H p (.lst xs.reverse))) ∨ ∃ a xs, x = .ref a ∧ SqT K H a xs ∧ ∀ p, H p = none → Q (.ref p) (upd H p (.tup xs.reverse))) revW := by
  intro R h H G x v P Q hr rx w p
  unfold revW at w
  split at w
  · obtain ⟨a, vs, rfl, ha, ra⟩ := rx.tup
    exact .inr ⟨a, vs, rfl, ha, fun q hq => p.tup hr hq (R0s_reverse ra) w⟩
  · split at w
    · rename_i xs e
      obtain ⟨a, vs, rfl, q, r⟩ := rx.lst hr e
      exact .inl ⟨a, vs, rfl, q, fun b hb => p.tl hr hb (R0s_reverse r) w⟩
    · exact w.elim

/-! ### built-in functions -/
def CSim1 (K : PySem.W.Frag) (r : List V → Hp → VK → Prop) (p : D → Hd → PD → Prop) : Prop := Sim1 K (fun x H Q => r [x] H Q) p
def CSim2 (K : PySem.W.Frag) (r : List V → Hp → VK → Prop) (p : D → D → Hd → PD → Prop) : Prop := Sim2 K (fun x y H Q => r [x, y] H Q) p
def rLenD (K : PySem.W.Frag) : List V → Hp → VK → Prop := fun xs H Q => ∃ x n, xs = [x] ∧ LenV K x H n ∧ Q (.int n) H
theorem sim_len {K : PySem.W.Frag} : CSim1 K (rLenD K) lenW := by
  intro R h H G x v P Q hr rx w p
  unfold lenW at w
  split at w
  · cases rx.strE
    exact ⟨_, _, rfl, ⟨w.1, rfl⟩, p.int hr w.2⟩
  · split at w
    · rename_i xs e
      obtain ⟨a, vs, rfl, q, r⟩ := rx.seq hr e
      refine ⟨_, _, rfl, ?_, p.int hr w⟩
      rcases q with q | q
      · exact .inl ⟨vs, q, R0s_len r⟩
      · exact .inr ⟨vs, q, R0s_len r⟩
    · exact w.elim
theorem sim_abs {K : PySem.W.Frag} : CSim1 K (fun xs H Q => ∃ i, xs = [.int i] ∧ Q (.int (if i < 0 then -i else i)) H) absW := by
  intro R h H G x v P Q hr rx w p
  unfold absW at w
  split at w
  · cases rx.intE
    exact ⟨_, rfl, p.int hr w⟩
  · exact w.elim
theorem sim_int {K : PySem.W.Frag} : CSim1 K (fun xs H Q => (∃ i, xs = [.int i] ∧ Q (.int i) H) ∨ ∃ k, xs = [.bl k] ∧ Q (.int (if k then 1 else 0)) H) intW := by
  intro R h H G x v P Q hr rx w p
  unfold intW at w
  split at w
  · cases rx.intE
    exact .inl ⟨_, rfl, p.int hr w⟩
  · cases rx.blE
    exact .inr ⟨_, rfl, p.int hr w⟩
  · exact w.elim
theorem sim_gcd {K : PySem.W.Frag} : CSim2 K rGcd gcdW := by
  intro R h H G G' x y v u P Q hr rx ry w p
  unfold gcdW at w
  split at w
  · cases rx.intE; cases ry.intE
    exact ⟨_, _, rfl, p.int hr w⟩
  · exact w.elim
theorem sim_list {K : PySem.W.Frag} : CSim1 K (fun xs H Q => ∃ p ys, xs = [.ref p] ∧ (SqL K H p ys ∨ SqT K H p ys) ∧ ∀ l, H l = none → Q (.ref l) (upd H l (.lst ys))) listW := by
  intro R h H G x v P Q hr rx w p
  unfold listW at w
  split at w
  · rename_i xs e
    obtain ⟨a, vs, rfl, q, r⟩ := rx.seq hr e
    exact ⟨a, vs, rfl, q, fun b hb => p.tl hr hb r w⟩
  · exact w.elim
theorem sim_tuple {K : PySem.W.Frag} : CSim1 K (fun xs H Q => ∃ p ys, xs = [.ref p] ∧ ((SqL K H p ys ∧ ∀ l, H l = none → Q (.ref l) (upd H l (.tup ys))) ∨ (SqT K H p ys ∧ Q (.ref p) H))) tupleW := by
  intro R h H G x v P Q hr rx w p
  unfold tupleW at w
  split at w
  · rename_i xs e
    obtain ⟨a, vs, rfl, q, r⟩ := rx.seq hr e
    rcases q with q | q
    · exact ⟨a, vs, rfl, .inl ⟨q, fun b hb => p.tup hr hb r w⟩⟩
    · refine ⟨a, vs, rfl, .inr ⟨q, p.here (d := .tup xs) hr ?_ w⟩⟩
      show R0 K H R h.length (.tup xs) _
      simp only [R0]
      exact ⟨a, vs, rfl, q, r⟩
  · exact w.elim
theorem ints_rel {K : PySem.W.Frag} {H : Hp} {R : Nat → Addr} {n : Nat} : ∀ {xs : List D} {ns : List Int} {vs : List V}, intsOf xs = some ns → R0s K H R n xs vs → vs = ns.map V.int
  | [], ns, vs, e, r => by
    simp only [intsOf, Option.some.injEq] at e
    subst e
    simp only [R0s] at r
    exact r
  | .int i :: xs, ns, vs, e, r => by
    simp only [intsOf] at e
    split at e
    · rename_i is e2
      cases e
      simp only [R0s, R0] at r
      obtain ⟨v, us, rfl, rfl, r⟩ := r
      rw [ints_rel e2 r]
      rfl
    · cases e
  | .non :: _, _, _, e, _ => by cases e
  | .bl _ :: _, _, _, e, _ => by cases e
  | .str _ :: _, _, _, e, _ => by cases e
  | .tup _ :: _, _, _, e, _ => by cases e
  | .loc _ :: _, _, _, e, _ => by cases e
  | .tl _ :: _, _, _, e, _ => by cases e
  | .td _ _ _ :: _, _, _, e, _ => by cases e
  | .rl _ :: _, _, _, e, _ => by cases e
theorem bls_rel {K : PySem.W.Frag} {H : Hp} {R : Nat → Addr} {n : Nat} : ∀ {xs : List D} {ns : List Bool} {vs : List V}, blsOf xs = some ns → R0s K H R n xs vs → vs = ns.map V.bl
  | [], ns, vs, e, r => by
    simp only [blsOf, Option.some.injEq] at e
    subst e
    simp only [R0s] at r
    exact r
  | .bl i :: xs, ns, vs, e, r => by
    simp only [blsOf] at e
    split at e
    · rename_i is e2
      cases e
      simp only [R0s, R0] at r
      obtain ⟨v, us, rfl, rfl, r⟩ := r
      rw [bls_rel e2 r]
      rfl
    · cases e
  | .non :: _, _, _, e, _ => by cases e
  | .int _ :: _, _, _, e, _ => by cases e
  | .str _ :: _, _, _, e, _ => by cases e
  | .tup _ :: _, _, _, e, _ => by cases e
  | .loc _ :: _, _, _, e, _ => by cases e
  | .tl _ :: _, _, _, e, _ => by cases e
  | .td _ _ _ :: _, _, _, e, _ => by cases e
  | .rl _ :: _, _, _, e, _ => by cases e
theorem ints_at {K : PySem.W.Frag} {R : Nat → Addr} {h : Hd} {H G : Hp} {x : D} {v : V} {ns : List Int} (hr : HRel K H R h) (rx : RT K H R h.length G x v) (e : intsAt h x = some ns) : ∃ a, v = .ref a ∧ SqL K H a (ns.map V.int) := by
  unfold intsAt at e
  split at e
  · rename_i xs e1
    obtain ⟨a, vs, rfl, q, r⟩ := rx.lst hr e1
    rw [ints_rel e r] at q
    exact ⟨a, rfl, q⟩
  · cases e
theorem bls_at {K : PySem.W.Frag} {R : Nat → Addr} {h : Hd} {H G : Hp} {x : D} {v : V} {ns : List Bool} (hr : HRel K H R h) (rx : RT K H R h.length G x v) (e : blsAt h x = some ns) : ∃ a, v = .ref a ∧ SqL K H a (ns.map V.bl) := by
  unfold blsAt at e
  split at e
  · rename_i xs e1
    obtain ⟨a, vs, rfl, q, r⟩ := rx.lst hr e1
    rw [bls_rel e r] at q
    exact ⟨a, rfl, q⟩
  · cases e
theorem rel_ints {K : PySem.W.Frag} {H : Hp} {R : Nat → Addr} {n : Nat} : ∀ (ns : List Int), R0s K H R n (ns.map D.int) (ns.map V.int)
  | [] => by simp [R0s]
  | n :: ns => by simp only [List.map_cons, R0s, R0]; exact ⟨_, _, rfl, rfl, rel_ints ns⟩
theorem sim_any {K : PySem.W.Frag} : CSim1 K (rAny K) anyW := by
  intro R h H G x v P Q hr rx w p
  unfold anyW at w
  split at w
  · rename_i bs e
    obtain ⟨a, rfl, q⟩ := bls_at hr rx e
    exact ⟨a, bs, rfl, q, p.bl hr w⟩
  · exact w.elim
theorem sim_all {K : PySem.W.Frag} : CSim1 K (rAll K) allW := by
  intro R h H G x v P Q hr rx w p
  unfold allW at w
  split at w
  · rename_i bs e
    obtain ⟨a, rfl, q⟩ := bls_at hr rx e
    exact ⟨a, bs, rfl, q, p.bl hr w⟩
  · exact w.elim
theorem sim_sum {K : PySem.W.Frag} : CSim1 K (rSum K) sumW := by
  intro R h H G x v P Q hr rx w p
  unfold sumW at w
  split at w
  · rename_i bs e
    obtain ⟨a, rfl, q⟩ := ints_at hr rx e
    exact ⟨a, bs, rfl, q, p.int hr w⟩
  · exact w.elim
theorem sim_maxL {K : PySem.W.Frag} : CSim1 K (rMax K) maxLW := by
  intro R h H G x v P Q hr rx w p
  unfold maxLW at w
  split at w
  · rename_i bs e
    obtain ⟨a, rfl, q⟩ := ints_at hr rx e
    split at w
    · rename_i m em
      have hm := List.max?_eq_some_iff.mp em
      refine ⟨a, bs, rfl, q, List.length_pos_of_mem hm.1, fun m2 h1 h2 => ?_⟩
      have : m2 = m := Int.le_antisymm (hm.2 m2 h1) (h2 m hm.1)
      subst this
      exact p.int hr w
    · exact w.elim
  · exact w.elim
theorem sim_minL {K : PySem.W.Frag} : CSim1 K (rMin K) minLW := by
  intro R h H G x v P Q hr rx w p
  unfold minLW at w
  split at w
  · rename_i bs e
    obtain ⟨a, rfl, q⟩ := ints_at hr rx e
    split at w
    · rename_i m em
      have hm := List.min?_eq_some_iff.mp em
      refine ⟨a, bs, rfl, q, List.length_pos_of_mem hm.1, fun m2 h1 h2 => ?_⟩
      have : m2 = m := Int.le_antisymm (h2 m hm.1) (hm.2 m2 h1)
      subst this
      exact p.int hr w
    · exact w.elim
  · exact w.elim
theorem sim_max2 {K : PySem.W.Frag} : CSim2 K (fun xs H Q => ∃ i j, xs = [.int i, .int j] ∧ Q (.int (if j > i then j else i)) H) max2W := by
  intro R h H G G' x y v u P Q hr rx ry w p
  unfold max2W at w
  split at w
  · cases rx.intE; cases ry.intE
    exact ⟨_, _, rfl, p.int hr w⟩
  · exact w.elim
theorem sim_min2 {K : PySem.W.Frag} : CSim2 K (fun xs H Q => ∃ i j, xs = [.int i, .int j] ∧ Q (.int (if j < i then j else i)) H) min2W := by
  intro R h H G G' x y v u P Q hr rx ry w p
  unfold min2W at w
  split at w
  · cases rx.intE; cases ry.intE
    exact ⟨_, _, rfl, p.int hr w⟩
  · exact w.elim
theorem sortI_pw (ns : List Int) : (sortI ns).Pairwise (· ≤ ·) := by
  have := List.pairwise_mergeSort (le := fun a b : Int => decide (a ≤ b)) (fun a b c h1 h2 => by simp at *; omega) (fun a b => by simp; omega) ns
  exact this.imp fun h => of_decide_eq_true h
theorem sortI_perm (ns : List Int) : (sortI ns).Perm ns := List.mergeSort_perm _ _
theorem ints_sq {K : PySem.W.Frag} {R : Nat → Addr} {h : Hd} {H G : Hp} {x : D} {v : V} {ns : List Int} (hr : HRel K H R h) (rx : RT K H R h.length G x v) (e : intsSq h x = some ns) : ∃ a, v = .ref a ∧ (SqL K H a (ns.map V.int) ∨ SqT K H a (ns.map V.int)) := by
  unfold intsSq at e
  split at e
  · rename_i xs e1
    obtain ⟨a, vs, rfl, q, r⟩ := rx.seq hr e1
    rw [ints_rel e r] at q
    exact ⟨a, rfl, q⟩
  · cases e
theorem sim_sorted {K : PySem.W.Frag} : CSim1 K (fun vs H Q => rSortedI K vs H Q ∨ rSortT K vs H Q) sortedW := by
  intro R h H G x v P Q hr rx w p
  unfold sortedW at w
  split at w
  · rename_i ns e
    have fin : ∀ (us : List Int) (b : Addr), us.Perm ns → us.Pairwise (· ≤ ·) → H b = none → Q (.ref b) (upd H b (.lst (us.map V.int))) := fun us b h1 h2 hb => by
      have : us = sortI ns := List.Perm.eq_of_pairwise (fun a b _ _ h1 h2 => Int.le_antisymm h1 h2) h2 (sortI_pw ns) (h1.trans (sortI_perm ns).symm)
      subst this
      exact p.tl hr hb (rel_ints _) w
    obtain ⟨a, rfl, q | q⟩ := ints_sq hr rx e
    · exact .inl ⟨a, ns, rfl, q, fin⟩
    · exact .inr ⟨a, ns, rfl, q, fin⟩
  · exact w.elim
/-- a heap with one new thing more -/
theorem Post.more {K : PySem.W.Frag} {R : Nat → Addr} {h : Hd} {H : Hp} {P : PD} {Q : VK} {a : Addr} {o : HO} (p : Post K R h H P Q) (ha : H a = none) : Post K R h (upd H a o) P Q := p.on (.laid ha)
theorem sim_sortedSet {K : PySem.W.Frag} {w : World} : Sim1 K (rSrtSet K w) sortedSetW := by
  intro R h H G x v P Q hr rx w p
  unfold sortedSetW at w
  split at w
  · rename_i ns e
    obtain ⟨a, rfl, q⟩ := ints_sq hr rx e
    refine ⟨a, ns, ⟨rfl, q, w.1⟩, fun b pl c us hb hs hm hp => ?_⟩
    exact (p.more hb).tl (hr.laid hb) hp (rel_ints _) (w.2 us hs hm)
  · exact w.elim
theorem sim_lenSet {K : PySem.W.Frag} {w : World} : Sim1 K (rLenSet K w) lenSetW := by
  intro R h H G x v P Q hr rx w p
  unfold lenSetW at w
  split at w
  · rename_i ns e
    obtain ⟨a, rfl, q⟩ := ints_sq hr rx e
    refine ⟨a, ns, ⟨rfl, q, w.1⟩, fun b c us hb hs hm => ?_⟩
    exact (p.more hb).int (hr.laid hb) (w.2 us hs hm)
  · exact w.elim
/-! dicts -/
theorem dkey_keyD (k : Key) : dkey (keyD k) = some k := by cases k <;> rfl
theorem dkey_rel {K : PySem.W.Frag} {H G : Hp} {R : Nat → Addr} {n : Nat} {y : D} {u : V} {k : Key} (r : RT K H R n G y u) (e : dkey y = some k) : u = kV k := by
  cases y with
  | int i => cases e; exact r
  | str x => cases e; exact r
  | _ => cases e
theorem dGet_rel {K : PySem.W.Frag} {H : Hp} {R : Nat → Addr} {n : Nat} {k : Key} : ∀ {kvs : List (Key × V)} {vs : List D}, R0s K H R n vs (kvs.map (·.2)) →
    (match dGet (kvs.map fun p => keyD p.1) vs k with
      | some d => ∃ v, valV kvs k = some v ∧ R0 K H R n d v
      | none => valV kvs k = none)
  | [], vs, h => by
    cases vs <;> rfl
  | p :: kvs, vs, h => by
    cases vs with
    | nil => simp [R0s] at h
    | cons v vs =>
      simp only [List.map_cons, R0s] at h
      obtain ⟨w, r, e, h1, h2⟩ := h
      cases e
      simp only [List.map_cons, dGet, dkey_keyD, Option.some.injEq]
      by_cases hp : p.1 = k
      · rw [if_pos hp]
        exact ⟨p.2, valV_pos hp, h1⟩
      · rw [if_neg hp]
        have ih := dGet_rel (k := k) h2
        cases e : dGet (kvs.map fun p => keyD p.1) vs k with
        | none => rw [e] at ih; simp only at ih ⊢; rw [valV_neg hp]; exact ih
        | some d => rw [e] at ih; simp only at ih ⊢; rw [valV_neg hp]; exact ih
theorem dHas_rel {k : Key} (kvs : List (Key × V)) : dHas (kvs.map fun p => keyD p.1) k = kvs.any fun kv => decide (kv.1 = k) := by
  unfold dHas
  rw [List.any_map]
  congr 1
  funext p
  simp only [Function.comp, dkey_keyD, Option.some.injEq]
theorem zip_rel {K : PySem.W.Frag} {H : Hp} {R : Nat → Addr} {n : Nat} {k : Key} {d : D} {w : V} (hd : R0 K H R n d w) : ∀ {kvs : List (Key × V)} {vs : List D}, R0s K H R n vs (kvs.map (·.2)) →
    R0s K H R n (List.zipWith (fun x v => if dkey x = some k then d else v) (kvs.map fun p => keyD p.1) vs) ((kvs.map fun kv => if kv.1 = k then (kv.1, w) else kv).map (·.2))
  | [], vs, h => by simp [R0s]
  | p :: kvs, vs, h => by
    cases vs with
    | nil => simp [R0s] at h
    | cons v vs =>
      simp only [List.map_cons, R0s] at h
      obtain ⟨u, r, e, h1, h2⟩ := h
      cases e
      have ih := zip_rel (k := k) hd h2
      simp only [List.map_cons, List.zipWith_cons_cons, dkey_keyD, Option.some.injEq, R0s]
      by_cases hp : p.1 = k
      · rw [if_pos hp, if_pos hp]
        exact ⟨w, _, rfl, hd, ih⟩
      · rw [if_neg hp, if_neg hp]
        exact ⟨p.2, _, rfl, h1, ih⟩
theorem dPut_rel {K : PySem.W.Frag} {H : Hp} {R : Nat → Addr} {n : Nat} {k : Key} {d : D} {w : V} (hd : R0 K H R n d w) {kvs : List (Key × V)} {vs : List D} (h : R0s K H R n vs (kvs.map (·.2))) :
    (dPut (kvs.map fun p => keyD p.1) vs k d).1 = (putK kvs k w).map (fun p => keyD p.1) ∧ R0s K H R n (dPut (kvs.map fun p => keyD p.1) vs k d).2 ((putK kvs k w).map (·.2)) := by
  unfold dPut putK
  rw [dHas_rel]
  by_cases ha : (kvs.any fun kv => decide (kv.1 = k)) = true
  · rw [if_pos ha, if_pos ha]
    refine ⟨?_, zip_rel hd h⟩
    rw [List.map_map]
    refine List.map_congr_left fun p _ => ?_
    simp only [Function.comp]
    split <;> rfl
  · rw [if_neg ha, if_neg ha, List.map_append, List.map_append]
    exact ⟨rfl, R0s_append h (R0s_one hd)⟩
theorem dct_rel {K : PySem.W.Frag} {H G : Hp} {R : Nat → Addr} {h : Hd} {x : D} {v : V} {ks vs : List D} (hr : HRel K H R h) (rx : RT K H R h.length G x v) (e : dctOf h x = some (ks, vs)) :
    ∃ i kvs, x = .loc i ∧ i < h.length ∧ h[i]? = some (.dct false ks vs) ∧ v = .ref (R i) ∧ H (R i) = some (.dK kvs) ∧ ks = kvs.map (fun p => keyD p.1) ∧ R0s K H R h.length vs (kvs.map (·.2)) := by
  cases x with
  | loc i =>
    have rx' : R0 K H R h.length (.loc i) v := rx
    simp only [R0] at rx'
    simp only [dctOf] at e
    split at e
    · rename_i ks' vs' e2
      cases e
      have o := hr.obj i _ e2
      rcases o with ⟨_, kvs, a, b, c⟩ | ⟨t, _⟩
      · exact ⟨i, kvs, rfl, rx'.1, e2, rx'.2, a, b, c⟩
      · cases t
    · cases e
  | _ => cases e
def rDGet : R2 := fun x y H Q => ∃ a v, x = .ref a ∧ DGet H a y (some v) ∧ Q v H
def rDIn : R2 := fun x y H Q => ∃ a o, y = .ref a ∧ DGet H a x o ∧ Q (.bl o.isSome) H
def rDNotIn : R2 := fun x y H Q => ∃ a o, y = .ref a ∧ DGet H a x o ∧ Q (.bl (!o.isSome)) H
theorem ix_dict {X : Cx} (hu : X.A.units + 1 < cLine) : IxR X rDGet := by
  intro value slice pins s σ H x y v u Q I rx ry h hs
  obtain ⟨a, z, rfl, g, q⟩ := h
  cases rx
  exact tail_any (dict_typeIs I g) PySem.F.slot_dict_getitem.lookup (d_getItem hu I g ry fun w' s' I' rw' => ⟨z, H, I', rw', q⟩) hs
theorem or_din {X : Cx} (hu : X.A.units + 1 < cLine) : OpR X (compareOp .In) rDIn := by
  intro pins s σ H x y v u Q I rx ry h
  obtain ⟨a, o, rfl, g, q⟩ := h
  cases ry
  exact d_in hu I g rx fun s' I' => ⟨.bl o.isSome, H, I', rfl, q⟩
theorem or_dnotin {X : Cx} (hu : X.A.units + 1 < cLine) : OpR X (compareOp .NotIn) rDNotIn := by
  intro pins s σ H x y v u Q I rx ry h
  obtain ⟨a, o, rfl, g, q⟩ := h
  cases ry
  exact d_notIn hu I g rx fun s' I' => ⟨.bl (!o.isSome), H, I', rfl, q⟩
theorem sim_dget {K : PySem.W.Frag} : Sim2 K rDGet dgetW := by
  intro R h H G G' x y v u P Q hr rx ry w p
  unfold dgetW at w
  split at w
  · rename_i ks vs k e1 e2
    obtain ⟨i, kvs, rfl, hi, _, rfl, hH, rfl, r⟩ := dct_rel hr rx e1
    have g := dGet_rel (k := k) r
    split at w
    · rename_i d ed
      rw [ed] at g
      obtain ⟨z, ez, rz⟩ := g
      have ey := dkey_rel ry e2
      subst ey
      exact ⟨R i, z, rfl, by rw [← ez]; exact DGet.k hH, p.here hr (RT.of rz) w⟩
    · exact w.elim
  · exact w.elim
theorem isSome_rel {K : PySem.W.Frag} {H : Hp} {R : Nat → Addr} {n : Nat} {k : Key} {kvs : List (Key × V)} {vs : List D} (r : R0s K H R n vs (kvs.map (·.2))) : (dGet (kvs.map fun p => keyD p.1) vs k).isSome = (valV kvs k).isSome := by
  have g := dGet_rel (k := k) r
  cases e : dGet (kvs.map fun p => keyD p.1) vs k with
  | none => rw [e] at g; simp only at g; rw [g]; rfl
  | some d => rw [e] at g; obtain ⟨z, ez, _⟩ := g; rw [ez]; rfl
theorem sim_din {K : PySem.W.Frag} : Sim2 K rDIn (fun x y h Q => dinW x y h (bo Q)) := by
  intro R h H G G' x y v u P Q hr rx ry w p
  unfold dinW at w
  split at w
  · rename_i ks vs k e1 e2
    obtain ⟨i, kvs, rfl, hi, _, rfl, hH, rfl, r⟩ := dct_rel hr ry e1
    have ey := dkey_rel rx e2
    subst ey
    rw [isSome_rel r] at w
    exact ⟨R i, _, rfl, DGet.k hH, p.bl hr w⟩
  · exact w.elim
theorem sim_dnotin {K : PySem.W.Frag} : Sim2 K rDNotIn (fun x y h Q => dinW x y h (bon Q)) := by
  intro R h H G G' x y v u P Q hr rx ry w p
  unfold dinW at w
  split at w
  · rename_i ks vs k e1 e2
    obtain ⟨i, kvs, rfl, hi, _, rfl, hH, rfl, r⟩ := dct_rel hr ry e1
    have ey := dkey_rel rx e2
    subst ey
    rw [isSome_rel r] at w
    exact ⟨R i, _, rfl, DGet.k hH, p.bl hr w⟩
  · exact w.elim
theorem sim_dlen {K : PySem.W.Frag} : CSim1 K (fun xs H Q => ∃ a kvs, xs = [V.ref a] ∧ H a = some (.dK kvs) ∧ Q (.int kvs.length) H) dlenW := by
  intro R h H G x v P Q hr rx w p
  unfold dlenW at w
  split at w
  · rename_i ks vs e
    obtain ⟨i, kvs, rfl, hi, _, rfl, hH, rfl, r⟩ := dct_rel hr rx e
    rw [List.length_map] at w
    exact ⟨R i, kvs, rfl, hH, p.int hr w⟩
  · exact w.elim
theorem R0s_ints {K : PySem.W.Frag} {H : Hp} {R : Nat → Addr} {n : Nat} (f : Nat → Int) : ∀ l : List Nat, R0s K H R n (l.map fun i => D.int (f i)) (l.map fun i => V.int (f i))
  | [] => by simp [R0s]
  | i :: l => by
    simp only [List.map_cons, R0s]
    exact ⟨_, _, rfl, rfl, R0s_ints f l⟩
theorem lift_dnew {K : PySem.W.Frag} (σ : L2.St) (H : Hp) (Q : VK) (w : lift K (fun _ h P => P (.td false [] []) h) σ H Q) : tDNewK σ H Q := by
  obtain ⟨R, τ, h, P, sr, hr, w, post⟩ := w
  intro p hp
  have E : Ext K R h H R h (upd H p (.dK [])) := .laid hp
  refine post R h _ (.td false [] []) _ E (hr.laid hp) ⟨p, rfl, hp, .inl ⟨rfl, [], upd_same, rfl, ?_⟩, hr.nep hp⟩ w
  simp [R0s]
theorem sim_lrng {K : PySem.W.Frag} {ta : TEd} (σ : L2.St) (H : Hp) (Q : VK) (w : lift K (fun τ h Q => ta τ h fun x h1 => lrngW x h1 Q) σ H Q) : tLstRg (tRg1 (lift K ta)) σ H Q := by
  obtain ⟨R, τ, h, P, sr, hr, w, post⟩ := w
  refine ⟨R, τ, h, _, sr, hr, w, fun R1 h1 H1 x v E1 hr1 rx w1 => ?_⟩
  unfold lrngW at w1
  split at w1
  · rename_i n
    cases rx.intE
    obtain ⟨⟨b1, b2⟩, w1⟩ := w1
    refine ⟨n, rfl, ⟨by decide, by decide, b1, by omega, by omega⟩, fun q hq => ?_⟩
    have e : (n - 0).toNat = n.toNat := by rw [Int.sub_zero]
    have := (post.on E1).tl hr1 hq (R0s_ints (fun i => 0 + (i : Int)) (List.range n.toNat)) w1
    unfold rgV
    rw [e]
    exact this
  · exact w1.elim
theorem sim_bits {K : PySem.W.Frag} : Sim1 K (fun x H Q => ∃ i, x = .int i ∧ Q (.int (Builtin.Int.intBits i : Nat)) H) bitsW := by
  intro R h H G x v P Q hr rx w p
  unfold bitsW at w
  split at w
  · cases rx.intE
    exact ⟨_, rfl, p.int hr w⟩
  · exact w.elim

/-! ### methods -/
theorem RT.locE {K : PySem.W.Frag} {H G : Hp} {R : Nat → Addr} {n i : Nat} {v : V} (r : RT K H R n G (.loc i) v) : i < n ∧ v = .ref (R i) := by
  have r' : R0 K H R n (.loc i) v := r
  simp only [R0] at r'
  exact r'
/-- a list is changed -/
theorem Post.putL {K : PySem.W.Frag} {R : Nat → Addr} {h : Hd} {H : Hp} {P : PD} {Q : VK} {i : Nat} {vs vs' : List V} {ds' : List D} {d : D} {v : V} (p : Post K R h H P Q) (hr : HRel K H R h) (hi : i < h.length) (hw : H (R i) = some (.lst vs)) (r : R0s K H R h.length ds' vs')
    (rd : R0 K H R h.length d v) (w : P d (h.set i (.lst ds'))) : Q v (upd H (R i) (.lst vs')) := by
  have E : Ext K R h H R (h.set i (.lst ds')) (upd H (R i) (.lst vs')) := .put hr hi hw True.intro
  exact p R _ _ d v E (hr.put hi hw True.intro ⟨vs', upd_same, E.r0s r⟩) (RT.of (E.r0 rd)) w
theorem sim_append {K : PySem.W.Frag} : ∀ R h H G (x y : D) (v u : V) P Q, HRel K H R h → RT K H R h.length G x v → R0 K H R h.length y u → appendW x y h P → Post K R h H P Q → rAppend v [u] H Q := by
  intro R h H G x y v u P Q hr rx ry w p
  unfold appendW at w
  split at w
  · obtain ⟨hi, rfl⟩ := rx.locE
    split at w
    · rename_i xs e
      obtain ⟨_, vs, hw, r⟩ := hr.lst e
      exact ⟨_, vs, u, rfl, rfl, hw, by rw [← R0s_len r]; exact w.1, p.putL (d := .non) hr hi hw (R0s_append r (R0s_one ry)) (by simp only [R0]) w.2⟩
    · exact w.elim
  · exact w.elim
theorem sim_pop {K : PySem.W.Frag} : Sim1 K (fun x H Q => rPop x [] H Q) popW := by
  intro R h H G x v P Q hr rx w p
  unfold popW at w
  split at w
  · obtain ⟨hi, rfl⟩ := rx.locE
    split at w
    · rename_i xs e
      obtain ⟨_, vs, hw, r⟩ := hr.lst e
      split at w
      · rename_i y ey
        obtain ⟨u, eu, ru⟩ := R0s_get r ey
        exact ⟨_, vs, u, rfl, rfl, hw, by rw [← R0s_len r]; exact eu, p.putL hr hi hw (R0s_dropLast r) ru w⟩
      · exact w.elim
    · exact w.elim
  · exact w.elim
theorem sim_reverse {K : PySem.W.Frag} : Sim1 K (fun x H Q => rReverse x [] H Q) reverseW := by
  intro R h H G x v P Q hr rx w p
  unfold reverseW at w
  split at w
  · obtain ⟨hi, rfl⟩ := rx.locE
    split at w
    · rename_i xs e
      obtain ⟨_, vs, hw, r⟩ := hr.lst e
      exact ⟨_, vs, rfl, rfl, hw, p.putL (d := .non) hr hi hw (R0s_reverse r) (by simp only [R0]) w⟩
    · exact w.elim
  · exact w.elim

/-! ### isinstance of built-in types -/
def kitTy : D → String
  | .non => "NoneType" | .bl _ => "bool" | .int _ => "int" | .str _ => "str" | .tup _ => "tuple" | .tl _ => "list" | .rl _ => "list" | .td _ _ _ => "dict" | .loc _ => "list"
def instTypes : List String := ["int", "bool", "str", "tuple", "list", "dict"]
theorem kit_table : ∀ T ∈ instTypes, kitB "NoneType" T = some (T == "NoneType") ∧ kitB "bool" T = some (T == "bool" || T == "int") ∧ kitB "int" T = some (T == "int") ∧ kitB "str" T = some (T == "str") ∧
    kitB "tuple" T = some (T == "tuple") ∧ kitB "list" T = some (T == "list") ∧ kitB "dict" T = some (T == "dict") := by decide +kernel
theorem sim_inst {K : PySem.W.Frag} {T : String} (hT : T ∈ instTypes) : Sim1 K (fun x H Q => rIsi K [x, .ty T] H Q) (instW T) := by
  intro R h H G x v P Q hr rx w p
  obtain ⟨t1, t2, t3, t4, t5, t6, t7⟩ := kit_table T hT
  unfold instW at w
  split at w
  · rename_i b e
    have go : ∀ {t : String}, TyX K H v (.type t) → kitB t T = some b → rIsi K [v, .ty T] H Q := fun {t} ty k => ⟨v, .ty T, .type t, .type T, b, rfl, .ty T, ty, kit_ty k, p.bl hr w⟩
    unfold isInst at e
    split at e
    · cases rx.nonE; cases e; exact go (.base .non) t1
    · cases rx.blE; cases e; exact go (.base (.bl _)) t2
    · cases rx.intE; cases e; exact go (.base (.int _)) t3
    · cases rx.strE; cases e; exact go (.base (.str _)) t4
    · obtain ⟨a, vs, rfl, q, r⟩ := rx.tup
      cases e
      rcases q with (q | ⟨o, q⟩) | ⟨o, its, n, k, c, _⟩
      · exact go (.base (.tup q)) t5
      · exact go (.fTuple q) t5
      · exact go (.kTuple k c) t5
    · obtain ⟨a, vs, rfl, _, q, _⟩ := rx
      cases e
      exact go (.base (.lst q)) t6
    · obtain ⟨a, rfl, _, q, _⟩ := rx
      cases e
      rcases q with ⟨_, kvs, q, _⟩ | ⟨_, kvs, q, _⟩
      · exact go (.base (.dK q)) t7
      · exact go (.base (.dT q)) t7
    · rename_i ds
      have r' : R0 K H R h.length (.rl ds) v := rx
      simp only [R0] at r'
      obtain ⟨a, vs, rfl, q, _⟩ := r'
      cases e
      rcases q with ⟨o, q⟩ | ⟨o, its, n, k, c, _⟩
      · exact go (.base (.frz q)) t6
      · exact go (.kList k c) t6
    · obtain ⟨hi, rfl⟩ := rx.locE
      split at e
      · rename_i xs e2
        cases e
        obtain ⟨_, vs, hw, r⟩ := hr.lst e2
        exact go (.base (.lst hw)) t6
      · rename_i tk ks ws e2
        cases e
        have q : dcRel K H R h.length tk ks ws (H (R _)) := hr.obj _ _ e2
        rcases q with ⟨_, kvs, q, _⟩ | ⟨_, kvs, q, _⟩
        · exact go (.base (.dK q)) t7
        · exact go (.base (.dT q)) t7
      · cases e
  · exact w.elim
end Py

namespace Py
open PySem PySem.Spec PyProof.Rows L2

/-! ### side conditions of the syntax -/
def noStar : Expr → Bool
  | .Starred _ _ => false
  | _ => true
theorem star_cons {e : Expr} {es : List Expr} {env : Env} (h : noStar e = true) : starEach (e :: es) env = (false, eval e env) :: starEach es env := by
  cases e <;> first | rfl | cases h
theorem star_any : ∀ {es : List Expr} {pos : Pos} {env : Env}, es.all noStar = true → (backTo pos (starEach es env)).any (·.1) = false
  | [], _, _, _ => rfl
  | e :: es, pos, env, h => by
    rw [List.all_cons, Bool.and_eq_true] at h
    rw [star_cons h.1]
    show (false || (backTo pos (starEach es env)).any (·.1)) = false
    rw [star_any h.2]; rfl
theorem star_all : ∀ {es : List Expr} {pos : Pos} {env : Env}, es.all noStar = true → (backTo pos (starEach es env)).all (fun x => !x.1) = true
  | [], _, _, _ => rfl
  | e :: es, pos, env, h => by
    rw [List.all_cons, Bool.and_eq_true] at h
    rw [star_cons h.1]
    show ((!false) && (backTo pos (starEach es env)).all (fun x => !x.1)) = true
    rw [star_all h.2]; rfl
def noSet : Expr → Bool
  | .Set _ _ _ => false
  | _ => true
theorem noSet_mark {e : Expr} {op : CmpOp} (h : noSet e = true) : behindInMarks op e = false := by
  cases e <;> first | rfl | cases h
theorem noSet_fold {e : Expr} {env : Env} (h : noSet e = true) : ∀ x, foldedSetIterable e env x = pure x := by
  intro x
  cases e <;> first | rfl | cases h
def noSlice : Expr → Bool
  | .Slice _ _ _ _ => false
  | _ => true
theorem noSlice_plain {e : Expr} (h : noSlice e = true) : PlainIx e := by
  intro o i
  cases e <;> first | rfl | cases h
def plainTest : Expr → Bool
  | .UnaryOp .Not _ _ => false
  | .BoolOp _ _ _ => false
  | .IfExp _ _ _ _ => false
  | .Compare _ _ _ _ => false
  | _ => true
theorem plainTest_ok {e : Expr} {env : Env} (h : plainTest e = true) : ∀ whole, isTrue e env whole = (do let v ← whole; standAt e.pos; holding [v] (truthy v)) := by
  intro whole
  cases e with
  | UnaryOp op x pos => cases op <;> first | rfl | cases h
  | _ => first | rfl | cases h
/-- no call of super -/
def noSuper : Expr → Bool
  | .Call (.Name id _) [] [] _ => id != "super"
  | _ => true
theorem noSuper_ok {e : Expr} {attr : Str} {env : Env} (h : noSuper e = true) : attributeBase e attr env (eval e env) = eval e env := by
  unfold attributeBase
  split
  · rename_i id p1 p2
    have h' : (id != ("super" : Str)) = true := h
    rw [if_pos (by rw [h']; rfl)]
  · rfl

/-! ### a value gets a place -/
theorem mat_ok {K : PySem.W.Frag} {R R1 : Nat → Addr} {h h1 : Hd} {G H1 : Hp} {d : D} {v : V} {P : PD} (E : Ext K R h G R1 h1 H1) (hr : HRel K H1 R1 h1) (r : RT K H1 R1 h1.length G d v) (w : mat d h1 P) :
    ∃ R2 h2 d', Ext K R h G R2 h2 H1 ∧ HRel K H1 R2 h2 ∧ (∀ i, i < h1.length → i < h2.length ∧ R2 i = R1 i) ∧ R0 K H1 R2 h2.length d' v ∧ P d' h2 := by
  have new : ∀ (a : Addr) (o : DO), G a = none → (∀ i, i < h1.length → R1 i ≠ a) → (∃ ob, H1 a = some ob) → (∀ R2 : Nat → Addr, (∀ i, i < h1.length → R2 i = R1 i) → ORel K H1 R2 (h1 ++ [o]).length a o) → v = .ref a → P (.loc h1.length) (h1 ++ [o]) →
      ∃ R2 h2 d', Ext K R h G R2 h2 H1 ∧ HRel K H1 R2 h2 ∧ (∀ i, i < h1.length → i < h2.length ∧ R2 i = R1 i) ∧ R0 K H1 R2 h2.length d' v ∧ P d' h2 := by
    intro a o ga ne there orl ev w
    obtain ⟨R2, agr, self⟩ : ∃ R2 : Nat → Addr, (∀ i, i < h1.length → R2 i = R1 i) ∧ R2 h1.length = a := ⟨fun i => if i = h1.length then a else R1 i, fun i hi => if_neg (Nat.ne_of_lt hi), if_pos rfl⟩
    have ll : (h1 ++ [o]).length = h1.length + 1 := by simp
    refine ⟨R2, h1 ++ [o], .loc h1.length, ⟨by rw [ll]; exact Nat.le_succ_of_le E.len, fun i hi => ?_, fun i a1 a2 => ?_, E.frame, E.stay, E.tup, E.frz⟩, ⟨fun i j hi hj e => ?_, fun i ob e => ?_⟩, fun i hi => ⟨by rw [ll]; exact Nat.lt_succ_of_lt hi, agr i hi⟩, ?_, w⟩
    · rw [agr i (Nat.lt_of_lt_of_le hi E.len)]; exact E.agr i hi
    · rw [ll] at a2
      by_cases hi : i = h1.length
      · subst hi; rw [self]; exact ga
      · have hl : i < h1.length := Nat.lt_of_le_of_ne (Nat.le_of_lt_succ a2) hi
        rw [agr i hl]; exact E.fresh i a1 hl
    · rw [ll] at hi hj
      by_cases qi : i = h1.length <;> by_cases qj : j = h1.length
      · rw [qi, qj]
      · have hl : j < h1.length := Nat.lt_of_le_of_ne (Nat.le_of_lt_succ hj) qj
        rw [agr j hl] at e
        subst qi
        rw [self] at e
        exact absurd e.symm (ne j hl)
      · have hl : i < h1.length := Nat.lt_of_le_of_ne (Nat.le_of_lt_succ hi) qi
        rw [agr i hl] at e
        subst qj
        rw [self] at e
        exact absurd e (ne i hl)
      · have hli : i < h1.length := Nat.lt_of_le_of_ne (Nat.le_of_lt_succ hi) qi
        have hlj : j < h1.length := Nat.lt_of_le_of_ne (Nat.le_of_lt_succ hj) qj
        rw [agr i hli, agr j hlj] at e
        exact hr.inj i j hli hlj e
    · by_cases hi : i < h1.length
      · rw [List.getElem?_append_left hi] at e
        rw [agr i hi]
        have x := hr.obj i ob e
        have up : ∀ ds vs, R0s K H1 R1 h1.length ds vs → R0s K H1 R2 (h1 ++ [o]).length ds vs :=
          fun ds vs => R0s_mono (fun _ _ z => z) (fun _ _ z => z) (fun j hj => ⟨by rw [ll]; exact Nat.lt_succ_of_lt hj, agr j hj⟩) ds vs
        cases ob with
        | lst ds => obtain ⟨vs, p, q⟩ := x; exact ⟨vs, p, up _ _ q⟩
        | dct tk ks ws =>
          rcases x with ⟨t, kvs, p, q, z⟩ | ⟨t, kvs, p, q, z⟩
          · exact .inl ⟨t, kvs, p, q, up _ _ z⟩
          · exact .inr ⟨t, kvs, p, q, up _ _ z⟩
        | ins c fs => exact x.elim
      · have hi2 : i = h1.length := by
          have := (List.getElem?_eq_some_iff.mp e).1
          rw [ll] at this
          omega
        subst hi2
        rw [List.getElem?_append_right (Nat.le_refl _)] at e
        simp at e
        subst e
        rw [self]
        exact orl _ agr
    · simp only [R0]
      exact ⟨by rw [ll]; exact Nat.lt_succ_self _, by rw [self]; exact ev⟩
  have up : ∀ (o : DO) (R2 : Nat → Addr), (∀ i, i < h1.length → R2 i = R1 i) → ∀ ds vs, R0s K H1 R1 h1.length ds vs → R0s K H1 R2 (h1 ++ [o]).length ds vs :=
    fun o R2 ag ds vs => R0s_mono (fun _ _ z => z) (fun _ _ z => z) (fun j hj => ⟨by simp; omega, ag j hj⟩) ds vs
  cases d with
  | tl xs =>
    obtain ⟨a, vs, e1, ga, q, r, ne⟩ := r
    exact new a (.lst xs) ga ne ⟨_, q⟩ (fun R2 ag => ⟨vs, q, up _ R2 ag _ _ r⟩) e1 w
  | td tk ks ws =>
    obtain ⟨a, e1, ga, q, ne⟩ := r
    refine new a (.dct tk ks ws) ga ne ?_ (fun R2 ag => ?_) e1 w
    · rcases q with ⟨_, kvs, p, _⟩ | ⟨_, kvs, p, _⟩ <;> exact ⟨_, p⟩
    · rcases q with ⟨t, kvs, p, q, z⟩ | ⟨t, kvs, p, q, z⟩
      · exact .inl ⟨t, kvs, p, q, up _ R2 ag _ _ z⟩
      · exact .inr ⟨t, kvs, p, q, up _ R2 ag _ _ z⟩
  | _ => exact ⟨R1, h1, _, E, hr, fun i hi => ⟨hi, rfl⟩, r, w⟩

/-! ### two, three in a row -/
section
variable {K : PySem.W.Frag} {ta tb tc : TEd}
theorem lift_un {r : V → Hp → VK → Prop} {p : D → Hd → PD → Prop} (sm : Sim1 K r p) (σ : L2.St) (H : Hp) (Q : VK) (w : lift K (fun τ h Q => ta τ h fun x h1 => p x h1 Q) σ H Q) : tUn r (lift K ta) σ H Q := by
  obtain ⟨R, τ, h, P, sr, hr, w, post⟩ := w
  exact ⟨R, τ, h, _, sr, hr, w, fun R1 h1 H1 x v E1 hr1 rx w1 => sm R1 h1 H1 H x v P Q hr1 rx w1 (post.on E1)⟩
theorem lift_bin {r : R2} {p : D → D → Hd → PD → Prop} (sm : Sim2 K r p) (σ : L2.St) (H : Hp) (Q : VK) (w : lift K (fun τ h Q => ta τ h fun x h1 => tb τ h1 fun y h2 => p x y h2 Q) σ H Q) : tOp r (lift K ta) (lift K tb) σ H Q := by
  obtain ⟨R, τ, h, P, sr, hr, w, post⟩ := w
  refine ⟨R, τ, h, _, sr, hr, w, fun R1 h1 H1 x v E1 hr1 rx w1 => ?_⟩
  exact ⟨R1, τ, h1, _, E1.srel sr, hr1, w1, fun R2 h2 H2 y u E2 hr2 ry w2 => sm R2 h2 H2 H H1 x y v u P Q hr2 (E2.rt rx) ry w2 ((post.on E1).on E2)⟩
end

/-! ### the context -/
/-- the promise of a def, from what its call by values asks -/
def spD (K : PySem.W.Frag) (cl : CallD) (f : Nat) : Sp := fun vs H Q _ => ∃ R h ds P, R0s K H R h.length ds vs ∧ HRel K H R h ∧ cl f ds h P ∧ Post K R h H P Q
/-- what the defs, globals, built-in names are: fn, the names of defs by number; gl, constants; bn, built-in names; ex, names for built-in functions of modules -/
structure Tab where
  fn : List Str
  gl : List (Str × D)
  bn : List Str
  ex : List (Str × String)
structure Good (T : Tab) (cl : CallD) (N : List Str) (sc ss : Scope) (X : Cx) : Prop where
  hN : X.N = N
  nd : N.Nodup
  hsc : X.env.scope = sc
  kind : sc.kind = .function
  calm : X.calm = true
  st : ∀ x, (ss.names.lookup x = some .local ∨ ss.names.lookup x = some .cell) → Loc X.env.scope x ∧ (X.fn x = true ∨ X.env.scope.names.lookup x = some .local)
  hu : X.A.units + 64 < cLine
  bn : ∀ x ∈ T.bn, X.mg x = none
  ex : ∀ x id, T.ex.lookup x = some id → X.mg x = some (.builtin id)
  gl : ∀ x d, (x, d) ∈ T.gl → ∃ u v, X.mg x = some u ∧ RelV v u ∧ ∀ H R n, R0 X.K H R n d v
  fn : ∀ f x, T.fn[f]? = some x → ∃ fa fd ps k, FnOk X.prog X.w X.K X.mg X.base CX0 k fa fd ps (spD X.K cl f) ∧ Room k X.A ∧ X.mg x = some (.ref fa) ∧ PySem.W.keepIn X.K (.ref fa) = true ∧ Binds X.K fd ps []
theorem relabel_eq {scope : Scope} {env : Env} : PySem.relabel scope env = relS scope env.scope := rfl
/-- a comprehension's block -/
theorem Good.blk {T : Tab} {cl : CallD} {N : List Str} {sc ss : Scope} {X : Cx} (c : Good T cl N sc ss X) {scope : Scope} (hk : scope.kind = .function) (s : Shared) (H : Hp) (C : Addr) (l : List (Str × Addr)) (fp : List Addr) :
    Good T cl N (relS scope sc) scope (X.blk s H scope (compEnvC scope l C X.env) fp) where
  hN := c.hN
  nd := c.nd
  hsc := by show relS scope X.env.scope = _; rw [c.hsc]
  kind := hk
  calm := c.calm
  st := fun x hx => by
    have e : (compEnvC scope l C X.env).scope = relS scope X.env.scope := rfl
    rcases hx with hx | hx
    · have k := lookup_relS_keep (sc := X.env.scope) (by decide) hx
      exact ⟨.inl k, .inr k⟩
    · have k := lookup_relS_keep (sc := X.env.scope) (by decide) hx
      exact ⟨.inr k, .inl (by show (scope.names.lookup x == some .cell) = true; rw [hx]; rfl)⟩
  hu := c.hu
  bn := c.bn
  ex := c.ex
  gl := c.gl
  fn := c.fn
end Py

namespace Py
open PySem PySem.Spec PyProof.Rows L2

/-! ### walks -/
def Walks (K : PySem.W.Frag) (R0 : Nat → Addr) (h0 : Hd) (H0 : Hp) (w : Iter) (J : It) : Prop :=
  ∀ R h H, Ext K R0 h0 H0 R h H → HRel K H R h → w.ok h →
    (∀ i, i < w.xs.length → J.go i H) ∧ (∀ i, w.xs.length ≤ i → J.stop i H) ∧
    (∀ i x H', i < w.xs.length → J.yld i H x H' → ∃ d, w.xs[i]? = some d ∧ Ext K R h H R h H' ∧ HRel K H' R h ∧ Py.R0 K H' R h.length d x)
def liftI (K : PySem.W.Frag) (t : TId) : TI := fun σ H Z => ∃ R τ h P, SRel K H R h.length τ σ ∧ HRel K H R h ∧ t τ h P ∧
  ∀ R' h' H' w J, Ext K R h H R' h' H' → HRel K H' R' h' → P w h' → Walks K R' h' H' w J → Z J H'
section
variable {K : PySem.W.Frag} {R : Nat → Addr} {h : Hd} {H : Hp} {xs : List D} {vs : List V} {a : Addr}
theorem walks_fix {J : It} (r : R0s K H R h.length xs vs) (go : ∀ R' h' H', Ext K R h H R' h' H' → ∀ i, i < vs.length → J.go i H') (stop : ∀ R' h' H', Ext K R h H R' h' H' → ∀ i, vs.length ≤ i → J.stop i H')
    (yld : ∀ R' h' H', Ext K R h H R' h' H' → ∀ i x H2, J.yld i H' x H2 → H2 = H' ∧ vs[i]? = some x) : Walks K R h H (.vals xs) J := by
  intro R' h' H' E hr ok
  have hl := R0s_len r
  refine ⟨fun i hi => go _ _ _ E i (by rw [← hl]; exact hi), fun i hi => stop _ _ _ E i (by rw [← hl]; exact hi), fun i x H2 hi0 y => ?_⟩
  obtain ⟨e, ex⟩ := yld _ _ _ E i x H2 y
  subst e
  have hi : i < xs.length := by rw [hl]; exact (List.getElem?_eq_some_iff.mp ex).1
  obtain ⟨u, eu, ru⟩ := R0s_get r (List.getElem?_eq_getElem hi)
  rw [ex] at eu
  cases eu
  exact ⟨xs[i], List.getElem?_eq_getElem hi, .refl, hr, E.r0 ru⟩
theorem walks_lst (q : ∀ R' h' H', Ext K R h H R' h' H' → SqL K H' a vs) (r : R0s K H R h.length xs vs) : Walks K R h H (.vals xs) (Itl K a) :=
  walks_fix r (fun R' h' H' E i hi => ⟨vs, vs[i], q _ _ _ E, List.getElem?_eq_getElem hi⟩) (fun R' h' H' E i hi => ⟨vs, q _ _ _ E, hi⟩)
    fun R' h' H' E i x H2 y => ⟨y.1, y.2 vs (q _ _ _ E)⟩
theorem walks_tup (q : SqT K H a vs) (r : R0s K H R h.length xs vs) : Walks K R h H (.vals xs) (Itt K a) :=
  walks_fix r (fun R' h' H' E i hi => ⟨vs, vs[i], E.tup _ _ q, List.getElem?_eq_getElem hi⟩) (fun R' h' H' E i hi => ⟨vs, E.tup _ _ q, hi⟩)
    fun R' h' H' E i x H2 y => ⟨y.1, y.2 vs (E.tup _ _ q)⟩
theorem walks_live {j : Nat} {ys : List D} (hj : j < h.length) : Walks K R h H (.live j ys) (Itl K (R j)) := by
  intro R' h' H' E hr ok
  have ok' : h'[j]? = some (.lst ys) := ok
  obtain ⟨_, vs, hw, r⟩ := hr.lst ok'
  rw [E.agr j hj] at hw
  have hl := R0s_len r
  refine ⟨fun i hi => ⟨vs, vs[i]'(by rw [← hl]; exact hi), .of hw, List.getElem?_eq_getElem _⟩, fun i hi => ⟨vs, .of hw, by rw [← hl]; exact hi⟩, fun i x H2 hi0 y => ?_⟩
  obtain ⟨e, y⟩ := y
  subst e
  have ex := y vs (.of hw)
  have hi : i < ys.length := by rw [hl]; exact (List.getElem?_eq_some_iff.mp ex).1
  obtain ⟨u, eu, ru⟩ := R0s_get r (List.getElem?_eq_getElem hi)
  rw [ex] at eu
  cases eu
  exact ⟨ys[i], List.getElem?_eq_getElem hi, .refl, hr, ru⟩
theorem walks_range {lo : Int} {n : Nat} : Walks K R h H (.vals (rangeD lo n)) (Itr lo n) := by
  intro R' h' H' E hr ok
  have hl : (rangeD lo n).length = n := by simp [rangeD]
  refine ⟨fun i hi => by have : i < (rangeD lo n).length := hi; rw [hl] at this; exact this, fun i hi => by have : (rangeD lo n).length ≤ i := hi; rw [hl] at this; exact this, fun i x H2 hi0 y => ?_⟩
  obtain ⟨e, y⟩ := y
  subst e y
  have hi1 : i < n := by have : i < (rangeD lo n).length := hi0; rw [hl] at this; exact this
  refine ⟨.int (lo + (i : Int)), ?_, .refl, hr, by simp only [Py.R0]⟩
  show (rangeD lo n)[i]? = _
  unfold rangeD
  rw [List.getElem?_map, List.getElem?_range hi1]
  rfl
theorem walks_str {x : Str} : Walks K R h H (.vals (chrs x)) (Its x) := by
  intro R' h' H' E hr ok
  have hl : (chrs x).length = x.cps.size := by simp [chrs]
  refine ⟨fun i hi => by have : i < (chrs x).length := hi; rw [hl] at this; exact this, fun i hi => by have : (chrs x).length ≤ i := hi; rw [hl] at this; exact this, fun i v H2 hi0 y => ?_⟩
  obtain ⟨e, c, ec, ev⟩ := y
  subst e ev
  refine ⟨.str ⟨#[c]⟩, ?_, .refl, hr, by simp only [R0]⟩
  show (chrs x)[i]? = _
  unfold chrs
  rw [List.getElem?_map, Array.getElem?_toList, ec]
  rfl
end
/-- what is walked, by what the value turns out to be -/
def iAny (K : PySem.W.Frag) (te : TE) : TI := fun σ H Z => te σ H fun x H1 => (∃ a, x = .ref a ∧ (∃ xs, SqL K H1 a xs) ∧ Z (Itl K a) H1) ∨ (∃ a, x = .ref a ∧ (∃ xs, SqT K H1 a xs) ∧ Z (Itt K a) H1) ∨ (∃ z, x = .str z ∧ Z (Its z) H1)
theorem pi_any {X : Cx} {tg e : Expr} {te : TE} (he : PE X e te) : PI X tg e (iAny X.K te) := by
  refine ⟨fun pins s σ H Z I h => ?_⟩
  refine thn (he.run pins s σ H _ I h) fun v s1 ⟨y, H1, I1, r1, q⟩ => ?_
  rcases q with ⟨a, ex, ⟨xs, hq⟩, q⟩ | ⟨a, ex, ⟨xs, hq⟩, q⟩ | ⟨x, ex, q⟩
  · subst ex
    cases r1
    obtain ⟨its, rv, p, hz⟩ := I1.list hq
    refine wpAny_pyIter_list p.isList ?_
    refine ⟨s1.heap.objs.size, [s1.heap.objs.size], _, _, H1, rfl, I1.kept (t' := s1.toks) fun b o e => Heap.get?_push_of_some _ e, turn_list a _, ⟨_, Heap.get?_push_size _ rfl, rfl, rfl⟩, fun b hb => ?_, q⟩
    have e : b = s1.heap.objs.size := by simpa using hb
    subst e
    exact I1.fpOk (Nat.le_refl _) (I1.hok.fresh (Nat.le_refl _))
  · subst ex
    cases r1
    obtain ⟨its, rv, p, hz⟩ := I1.tuple hq
    refine wpAny_pyIter_tuple (show s1.heap.IsTuple a its.toArray from p) ?_
    refine ⟨s1.heap.objs.size, [s1.heap.objs.size], _, _, H1, rfl, I1.kept (t' := s1.toks) fun b o e => Heap.get?_push_of_some _ e, turn_tuple a _, ⟨_, Heap.get?_push_size _ rfl, rfl, rfl⟩, fun b hb => ?_, q⟩
    have e : b = s1.heap.objs.size := by simpa using hb
    subst e
    exact I1.fpOk (Nat.le_refl _) (I1.hok.fresh (Nat.le_refl _))
  · subst ex
    obtain ⟨t, rfl⟩ := r1
    cases ha : x.cps.all (· < 128)
    · exact wpAny_pyIter_wide ha (pi_one (tk := s1.toks) I1 _ (turn_str _ x t "str_iterator" (.inr rfl)) ⟨_, Heap.get?_push_size _ rfl, rfl, rfl⟩ q)
    · exact wpAny_pyIter_ascii ha (pi_one (tk := s1.toks) I1 _ (turn_str _ x t "str_ascii_iterator" (.inl rfl)) ⟨_, Heap.get?_push_size _ rfl, rfl, rfl⟩ q)
theorem lift_it {K : PySem.W.Frag} {te : TEd} (σ : L2.St) (H : Hp) (Z : It → Hp → Prop) (w : liftI K (itOf te) σ H Z) : iAny K (lift K te) σ H Z := by
  obtain ⟨R, τ, h, P, sr, hr, w, post⟩ := w
  refine ⟨R, τ, h, _, sr, hr, w, fun R1 h1 H1 d v E1 hr1 rd w1 => ?_⟩
  have w1 := w1
  split at w1
  · rename_i xs
    obtain ⟨a, vs, rfl, q, r⟩ := rd.tup
    exact .inr (.inl ⟨a, rfl, ⟨vs, q⟩, post _ _ _ _ _ E1 hr1 w1 (walks_tup q r)⟩)
  · rename_i xs
    obtain ⟨a, vs, rfl, g, q, r, ne⟩ := rd
    refine .inl ⟨a, rfl, ⟨vs, .of q⟩, post _ _ _ _ _ E1 hr1 w1 (walks_lst (fun R' h' H' E => .of (E.frame a _ q ne)) r)⟩
  · have rd' : R0 K H1 R1 h1.length (.rl _) v := rd
    simp only [R0] at rd'
    obtain ⟨a, vs, rfl, q, r⟩ := rd'
    exact .inl ⟨a, rfl, ⟨vs, q.sq⟩, post _ _ _ _ _ E1 hr1 w1 (walks_lst (fun R' h' H' E => (E.frz a vs q).sq) r)⟩
  · cases rd.strE
    exact .inr (.inr ⟨_, rfl, post _ _ _ _ _ E1 hr1 w1.2 walks_str⟩)
  · rename_i j
    obtain ⟨hj, rfl⟩ := rd.locE
    split at w1
    · rename_i xs e
      obtain ⟨_, vs, hw, r⟩ := hr1.lst e
      exact .inl ⟨_, rfl, ⟨vs, .of hw⟩, post _ _ _ _ _ E1 hr1 w1 (walks_live hj)⟩
    · exact w1.elim
  · exact w1.elim
end Py

namespace Py
open PySem PySem.Spec PyProof.Rows L2

/-! ### targets -/
def gAll : List Nat → TGs
  | [] => gNil
  | i :: is => gCons (gName i) (gAll is)
def gOf (K : PySem.W.Frag) : Pat → TG
  | .nm i => gName i
  | .tp is => gTup K is.length (gAll is)
theorem SRel.set {K : PySem.W.Frag} {H : Hp} {R : Nat → Addr} {n i : Nat} {τ : Sd} {σ : L2.St} {d : D} {v : V} (s : SRel K H R n τ σ) (r : R0 K H R n d v) : SRel K H R n (τ.set i (some d)) (σ.set i (some v)) := by
  refine ⟨by rw [List.length_set, List.length_set]; exact s.len, fun j e q => ?_⟩
  by_cases hj : i = j
  · subst hj
    by_cases hi : i < τ.length
    · rw [List.getElem?_set_self hi] at q
      cases q
      exact ⟨v, List.getElem?_set_self (by rw [← s.len]; exact hi), r⟩
    · rw [List.getElem?_eq_none (by simpa using hi)] at q
      cases q
  · rw [List.getElem?_set_ne hj] at q ⊢
    exact s.at_ j e q
theorem SRel.wipe {K : PySem.W.Frag} {H : Hp} {R : Nat → Addr} {n : Nat} {τ : Sd} {σ : L2.St} (s : SRel K H R n τ σ) : ∀ vs : List Nat, SRel K H R n (wipeD τ vs) (L2.wipe σ vs)
  | [] => s
  | i :: vs => by
    have t := SRel.wipe s vs
    unfold wipeD L2.wipe
    refine ⟨by rw [List.length_set, List.length_set]; exact t.len, fun j e q => ?_⟩
    by_cases hj : i = j
    · subst hj
      by_cases hi : i < (wipeD τ vs).length
      · rw [List.getElem?_set_self hi] at q
        cases q
      · rw [List.getElem?_eq_none (by simpa using hi)] at q
        cases q
    · rw [List.getElem?_set_ne hj] at q ⊢
      exact t.at_ j e q
theorem wipe_set (σ : L2.St) (i : Nat) (x : Option V) : ∀ vs : List Nat, i ∈ vs → L2.wipe (σ.set i x) vs = L2.wipe σ vs
  | [], h => by cases h
  | v :: vs, h => by
    unfold L2.wipe
    by_cases hm : i ∈ vs
    · rw [wipe_set σ i x vs hm]
    · have e : i = v := by
        rcases List.mem_cons.mp h with e | h
        · exact e
        · exact absurd h hm
      subst e
      have go : ∀ ws : List Nat, i ∉ ws → L2.wipe (σ.set i x) ws = (L2.wipe σ ws).set i x := by
        intro ws
        induction ws with
        | nil => intro _; rfl
        | cons w ws ih =>
          intro hn
          unfold L2.wipe
          rw [ih fun z => hn (List.mem_cons_of_mem _ z), List.set_comm _ _ (fun z => hn (by rw [z]; exact List.mem_cons_self))]
      rw [go vs hm, List.set_set]
theorem wipe_twice (σ : L2.St) : ∀ vs ws : List Nat, (∀ v ∈ vs, v ∈ ws) → L2.wipe (L2.wipe σ vs) ws = L2.wipe σ ws
  | [], ws, _ => rfl
  | v :: vs, ws, h => by
    show L2.wipe ((L2.wipe σ vs).set v none) ws = _
    rw [wipe_set _ v none ws (h v List.mem_cons_self)]
    exact wipe_twice σ vs ws fun u hu => h u (List.mem_cons_of_mem _ hu)
theorem bind_all {K : PySem.W.Frag} {H : Hp} {R : Nat → Addr} {n : Nat} {Q : L2.St → Hp → Prop} : ∀ {is : List Nat} {ds : List D} {vs : List V} {τ : Sd} {σ : L2.St} {ws : List Nat}, R0s K H R n ds vs → SRel K H R n τ σ → ds.length = is.length → (∀ i ∈ is, i ∈ ws) →
    (∀ σ', SRel K H R n (setAll τ is ds) σ' → L2.wipe σ' ws = L2.wipe σ ws → Q σ' H) → gAll is vs σ H Q
  | [], ds, vs, τ, σ, ws, r, s, hl, _, h => by
    have e : ds = [] := List.eq_nil_of_length_eq_zero hl
    subst e
    simp only [R0s] at r
    exact ⟨r, h σ s rfl⟩
  | i :: is, [], vs, τ, σ, ws, r, s, hl, _, h => by cases hl
  | i :: is, d :: ds, vs, τ, σ, ws, r, s, hl, hm, h => by
    simp only [R0s] at r
    obtain ⟨v, us, rfl, r1, r2⟩ := r
    refine ⟨v, us, rfl, ?_⟩
    refine bind_all r2 (s.set r1) (by simpa using hl) (fun j hj => hm j (List.mem_cons_of_mem _ hj)) fun σ' s' hw => h σ' s' ?_
    rw [hw, wipe_set _ _ _ _ (hm i List.mem_cons_self)]
theorem bind_sim {K : PySem.W.Frag} {H : Hp} {R : Nat → Addr} {n : Nat} {Q : L2.St → Hp → Prop} {p : Pat} {d : D} {v : V} {τ : Sd} {σ : L2.St} {k : Sd → Prop} (r : R0 K H R n d v) (s : SRel K H R n τ σ) (w : bindW p d τ k)
    (h : ∀ τ' σ', SRel K H R n τ' σ' → L2.wipe σ' p.ix = L2.wipe σ p.ix → k τ' → Q σ' H) : gOf K p v σ H Q := by
  cases p with
  | nm i => exact h _ _ (s.set r) (wipe_set _ _ _ _ (by simp [Pat.ix])) w
  | tp is =>
    cases d with
    | tup ds =>
      obtain ⟨w1, w2⟩ : ds.length = is.length ∧ k (setAll τ is ds) := w
      simp only [R0] at r
      obtain ⟨a, vs, rfl, q, r⟩ := r
      refine ⟨a, vs, rfl, q, by rw [← R0s_len r]; exact w1, ?_⟩
      exact bind_all r s w1 (fun i hi => hi) fun σ' s' hw => h _ σ' s' hw w2
    | _ => exact w.elim

def isName : Expr → Option Str
  | .Name x _ => some x
  | _ => none
/-- a name that may be stored, at slot i -/
def chkN (N : List Str) (ss : Scope) (i : Nat) (x : Str) : Bool := decide (N[i]? = some x) && (decide (ss.names.lookup x = some .local) || decide (ss.names.lookup x = some .cell))
def chkE1 (N : List Str) (ss : Scope) (i : Nat) (e : Expr) : Bool := match isName e with | some x => chkN N ss i x | none => false
def chkNs (N : List Str) (ss : Scope) : List Nat → List Expr → Bool
  | [], [] => true
  | i :: is, e :: es => chkE1 N ss i e && chkNs N ss is es
  | _, _ => false
def chkP (N : List Str) (ss : Scope) : Pat → Expr → Bool
  | .nm i, e => chkE1 N ss i e
  | .tp is, .Tuple es _ _ => chkNs N ss is es
  | _, _ => false
theorem isName_ok {e : Expr} {x : Str} (h : isName e = some x) : ∃ p, e = .Name x p := by
  cases e <;> first | cases h | skip
  exact ⟨_, rfl⟩
section
variable {T : Tab} {cl : CallD} {N : List Str} {sc ss : Scope} {X : Cx}
theorem pg_nm (g : Good T cl N sc ss X) {i : Nat} {x : Str} {p : Pos} (h : chkN N ss i x = true) : PG X (.Name x p) (gName i) := by
  unfold chkN at h
  simp only [Bool.and_eq_true, Bool.or_eq_true, decide_eq_true_eq] at h
  obtain ⟨a, b⟩ := g.st x h.2
  exact pg_name (by rw [g.hN]; exact g.nd) (by rw [g.hN]; exact h.1) a b
theorem chkE1_ok {i : Nat} {e : Expr} (h : chkE1 N ss i e = true) : ∃ x p, e = .Name x p ∧ chkN N ss i x = true := by
  unfold chkE1 at h
  split at h
  · rename_i x ex
    obtain ⟨p, rfl⟩ := isName_ok ex
    exact ⟨x, p, rfl, h⟩
  · cases h
theorem pg_all (g : Good T cl N sc ss X) : ∀ {is : List Nat} {es : List Expr}, chkNs N ss is es = true → PGs X es (gAll is) ∧ (assignEach es X.env).length = is.length ∧ (assignEach es X.env).findIdx? (·.1) = none
  | [], [], _ => ⟨pgs_nil, rfl, rfl⟩
  | [], _ :: _, h => by cases h
  | _ :: _, [], h => by cases h
  | i :: is, e :: es, h => by
    unfold chkNs at h
    rw [Bool.and_eq_true] at h
    obtain ⟨h1, h2⟩ := h
    obtain ⟨x, p, rfl, h1⟩ := chkE1_ok h1
    obtain ⟨a, b, c⟩ := pg_all g h2
    refine ⟨pgs_cons (pg_nm g h1) a rfl, ?_, ?_⟩
    · show (assignEach es X.env).length + 1 = is.length + 1
      rw [b]
    · show List.findIdx? (·.1) ((false, _) :: assignEach es X.env) = none
      rw [List.findIdx?_cons]
      simp [c]
theorem pg_of (g : Good T cl N sc ss X) {p : Pat} {e : Expr} (h : chkP N ss p e = true) : PG X e (gOf X.K p) := by
  cases p with
  | nm i =>
    obtain ⟨x, q, rfl, h1⟩ := chkE1_ok (show chkE1 N ss i e = true from h)
    exact pg_nm g h1
  | tp is =>
    cases e with
    | Tuple es k pos =>
      obtain ⟨a, b, c⟩ := pg_all g (show chkNs N ss is es = true from h)
      exact pg_tup g.calm a b c
    | _ => cases h
end
end Py

namespace Py
open PySem PySem.Spec PyProof.Rows L2

/-! ### a comprehension -/
section
variable {K : PySem.W.Frag} {R R1 : Nat → Addr} {h h1 : Hd} {H H1 : Hp}
/-- a list of HandS's that is no place of ours is written -/
theorem Ext.side {p : Addr} {o : HO} {vs : List V} (E : Ext K R h H R1 h1 H1) (hn : H p = none) (hp : H1 p = some (.lst vs)) : Ext K R h H R1 h1 (upd H1 p o) where
  len := E.len
  agr := E.agr
  fresh := E.fresh
  frame := fun a ob e n => by rw [upd_ne (ne_of_none e hn)]; exact E.frame a ob e n
  stay := fun a ob e => by rw [upd_ne (ne_of_none e hn)]; exact E.stay a ob e
  tup := fun a ws r => (E.tup a ws r).imp (rd_wr hp (by intro z; cases z) fun ob z => by cases z) id
  frz := fun a ws r => (E.frz a ws r).imp (fun ⟨ob, r⟩ => ⟨ob, by rw [upd_ne (ne_of r hp (by intro z; cases z))]; exact r⟩) id
theorem side_r0s {p : Addr} {o : HO} {vs : List V} {n : Nat} (hp : H1 p = some (.lst vs)) {ds : List D} {us : List V} (r : R0s K H1 R1 n ds us) : R0s K (upd H1 p o) R1 n ds us :=
  R0s_mono (fun a ws r => r.imp (fun ⟨ob, r⟩ => ⟨ob, by rw [upd_ne (ne_of r hp (by intro z; cases z))]; exact r⟩) id) (fun a ws r => r.imp (rd_wr hp (by intro z; cases z) fun ob z => by cases z) id) (fun i hi => ⟨hi, rfl⟩) ds us r
theorem HRel.side {p : Addr} {o : HO} {vs : List V} (hr : HRel K H1 R1 h1) (hp : H1 p = some (.lst vs)) (ne : ∀ i, i < h1.length → R1 i ≠ p) : HRel K (upd H1 p o) R1 h1 := by
  refine ⟨hr.inj, fun i ob e => ?_⟩
  have hi : i < h1.length := (List.getElem?_eq_some_iff.mp e).1
  have x := hr.obj i ob e
  cases ob with
  | lst ds => obtain ⟨ws, a, b⟩ := x; exact ⟨ws, by rw [upd_ne (ne i hi)]; exact a, side_r0s hp b⟩
  | dct tk ks ws =>
    show dcRel K (upd H1 p o) R1 h1.length tk ks ws (upd H1 p o (R1 i))
    rw [upd_ne (ne i hi)]
    rcases x with ⟨t, kvs, a, b, c⟩ | ⟨t, kvs, a, b, c⟩
    · exact .inl ⟨t, kvs, a, b, side_r0s hp c⟩
    · exact .inr ⟨t, kvs, a, b, side_r0s hp c⟩
  | ins c fs => exact x.elim
end
theorem comp_sim {K : PySem.W.Frag} {it : TId} {p : Pat} {cond : TTd} {elt : TEd} (σ : L2.St) (H : Hp) (Q : VK) (w : lift K (compE it p cond elt) σ H Q) :
    tLc (liftI K it) (gOf K p) (liftT K cond) (lift K elt) p.ix σ H Q := by
  obtain ⟨R, τ, h, P, sr, hr, w, post⟩ := w
  refine ⟨R, τ, h, _, sr, hr, w, fun R1 h1 H1 wk J E1 hr1 w1 wlk => ?_⟩
  intro D hD
  have hDH : H D = none := E1.none_of hD
  -- the invariant
  refine ⟨fun i m H' => m = wk.xs.length - i ∧ i ≤ wk.xs.length ∧ ∃ R' h' acc av, Ext K R1 h1 H1 R' h' H' ∧ HRel K H' R' h' ∧ (∀ j, j < h'.length → R' j ≠ D) ∧ H' D = some (.lst av) ∧ R0s K H' R' h'.length acc av ∧
      compW wk.ok p cond elt (wipeD τ p.ix) (fun acc h2 => P (.tl acc) h2) (wk.xs.drop i) acc h', ⟨wk.xs.length, by simp, Nat.zero_le _, R1, h1, [], [], Ext.laid hD, hr1.laid hD, hr1.nep hD, upd_same, by simp only [R0s], w1⟩, ?_⟩
  rintro i m H2 ⟨rfl, hi, R2, h2, acc, av, E2, hr2, nD, eD, ra, cw⟩
  by_cases hlt : i < wk.xs.length
  · refine .inr ?_
    rw [List.drop_eq_getElem_cons hlt] at cw
    obtain ⟨ok, cw⟩ := cw
    obtain ⟨wgo, wstop, wyld⟩ := wlk R2 h2 H2 E2 hr2 ok
    refine ⟨wgo i hlt, _, fun H' q => ⟨wk.xs.length - (i + 1), by omega, q⟩, fun x H3 y => ?_⟩
    obtain ⟨d, ed, E3, hr3, rd⟩ := wyld i x H3 hlt y
    rw [List.getElem?_eq_getElem hlt] at ed
    cases ed
    have eD3 : H3 D = some (.lst av) := E3.frame _ _ eD nD
    have sw : SRel K H3 R2 h2.length (wipeD τ p.ix) (L2.wipe σ p.ix) := E3.srel (E2.srel (E1.srel (sr.wipe p.ix)))
    refine bind_sim rd sw cw fun τ' σ' s' hw cw' => ?_
    refine ⟨by rw [hw, wipe_twice _ _ _ fun v hv => hv], R2, τ', h2, _, s', hr3, cw', fun R4 h4 H4 b E4 hr4 cw4 => ?_⟩
    have nD4 := E4.ne eD3 nD
    have eD4 : H4 D = some (.lst av) := E4.frame _ _ eD3 nD
    have E14 := (E2.trans E3).trans E4
    cases b with
    | false =>
      rw [if_neg Bool.false_ne_true] at cw4
      refine iteF ?_
      exact ⟨rfl, hlt, R4, h4, acc, av, E14, hr4, nD4, eD4, E4.r0s (E3.r0s ra), cw4⟩
    | true =>
      rw [if_pos rfl] at cw4
      refine iteT ?_
      refine ⟨R4, τ', h4, _, E4.srel s', hr4, cw4, fun R5 h5 H5 y v E5 hr5 ry cw5 => ?_⟩
      obtain ⟨R6, h6, y', E6, hr6, ag, ry', cw6⟩ := mat_ok E5 hr5 ry cw5
      have eD5 : H5 D = some (.lst av) := E5.frame _ _ eD4 nD4
      have nD6 := E6.ne eD4 nD4
      obtain ⟨hz, cw6⟩ := cw6
      have ra6 : R0s K H5 R6 h6.length acc av := E6.r0s (E4.r0s (E3.r0s ra))
      refine ⟨av, eD5, by rw [← R0s_len ra6]; exact hz, rfl, hlt, R6, h6, acc ++ [y'], av ++ [v], (E14.trans E6).side hD eD5, hr6.side eD5 nD6, nD6, upd_same, side_r0s eD5 (R0s_append ra6 (R0s_one ry')), cw6⟩
  · have e : i = wk.xs.length := by omega
    subst e
    rw [List.drop_eq_nil_of_le (Nat.le_refl _)] at cw
    obtain ⟨ok, cw⟩ := cw
    obtain ⟨wgo, wstop, wyld⟩ := wlk R2 h2 H2 E2 hr2 ok
    exact .inl ⟨wstop _ (Nat.le_refl _), post R2 h2 H2 (.tl acc) (.ref D) (E1.trans E2) hr2 ⟨D, av, rfl, hDH, eD, ra, nD⟩ cw⟩
end Py

namespace Py
open PySem PySem.Spec PyProof.Rows L2

/-! ### what the syntax of an operation is -/
def glC (sc : Scope) (x : Str) : Bool := decide (sc.names.lookup x = some .globalImplicit)
def binA (op : Operator) : Expr → Option (List Expr)
  | .BinOp l o r _ => if o = op then some [l, r] else none
  | _ => none
def cmpA (op : CmpOp) : Expr → Option (List Expr)
  | .Compare l [o] [r] _ => if o = op ∧ noSet r = true then some [l, r] else none
  | _ => none
def call1 (T : Tab) (sc : Scope) (x : Str) : Expr → Option (List Expr)
  | .Call (.Name y _) [a] [] _ => if y = x ∧ x ∈ T.bn ∧ glC sc x = true ∧ noStar a = true then some [a] else none
  | _ => none
def callSet (T : Tab) (sc : Scope) (x : Str) : Expr → Option (List Expr)
  | .Call (.Name y _) [.Call (.Name z _) [a] [] _] [] _ => if y = x ∧ z = ("set" : Str) ∧ x ∈ T.bn ∧ ("set" : Str) ∈ T.bn ∧ glC sc x = true ∧ glC sc ("set" : Str) = true ∧ noStar a = true then some [a] else none
  | _ => none
def callRng (T : Tab) (sc : Scope) (x : Str) : Expr → Option (List Expr)
  | .Call (.Name y _) [.Call (.Name z _) [a] [] _] [] _ => if y = x ∧ z = ("range" : Str) ∧ x ∈ T.bn ∧ ("range" : Str) ∈ T.bn ∧ glC sc x = true ∧ glC sc ("range" : Str) = true ∧ noStar a = true then some [a] else none
  | _ => none
def call2 (T : Tab) (sc : Scope) (x : Str) : Expr → Option (List Expr)
  | .Call (.Name y _) [a, b] [] _ => if y = x ∧ x ∈ T.bn ∧ glC sc x = true ∧ noStar a = true ∧ noStar b = true then some [a, b] else none
  | _ => none
def callX2 (T : Tab) (sc : Scope) (id : String) : Expr → Option (List Expr)
  | .Call (.Name y _) [a, b] [] _ => if T.ex.lookup y = some id ∧ glC sc y = true ∧ noStar a = true ∧ noStar b = true ∧ (y == ("__debug__" : Str)) = false then some [a, b] else none
  | _ => none
def meth0 (m : Str) : Expr → Option (List Expr)
  | .Call (.Attribute o n apos) [] [] pos => if n = m ∧ noSuper o = true ∧ (apos.endLine == pos.line) = true then some [o] else none
  | _ => none
def meth1 (m : Str) : Expr → Option (List Expr)
  | .Call (.Attribute o n apos) [a] [] pos => if n = m ∧ noSuper o = true ∧ (apos.endLine == pos.line) = true ∧ noStar a = true then some [o, a] else none
  | _ => none
def tyName : String → Str
  | "int" => "int" | "bool" => "bool" | "str" => "str" | "tuple" => "tuple" | "list" => "list" | "dict" => "dict" | _ => "?"
def instA (T : Tab) (sc : Scope) (t : String) : Expr → Option (List Expr)
  | .Call (.Name y _) [a, .Name c _] [] _ => if y = ("isinstance" : Str) ∧ ("isinstance" : Str) ∈ T.bn ∧ glC sc ("isinstance" : Str) = true ∧ noStar a = true ∧ t ∈ instTypes ∧ c = tyName t ∧ c ∈ T.bn ∧ glC sc c = true then some [a] else none
  | _ => none
def primArgs (T : Tab) (sc : Scope) : Prim → Expr → Option (List Expr)
  | .add, e => binA .Add e
  | .sub, e => binA .Sub e
  | .mul, e => binA .Mult e
  | .fdiv, e => binA .FloorDiv e
  | .mod, e => binA .Mod e
  | .pow, e => binA .Pow e
  | .neg, .UnaryOp .USub a _ => some [a]
  | .eq, e => cmpA .Eq e
  | .ne, e => cmpA .NotEq e
  | .lt, e => cmpA .Lt e
  | .le, e => cmpA .LtE e
  | .gt, e => cmpA .Gt e
  | .ge, e => cmpA .GtE e
  | .is_, e => cmpA .Is e
  | .isnot, e => cmpA .IsNot e
  | .in_, e => cmpA .In e
  | .notin, e => cmpA .NotIn e
  | .idx, .Subscript o i _ => if noSlice i = true then some [o, i] else none
  | .slLo, .Subscript o (.Slice (some a) none none _) _ => some [o, a]
  | .slHi, .Subscript o (.Slice none (some a) none _) _ => some [o, a]
  | .rev, .Subscript o (.Slice none none (some (.UnaryOp .USub (.Constant (.int 1) _ _) _)) _) _ => some [o]
  | .len, e => call1 T sc "len" e
  | .abs, e => call1 T sc "abs" e
  | .int1, e => call1 T sc "int" e
  | .gcd, e => callX2 T sc "math.gcd" e
  | .list, e => call1 T sc "list" e
  | .tuple, e => call1 T sc "tuple" e
  | .bits, e => meth0 "bit_length" e
  | .inst t, e => instA T sc t e
  | .pop, e => meth0 "pop" e
  | .reverse, e => meth0 "reverse" e
  | .any, e => call1 T sc "any" e
  | .all, e => call1 T sc "all" e
  | .sum, e => call1 T sc "sum" e
  | .maxL, e => call1 T sc "max" e
  | .minL, e => call1 T sc "min" e
  | .sorted, e => call1 T sc "sorted" e
  | .max2, e => call2 T sc "max" e
  | .min2, e => call2 T sc "min" e
  | .sortedSet, e => callSet T sc "sorted" e
  | .lenSet, e => callSet T sc "len" e
  | .dnew, .Dict [] [] _ => some []
  | .dget, .Subscript o i _ => if noSlice i = true then some [o, i] else none
  | .din, e => cmpA .In e
  | .dnotin, e => cmpA .NotIn e
  | .dlen, e => call1 T sc "len" e
  | .lrng, e => callRng T sc "list" e
  | _, _ => none

def hd2 : List Expr → Option (Expr × List Expr)
  | o :: r => some (o, r)
  | [] => none
def methArgs (T : Tab) (sc : Scope) : MP → Expr → Option (Expr × List Expr)
  | .append, e => (meth1 "append" e).bind hd2
theorem binA_inv {op : Operator} {e : Expr} {es : List Expr} (h : binA op e = some es) : ∃ l r pos, e = .BinOp l op r pos ∧ es = [l, r] := by
  unfold binA at h
  split at h
  · split at h
    · rename_i q; subst q; cases h; exact ⟨_, _, _, rfl, rfl⟩
    · cases h
  · cases h
theorem cmpA_inv {op : CmpOp} {e : Expr} {es : List Expr} (h : cmpA op e = some es) : ∃ l r pos, e = .Compare l [op] [r] pos ∧ es = [l, r] ∧ noSet r = true := by
  unfold cmpA at h
  split at h
  · split at h
    · rename_i q; obtain ⟨q, z⟩ := q; subst q; cases h; exact ⟨_, _, _, rfl, rfl, z⟩
    · cases h
  · cases h
theorem call1_inv {T : Tab} {sc : Scope} {x : Str} {e : Expr} {es : List Expr} (h : call1 T sc x e = some es) : ∃ a p pos, e = .Call (.Name x p) [a] [] pos ∧ es = [a] ∧ x ∈ T.bn ∧ sc.names.lookup x = some .globalImplicit ∧ noStar a = true := by
  unfold call1 at h
  split at h
  · split at h
    · rename_i q; obtain ⟨q, z1, z2, z3⟩ := q; subst q; cases h; exact ⟨_, _, _, rfl, rfl, z1, of_decide_eq_true z2, z3⟩
    · cases h
  · cases h
theorem callSet_inv {T : Tab} {sc : Scope} {x : Str} {e : Expr} {es : List Expr} (h : callSet T sc x e = some es) : ∃ a p p2 q pos, e = .Call (.Name x p) [.Call (.Name "set" p2) [a] [] q] [] pos ∧ es = [a] ∧ x ∈ T.bn ∧ ("set" : Str) ∈ T.bn ∧
    sc.names.lookup x = some .globalImplicit ∧ sc.names.lookup ("set" : Str) = some .globalImplicit ∧ noStar a = true := by
  unfold callSet at h
  split at h
  · split at h
    · rename_i q; obtain ⟨q1, q2, z1, z2, z3, z4, z5⟩ := q; subst q1 q2; cases h; exact ⟨_, _, _, _, _, rfl, rfl, z1, z2, of_decide_eq_true z3, of_decide_eq_true z4, z5⟩
    · cases h
  · cases h
theorem callRng_inv {T : Tab} {sc : Scope} {x : Str} {e : Expr} {es : List Expr} (h : callRng T sc x e = some es) : ∃ a p p2 q pos, e = .Call (.Name x p) [.Call (.Name "range" p2) [a] [] q] [] pos ∧ es = [a] ∧ x ∈ T.bn ∧ ("range" : Str) ∈ T.bn ∧
    sc.names.lookup x = some .globalImplicit ∧ sc.names.lookup ("range" : Str) = some .globalImplicit ∧ noStar a = true := by
  unfold callRng at h
  split at h
  · split at h
    · rename_i q; obtain ⟨q1, q2, z1, z2, z3, z4, z5⟩ := q; subst q1 q2; cases h; exact ⟨_, _, _, _, _, rfl, rfl, z1, z2, of_decide_eq_true z3, of_decide_eq_true z4, z5⟩
    · cases h
  · cases h
theorem call2_inv {T : Tab} {sc : Scope} {x : Str} {e : Expr} {es : List Expr} (h : call2 T sc x e = some es) : ∃ a b p pos, e = .Call (.Name x p) [a, b] [] pos ∧ es = [a, b] ∧ x ∈ T.bn ∧ sc.names.lookup x = some .globalImplicit ∧ noStar a = true ∧ noStar b = true := by
  unfold call2 at h
  split at h
  · split at h
    · rename_i q; obtain ⟨rfl, z0, z2, z3, z4⟩ := q; cases h; exact ⟨_, _, _, _, rfl, rfl, z0, of_decide_eq_true z2, z3, z4⟩
    · cases h
  · cases h
theorem callX2_inv {T : Tab} {sc : Scope} {id : String} {e : Expr} {es : List Expr} (h : callX2 T sc id e = some es) : ∃ x a b p pos, e = .Call (.Name x p) [a, b] [] pos ∧ es = [a, b] ∧ T.ex.lookup x = some id ∧ sc.names.lookup x = some .globalImplicit ∧ noStar a = true ∧ noStar b = true ∧ (x == ("__debug__" : Str)) = false := by
  unfold callX2 at h
  split at h
  · split at h
    · rename_i q; obtain ⟨z0, z2, z3, z4, z5⟩ := q; cases h; exact ⟨_, _, _, _, _, rfl, rfl, z0, of_decide_eq_true z2, z3, z4, z5⟩
    · cases h
  · cases h
theorem meth0_inv {m : Str} {e : Expr} {es : List Expr} (h : meth0 m e = some es) : ∃ o apos pos, e = .Call (.Attribute o m apos) [] [] pos ∧ es = [o] ∧ noSuper o = true ∧ (apos.endLine == pos.line) = true := by
  unfold meth0 at h
  split at h
  · split at h
    · rename_i q; obtain ⟨q, z1, z2⟩ := q; subst q; cases h; exact ⟨_, _, _, rfl, rfl, z1, z2⟩
    · cases h
  · cases h
theorem meth1_inv {m : Str} {e : Expr} {es : List Expr} (h : meth1 m e = some es) : ∃ o a apos pos, e = .Call (.Attribute o m apos) [a] [] pos ∧ es = [o, a] ∧ noSuper o = true ∧ (apos.endLine == pos.line) = true ∧ noStar a = true := by
  unfold meth1 at h
  split at h
  · split at h
    · rename_i q; obtain ⟨q, z1, z2, z3⟩ := q; subst q; cases h; exact ⟨_, _, _, _, rfl, rfl, z1, z2, z3⟩
    · cases h
  · cases h
theorem instA_inv {T : Tab} {sc : Scope} {t : String} {e : Expr} {es : List Expr} (h : instA T sc t e = some es) : ∃ a p q pos, e = .Call (.Name "isinstance" p) [a, .Name (tyName t) q] [] pos ∧ es = [a] ∧ ("isinstance" : Str) ∈ T.bn ∧ sc.names.lookup ("isinstance" : Str) = some .globalImplicit ∧ noStar a = true ∧
    t ∈ instTypes ∧ tyName t ∈ T.bn ∧ sc.names.lookup (tyName t) = some .globalImplicit := by
  unfold instA at h
  split at h
  · split at h
    · rename_i q; obtain ⟨q, z1, z2, z3, z4, z5, z6, z7⟩ := q; subst q z5; cases h; exact ⟨_, _, _, _, rfl, rfl, z1, of_decide_eq_true z2, z3, z4, z6, of_decide_eq_true z7⟩
    · cases h
  · cases h

/-! ### the arguments' readings -/
def ArgsOk (cl : CallD) (gl : List (Str × D)) (X : Cx) : CE → List Expr → Prop
  | .anil, [] => True
  | .acons a r, e :: es => PE X e (lift X.K (wp cl gl a).e) ∧ ArgsOk cl gl X r es
  | _, _ => False
section
variable {T : Tab} {cl : CallD} {gl : List (Str × D)} {N : List Str} {sc ss : Scope} {X : Cx}
theorem ArgsOk.nil {as : CE} (h : ArgsOk cl gl X as []) : as = .anil := by
  cases as <;> first | rfl | exact False.elim h
theorem ArgsOk.cons {as : CE} {e : Expr} {es : List Expr} (h : ArgsOk cl gl X as (e :: es)) : ∃ a r, as = .acons a r ∧ PE X e (lift X.K (wp cl gl a).e) ∧ ArgsOk cl gl X r es := by
  cases as <;> first | exact ⟨_, _, rfl, h.1, h.2⟩ | exact False.elim h
theorem ArgsOk.one {as : CE} {e : Expr} (h : ArgsOk cl gl X as [e]) : ∃ a, as = .acons a .anil ∧ PE X e (lift X.K (wp cl gl a).e) := by
  obtain ⟨a, r, rfl, h1, h2⟩ := h.cons
  cases h2.nil
  exact ⟨a, rfl, h1⟩
theorem ArgsOk.two {as : CE} {e f : Expr} (h : ArgsOk cl gl X as [e, f]) : ∃ a b, as = .acons a (.acons b .anil) ∧ PE X e (lift X.K (wp cl gl a).e) ∧ PE X f (lift X.K (wp cl gl b).e) := by
  obtain ⟨a, r, rfl, h1, h2⟩ := h.cons
  obtain ⟨b, rfl, h3⟩ := h2.one
  exact ⟨a, b, rfl, h1, h3⟩
theorem ArgsOk.three {as : CE} {e f k : Expr} (h : ArgsOk cl gl X as [e, f, k]) : ∃ a b c, as = .acons a (.acons b (.acons c .anil)) ∧ PE X e (lift X.K (wp cl gl a).e) ∧ PE X f (lift X.K (wp cl gl b).e) ∧ PE X k (lift X.K (wp cl gl c).e) := by
  obtain ⟨a, r, rfl, h1, h2⟩ := h.cons
  obtain ⟨b, c, rfl, h3, h4⟩ := h2.two
  exact ⟨a, b, c, rfl, h1, h3, h4⟩

/-- arguments that each get a place -/
def liftA (K : PySem.W.Frag) (t : TAd) : TA := fun σ H Q => ∃ R τ h P, SRel K H R h.length τ σ ∧ HRel K H R h ∧ t τ h P ∧
  ∀ R' h' H' ds vs, Ext K R h H R' h' H' → HRel K H' R' h' → R0s K H' R' h'.length ds vs → P ds h' → Q vs H'
theorem args_ok : ∀ {as : CE} {es : List Expr}, es.all noStar = true → ArgsOk cl gl X as es → PA X es (liftA X.K ((wp cl gl as).a true))
  | as, [], _, h => by
    cases h.nil
    refine PA.imp pa_nil fun σ H Q ⟨R, τ, h, P, sr, hr, w, post⟩ => ?_
    exact post R h H [] [] .refl hr (by simp only [R0s]) w
  | as, e :: es, hs, h => by
    rw [List.all_cons, Bool.and_eq_true] at hs
    obtain ⟨a, r, rfl, h1, h2⟩ := h.cons
    refine PA.imp (pa_cons h1 (args_ok hs.2 h2) (star_cons hs.1)) fun σ H Q ⟨R, τ, h, P, sr, hr, w, post⟩ => ?_
    refine ⟨R, τ, h, _, sr, hr, w, fun R1 h1 H1 d v E1 hr1 rd w1 => ?_⟩
    obtain ⟨R2, h2, d', E2, hr2, ag, rd', w2⟩ := mat_ok E1 hr1 rd w1
    refine ⟨R2, τ, h2, _, E2.srel sr, hr2, w2, fun R3 h3 H3 ds vs E3 hr3 rs w3 => ?_⟩
    refine post R3 h3 H3 (d' :: ds) (v :: vs) (E2.trans E3) hr3 ?_ w3
    simp only [R0s]
    exact ⟨v, vs, rfl, E3.r0 rd', rs⟩

/-! ### operations -/
theorem s_bin {op : Operator} {r : R2} {p : D → D → Hd → PD → Prop} {ta tb : TEd} {l r' : Expr} {pos : Pos} (ho : OpR X (binaryOp op) r) (sm : Sim2 X.K r p) (ha : PE X l (lift X.K ta)) (hb : PE X r' (lift X.K tb)) :
    PE X (.BinOp l op r' pos) (lift X.K fun τ h Q => ta τ h fun x h1 => tb τ h1 fun y h2 => p x y h2 Q) := PE.imp (pe_op ho ha hb) fun σ H Q w => lift_bin sm σ H Q w
theorem s_cmp {op : CmpOp} {r : R2} {p : D → D → Hd → PD → Prop} {ta tb : TEd} {l r' : Expr} {pos : Pos} (ho : OpR X (compareOp op) r) (sm : Sim2 X.K r p) (hn : noSet r' = true) (ha : PE X l (lift X.K ta)) (hb : PE X r' (lift X.K tb)) :
    PE X (.Compare l [op] [r'] pos) (lift X.K fun τ h Q => ta τ h fun x h1 => tb τ h1 fun y h2 => p x y h2 Q) := PE.imp (pe_cmpR ho ha hb (noSet_mark hn)) fun σ H Q w => lift_bin sm σ H Q w
theorem s_call1 {x : Str} {id : String} {r : List V → Hp → VK → Prop} {p : D → Hd → PD → Prop} {ta : TEd} {a : Expr} {q pos : Pos} (g : Good T cl N sc ss X) (hc : CallR X (.builtin id) r) (sm : CSim1 X.K r p) (hv : bootBuiltins x = some (.builtin id))
    (hx : x ∈ T.bn) (hg : sc.names.lookup x = some .globalImplicit) (hs : noStar a = true) (ha : PE X a (lift X.K ta)) (hn : x ≠ "__name__" := by decide) (hd : (x == ("__debug__" : Str)) = false := by decide) :
    PE X (.Call (.Name x q) [a] [] pos) (lift X.K fun τ h Q => ta τ h fun x h1 => p x h1 Q) :=
  PE.imp (pe_callB hc (by unfold Gl Env.kindOf; rw [g.hsc]; exact hg) (g.bn x hx) hv (pa_cons ha pa_nil (star_cons hs)) hn hd (star_cons hs) rfl) fun σ H Q w => lift_un (r := fun x H Q => r [x] H Q) sm σ H Q w
theorem s_call2 {x : Str} {id : String} {r : List V → Hp → VK → Prop} {p : D → D → Hd → PD → Prop} {ta tb : TEd} {a b : Expr} {q pos : Pos} (g : Good T cl N sc ss X) (hc : CallR X (.builtin id) r) (sm : CSim2 X.K r p) (hv : bootBuiltins x = some (.builtin id))
    (hx : x ∈ T.bn) (hg : sc.names.lookup x = some .globalImplicit) (hs : noStar a = true) (hs2 : noStar b = true) (ha : PE X a (lift X.K ta)) (hb : PE X b (lift X.K tb)) (hn : x ≠ "__name__" := by decide) (hd : (x == ("__debug__" : Str)) = false := by decide) :
    PE X (.Call (.Name x q) [a, b] [] pos) (lift X.K fun τ h Q => ta τ h fun x h1 => tb τ h1 fun y h2 => p x y h2 Q) :=
  PE.imp (pe_callB hc (by unfold Gl Env.kindOf; rw [g.hsc]; exact hg) (g.bn x hx) hv (pa_cons ha (pa_cons hb pa_nil (star_cons hs2)) (star_cons hs)) hn hd (star_cons hs) (star_any (by simp [hs2]))) fun σ H Q w => lift_bin (r := fun x y H Q => r [x, y] H Q) sm σ H Q w
theorem s_ty1 {x : Str} {id : String} {r : List V → Hp → VK → Prop} {p : D → Hd → PD → Prop} {ta : TEd} {a : Expr} {q pos : Pos} (g : Good T cl N sc ss X) (hc : CallR X (.type id) r) (sm : CSim1 X.K r p) (hv : bootBuiltins x = some (.type id))
    (hx : x ∈ T.bn) (hg : sc.names.lookup x = some .globalImplicit) (hs : noStar a = true) (ha : PE X a (lift X.K ta)) (hn : x ≠ "__name__" := by decide) (hd : (x == ("__debug__" : Str)) = false := by decide) :
    PE X (.Call (.Name x q) [a] [] pos) (lift X.K fun τ h Q => ta τ h fun x h1 => p x h1 Q) :=
  PE.imp (pe_callTy hc (by unfold Gl Env.kindOf; rw [g.hsc]; exact hg) (g.bn x hx) hv (pa_cons ha pa_nil (star_cons hs)) hn hd (star_cons hs) rfl) fun σ H Q w => lift_un (r := fun x H Q => r [x] H Q) sm σ H Q w
theorem s_callX2 {x : Str} {id : String} {r : List V → Hp → VK → Prop} {p : D → D → Hd → PD → Prop} {ta tb : TEd} {a b : Expr} {q pos : Pos} (g : Good T cl N sc ss X) (hc : CallR X (.builtin id) r) (sm : CSim2 X.K r p)
    (hx : T.ex.lookup x = some id) (hg : sc.names.lookup x = some .globalImplicit) (hs : noStar a = true) (hs2 : noStar b = true) (hd : (x == ("__debug__" : Str)) = false) (ha : PE X a (lift X.K ta)) (hb : PE X b (lift X.K tb)) :
    PE X (.Call (.Name x q) [a, b] [] pos) (lift X.K fun τ h Q => ta τ h fun x h1 => tb τ h1 fun y h2 => p x y h2 Q) :=
  PE.imp (pe_callBfun hc (by unfold Gl Env.kindOf; rw [g.hsc]; exact hg) (g.ex x id hx) (pa_cons ha (pa_cons hb pa_nil (star_cons hs2)) (star_cons hs)) hd (star_cons hs) (star_any (by simp [hs2]))) fun σ H Q w => lift_bin (r := fun x y H Q => r [x, y] H Q) sm σ H Q w
/-- the types of lists -/
theorem ty_list {K : PySem.W.Frag} {H : Hp} {a : Addr} {vs : List V} (h : H a = some (.lst vs)) : tyV K "list" (.ref a) H := .inl ⟨rfl, vs, .of h⟩
def SimM0 (K : PySem.W.Frag) (T : String) (r : V → List V → Hp → VK → Prop) (p : D → Hd → PD → Prop) : Prop := Sim1 K (fun x H Q => tyV K T x H ∧ r x [] H Q) p
theorem s_meth0 {T0 id : String} {m : Str} {r : V → List V → Hp → VK → Prop} {p : D → Hd → PD → Prop} {ta : TEd} {o : Expr} {apos pos : Pos} (pa : PlainAttrs T0) (slot : Slot T0 m id) (hty : typeOf (.builtin id) = pure (.type "method_descriptor")) (hm : MtR X id r)
    (sm : SimM0 X.K T0 r p) (hs : noSuper o = true) (hl : (apos.endLine == pos.line) = true) (ha : PE X o (lift X.K ta)) : PE X (.Call (.Attribute o m apos) [] [] pos) (lift X.K fun τ h Q => ta τ h fun x h1 => p x h1 Q) :=
  PE.imp (pe_bm0 pa slot hty hm ha (noSuper_ok hs) hl) fun σ H Q w => lift_un (r := fun x H Q => tyV X.K T0 x H ∧ r x [] H Q) sm σ H Q w
end
end Py

namespace Py
open PySem PySem.Spec PyProof.Rows L2
section
variable {T : Tab} {cl : CallD} {gl : List (Str × D)} {N : List Str} {sc ss : Scope} {X : Cx}

theorem sim_popM {K : PySem.W.Frag} : SimM0 K "list" rPop popW := by
  intro R h H G x v P Q hr rx w p
  refine ⟨?_, sim_pop R h H G x v P Q hr rx w p⟩
  unfold popW at w
  split at w
  · obtain ⟨hi, rfl⟩ := rx.locE
    split at w
    · rename_i xs e
      obtain ⟨_, vs, hw, r⟩ := hr.lst e
      exact ty_list hw
    · exact w.elim
  · exact w.elim
theorem sim_reverseM {K : PySem.W.Frag} : SimM0 K "list" rReverse reverseW := by
  intro R h H G x v P Q hr rx w p
  refine ⟨?_, sim_reverse R h H G x v P Q hr rx w p⟩
  unfold reverseW at w
  split at w
  · obtain ⟨hi, rfl⟩ := rx.locE
    split at w
    · rename_i xs e
      obtain ⟨_, vs, hw, r⟩ := hr.lst e
      exact ty_list hw
    · exact w.elim
  · exact w.elim
theorem s_append {ta : TEd} {as : CE} {o a : Expr} {apos pos : Pos} (hs : noSuper o = true) (hl : (apos.endLine == pos.line) = true) (hn : noStar a = true) (ho : PE X o (lift X.K ta)) (ha : ArgsOk cl gl X as [a]) :
    PE X (.Call (.Attribute o "append" apos) [a] [] pos) (lift X.K (methE .append ta (wp cl gl as).a)) := by
  have hns : [a].all noStar = true := by simp [hn]
  refine PE.imp (pe_bm PySem.F.plainAttrs_list PySem.F.slot_list_append PySem.F.type_list_append mt_append ho (args_ok hns ha) (noSuper_ok hs) ?_ hl (star_cons hn) rfl) fun σ H Q w => ?_
  · rw [star_all hns]
    rfl
  · obtain ⟨R, τ, h, P, sr, hr, w, post⟩ := w
    refine ⟨R, τ, h, _, sr, hr, w, fun R1 h1 H1 x v E1 hr1 rx w1 => ?_⟩
    obtain ⟨ty, w1⟩ := w1
    obtain ⟨xs, ex⟩ := Option.isSome_iff_exists.mp ty
    obtain ⟨b, vs, rfl, hb, rb⟩ := rx.mlst hr1 ex
    refine ⟨ty_list hb, R1, τ, h1, _, E1.srel sr, hr1, w1, fun R2 h2 H2 ds us E2 hr2 rs w2 => ?_⟩
    match ds, w2 with
    | [y], w2 =>
      simp only [R0s] at rs
      obtain ⟨u, us', rfl, ry, rfl⟩ := rs
      exact sim_append R2 h2 H2 H x y (.ref b) u P Q hr2 (E2.rt rx) ry w2 ((post.on E1).on E2)
    | [], w2 => exact w2.elim
    | _ :: _ :: _, w2 => exact w2.elim

theorem s_sl2 {ta tb tc : TEd} {o a b : Expr} {p pos : Pos} (ho : PE X o (lift X.K ta)) (ha : PE X a (lift X.K tb)) (hb : PE X b (lift X.K tc)) : PE X (.Subscript o (.Slice (some a) (some b) none p) pos) (lift X.K (sl2E ta tb tc)) := by
  refine PE.imp (pe_slice ok_sl ho (po_some ha) (po_some hb)) fun σ H Q w => ?_
  obtain ⟨R, τ, h, P, sr, hr, w, post⟩ := w
  refine ⟨R, τ, h, _, sr, hr, w, fun R1 h1 H1 x v E1 hr1 rx w1 => ⟨R1, τ, h1, _, E1.srel sr, hr1, w1, fun R2 h2 H2 y u E2 hr2 ry w2 => ?_⟩⟩
  cases y with
  | int i =>
    cases ry.intE
    refine ⟨i, rfl, R2, τ, h2, _, E2.srel (E1.srel sr), hr2, w2, fun R3 h3 H3 z u' E3 hr3 rz w3 => ?_⟩
    cases z with
    | int j =>
      cases rz.intE
      exact ⟨j, rfl, sim_sl R3 h3 H3 H x v P Q hr3 (E3.rt (E2.rt rx)) w3 (((post.on E1).on E2).on E3)⟩
    | _ => exact w3.elim
  | _ => exact w2.elim
/-! ### an operation's reading -/
theorem tyName_boot : ∀ t ∈ instTypes, bootBuiltins (tyName t) = some (.type t) ∧ tyName t ≠ "__name__" ∧ (tyName t == ("__debug__" : Str)) = false := by decide +kernel
theorem prim_ok (g : Good T cl N sc ss X) {p : Prim} {e : Expr} {es : List Expr} {as : CE} (hp : primArgs T sc p e = some es) (ha : ArgsOk cl gl X as es) : PE X e (lift X.K (wp cl gl (.prim p as)).e) := by
  have bin : ∀ {op : Operator} {r : R2}, binA op e = some es → OpR X (binaryOp op) r → Sim2 X.K r (fun x y h Q => wpP p [x, y] h Q) → PE X e (lift X.K (wp cl gl (.prim p as)).e) := by
    intro op r h1 h2 h3
    obtain ⟨l, r', pos, rfl, rfl⟩ := binA_inv h1
    obtain ⟨a1, b1, rfl, ha1, hb1⟩ := ha.two
    exact s_bin (ta := (wp cl gl a1).e) (tb := (wp cl gl b1).e) h2 h3 ha1 hb1
  have cmp : ∀ {op : CmpOp} {r : R2}, cmpA op e = some es → OpR X (compareOp op) r → Sim2 X.K r (fun x y h Q => wpP p [x, y] h Q) → PE X e (lift X.K (wp cl gl (.prim p as)).e) := by
    intro op r h1 h2 h3
    obtain ⟨l, r', pos, rfl, rfl, hn⟩ := cmpA_inv h1
    obtain ⟨a1, b1, rfl, ha1, hb1⟩ := ha.two
    exact s_cmp (ta := (wp cl gl a1).e) (tb := (wp cl gl b1).e) h2 h3 hn ha1 hb1
  have fun1 : ∀ {x : Str} {id : String} {r : List V → Hp → VK → Prop}, call1 T sc x e = some es → CallR X (.builtin id) r → CSim1 X.K r (fun x h Q => wpP p [x] h Q) → bootBuiltins x = some (.builtin id) → x ≠ "__name__" → (x == ("__debug__" : Str)) = false →
      PE X e (lift X.K (wp cl gl (.prim p as)).e) := by
    intro x id r h1 h2 h3 h4 h5 h6
    obtain ⟨a, q, pos, rfl, rfl, z1, z2, z3⟩ := call1_inv h1
    obtain ⟨a1, rfl, ha1⟩ := ha.one
    exact s_call1 (ta := (wp cl gl a1).e) (p := fun x h Q => wpP p [x] h Q) g h2 h3 h4 z1 z2 z3 ha1 h5 h6
  have ty1 : ∀ {x : Str} {id : String} {r : List V → Hp → VK → Prop}, call1 T sc x e = some es → CallR X (.type id) r → CSim1 X.K r (fun x h Q => wpP p [x] h Q) → bootBuiltins x = some (.type id) → x ≠ "__name__" → (x == ("__debug__" : Str)) = false →
      PE X e (lift X.K (wp cl gl (.prim p as)).e) := by
    intro x id r h1 h2 h3 h4 h5 h6
    obtain ⟨a, q, pos, rfl, rfl, z1, z2, z3⟩ := call1_inv h1
    obtain ⟨a1, rfl, ha1⟩ := ha.one
    exact s_ty1 (ta := (wp cl gl a1).e) (p := fun x h Q => wpP p [x] h Q) g h2 h3 h4 z1 z2 z3 ha1 h5 h6
  cases p with
  | add => exact bin hp ok_add sim_add
  | sub => exact bin hp op_sub sim_sub
  | mul => exact bin hp ok_mul sim_mul
  | fdiv => exact bin hp ok_fdiv sim_fdiv
  | mod => exact bin hp op_modN sim_mod
  | pow => exact bin hp op_pow sim_pow
  | neg =>
    unfold primArgs at hp
    split at hp <;> first | contradiction | skip
    cases hp
    obtain ⟨a1, rfl, ha1⟩ := ha.one
    exact PE.imp (pe_un un_neg ha1) fun σ H Q w => lift_un sim_neg σ H Q w
  | eq => exact cmp hp (op_eq.or (op_eqD g.hu)) sim_eq
  | ne => exact cmp hp (op_ne.or (op_neD g.hu)) sim_ne
  | lt => exact cmp hp op_lt sim_ord
  | le => exact cmp hp op_le sim_ord
  | gt => exact cmp hp op_gt sim_ord
  | ge => exact cmp hp op_ge sim_ord
  | is_ => exact cmp hp ok_is sim_is
  | isnot => exact cmp hp ok_isnot sim_isnot
  | in_ => exact cmp hp op_in_seq sim_in
  | notin => exact cmp hp op_notIn_seq sim_notin
  | idx =>
    unfold primArgs at hp
    split at hp <;> first | contradiction | skip
    split at hp
    · rename_i hs
      cases hp
      obtain ⟨a1, b1, rfl, ha1, hb1⟩ := ha.two
      exact PE.imp (pe_ix ix_seq ha1 hb1 (noSlice_plain hs)) fun σ H Q w => lift_bin (p := idxW) sim_idx σ H Q w
    · cases hp
  | slLo =>
    unfold primArgs at hp
    split at hp <;> first | contradiction | skip
    cases hp
    obtain ⟨a1, b1, rfl, ha1, hb1⟩ := ha.two
    exact PE.imp (pe_slice ok_sl ha1 (po_some hb1) po_none) fun σ H Q w => lift_bin (r := fun x y H Q => ∃ i, y = .int i ∧ rSlD X.K x (some i) none H Q) (p := fun x y h Q => wpP .slLo [x, y] h Q) (by
      intro R h H G G' x y v u P Q hr rx ry w p
      have w : (match partW y with | some i => slW x (some i) none h P | none => False) := w
      cases y with
      | int i => cases ry.intE; exact ⟨i, rfl, sim_sl R h H G x v P Q hr rx w p⟩
      | _ => exact w.elim) σ H Q w
  | slHi =>
    unfold primArgs at hp
    split at hp <;> first | contradiction | skip
    cases hp
    obtain ⟨a1, b1, rfl, ha1, hb1⟩ := ha.two
    exact PE.imp (pe_slice ok_sl ha1 po_none (po_some hb1)) fun σ H Q w => lift_bin (r := fun x y H Q => ∃ i, y = .int i ∧ rSlD X.K x none (some i) H Q) (p := fun x y h Q => wpP .slHi [x, y] h Q) (by
      intro R h H G G' x y v u P Q hr rx ry w p
      have w : (match partW y with | some i => slW x none (some i) h P | none => False) := w
      cases y with
      | int i => cases ry.intE; exact ⟨i, rfl, sim_sl R h H G x v P Q hr rx w p⟩
      | _ => exact w.elim) σ H Q w
  | rev =>
    unfold primArgs at hp
    split at hp <;> first | contradiction | skip
    cases hp
    obtain ⟨a1, rfl, ha1⟩ := ha.one
    exact PE.imp (pe_back ha1) fun σ H Q w => lift_un (p := revW) sim_rev σ H Q w
  | len => exact fun1 hp call_len sim_len (by decide +kernel) (by decide) (by decide)
  | abs => exact fun1 hp call_abs sim_abs (by decide +kernel) (by decide) (by decide)
  | int1 => exact ty1 hp call_int1 sim_int (by decide +kernel) (by decide) (by decide)
  | gcd =>
    obtain ⟨x, a, b, q, pos, rfl, rfl, z1, z2, z3, z4, z5⟩ := callX2_inv hp
    obtain ⟨a1, b1, rfl, ha1, hb1⟩ := ha.two
    exact s_callX2 (ta := (wp cl gl a1).e) (tb := (wp cl gl b1).e) (p := gcdW) g cr_gcd sim_gcd z1 z2 z3 z4 z5 ha1 hb1
  | any => exact fun1 hp (cr_any g.calm) sim_any (by decide +kernel) (by decide) (by decide)
  | all => exact fun1 hp (cr_all g.calm) sim_all (by decide +kernel) (by decide) (by decide)
  | sum => exact fun1 hp (cr_sum g.calm) sim_sum (by decide +kernel) (by decide) (by decide)
  | maxL => exact fun1 hp (cr_max g.calm) sim_maxL (by decide +kernel) (by decide) (by decide)
  | minL => exact fun1 hp (cr_min g.calm) sim_minL (by decide +kernel) (by decide) (by decide)
  | sorted => exact fun1 hp (cr_sortedI.or cr_sortT) sim_sorted (by decide +kernel) (by decide) (by decide)
  | sortedSet =>
    obtain ⟨a, p1, p2, q, pos, rfl, rfl, z1, z2, z3, z4, z5⟩ := callSet_inv hp
    obtain ⟨a1, rfl, ha1⟩ := ha.one
    exact PE.imp (pe_srtSet g.calm (by unfold Gl Env.kindOf; rw [g.hsc]; exact z3) (g.bn _ z1) (by unfold Gl Env.kindOf; rw [g.hsc]; exact z4) (g.bn _ z2) ha1 (star_cons z5)) fun σ H Q w => lift_un (p := sortedSetW) sim_sortedSet σ H Q w
  | lenSet =>
    obtain ⟨a, p1, p2, q, pos, rfl, rfl, z1, z2, z3, z4, z5⟩ := callSet_inv hp
    obtain ⟨a1, rfl, ha1⟩ := ha.one
    exact PE.imp (pe_lnSet g.calm (by unfold Gl Env.kindOf; rw [g.hsc]; exact z3) (g.bn _ z1) (by unfold Gl Env.kindOf; rw [g.hsc]; exact z4) (g.bn _ z2) ha1 (star_cons z5)) fun σ H Q w => lift_un (p := lenSetW) sim_lenSet σ H Q w
  | dnew =>
    unfold primArgs at hp
    split at hp <;> first | contradiction | skip
    cases hp
    cases ha.nil
    exact PE.imp pe_dnewK fun σ H Q w => lift_dnew σ H Q w
  | dget =>
    unfold primArgs at hp
    split at hp <;> first | contradiction | skip
    split at hp
    · rename_i hs
      cases hp
      obtain ⟨a1, b1, rfl, ha1, hb1⟩ := ha.two
      exact PE.imp (pe_ix (ix_dict (by have := g.hu; omega)) ha1 hb1 (noSlice_plain hs)) fun σ H Q w => lift_bin (p := dgetW) sim_dget σ H Q w
    · cases hp
  | din => exact cmp hp (or_din (by have := g.hu; omega)) sim_din
  | dnotin => exact cmp hp (or_dnotin (by have := g.hu; omega)) sim_dnotin
  | dlen => exact fun1 hp call_lenD sim_dlen (by decide +kernel) (by decide) (by decide)
  | lrng =>
    obtain ⟨a, p1, p2, q, pos, rfl, rfl, z1, z2, z3, z4, z5⟩ := callRng_inv hp
    obtain ⟨a1, rfl, ha1⟩ := ha.one
    exact PE.imp (pe_listRg g.calm (by unfold Gl Env.kindOf; rw [g.hsc]; exact z3) (g.bn _ z1) (prg_1 (by unfold Gl Env.kindOf; rw [g.hsc]; exact z4) (g.bn _ z2) ha1 (star_cons z5))) fun σ H Q w => sim_lrng (ta := (wp cl gl a1).e) σ H Q w
  | max2 =>
    obtain ⟨a, b, q, pos, rfl, rfl, z1, z2, z3, z4⟩ := call2_inv hp
    obtain ⟨a1, b1, rfl, ha1, hb1⟩ := ha.two
    exact s_call2 (ta := (wp cl gl a1).e) (tb := (wp cl gl b1).e) (p := max2W) g (call_max2 g.calm) sim_max2 (by decide +kernel) z1 z2 z3 z4 ha1 hb1
  | min2 =>
    obtain ⟨a, b, q, pos, rfl, rfl, z1, z2, z3, z4⟩ := call2_inv hp
    obtain ⟨a1, b1, rfl, ha1, hb1⟩ := ha.two
    exact s_call2 (ta := (wp cl gl a1).e) (tb := (wp cl gl b1).e) (p := min2W) g (call_min2 g.calm) sim_min2 (by decide +kernel) z1 z2 z3 z4 ha1 hb1
  | list => exact ty1 hp call_list_of sim_list (by decide +kernel) (by decide) (by decide)
  | tuple => exact ty1 hp call_tuple_of sim_tuple (by decide +kernel) (by decide) (by decide)
  | bits =>
    obtain ⟨o, apos, pos, rfl, rfl, z1, z2⟩ := meth0_inv (show meth0 "bit_length" e = some es from hp)
    obtain ⟨a1, rfl, ha1⟩ := ha.one
    exact PE.imp (pe_bits ha1 (noSuper_ok z1) z2) fun σ H Q w => lift_un sim_bits σ H Q w
  | inst t =>
    obtain ⟨a, q, q2, pos, rfl, rfl, z1, z2, z3, z4, z5, z6⟩ := instA_inv (show instA T sc t e = some es from hp)
    obtain ⟨a1, rfl, ha1⟩ := ha.one
    obtain ⟨b1, b2, b3⟩ := tyName_boot t z4
    exact PE.imp (pe_callB call_isi (by unfold Gl Env.kindOf; rw [g.hsc]; exact z2) (g.bn _ z1) (by decide +kernel) (pa_cons ha1 (pa_cons (pe_bltn (v := .ty t) (by unfold Gl Env.kindOf; rw [g.hsc]; exact z6) (g.bn _ z5) b1 rfl b2 b3) pa_nil rfl) (star_cons z3)) (by decide) (by decide) (star_cons z3) rfl)
      fun σ H Q w => lift_un (r := fun x H Q => rIsi X.K [x, .ty t] H Q) (p := instW t) (sim_inst z4) σ H Q w
  | pop =>
    obtain ⟨o, apos, pos, rfl, rfl, z1, z2⟩ := meth0_inv (show meth0 "pop" e = some es from hp)
    obtain ⟨a1, rfl, ha1⟩ := ha.one
    exact s_meth0 (ta := (wp cl gl a1).e) (p := popW) PySem.F.plainAttrs_list PySem.F.slot_list_pop PySem.F.type_list_pop mt_pop sim_popM z1 z2 ha1
  | reverse =>
    obtain ⟨o, apos, pos, rfl, rfl, z1, z2⟩ := meth0_inv (show meth0 "reverse" e = some es from hp)
    obtain ⟨a1, rfl, ha1⟩ := ha.one
    exact s_meth0 (ta := (wp cl gl a1).e) (p := reverseW) PySem.F.plainAttrs_list PySem.F.slot_list_reverse PySem.F.type_list_reverse mt_reverse sim_reverseM z1 z2 ha1
end
end Py

namespace Py
open PySem PySem.Spec PyProof.Rows L2
section
variable {T : Tab} {cl : CallD} {N : List Str} {sc ss : Scope} {X : Cx}
/-! ### tests -/
theorem R0s_empty {K : PySem.W.Frag} {H : Hp} {R : Nat → Addr} {n : Nat} : ∀ {xs : List D} {vs : List V}, R0s K H R n xs vs → xs.isEmpty = vs.isEmpty
  | [], vs, r => by simp only [R0s] at r; subst r; rfl
  | x :: xs, vs, r => by simp only [R0s] at r; obtain ⟨v, us, rfl, _⟩ := r; rfl
theorem t_of_e {e : Expr} {te : TEd} (h : PE X e (lift X.K te)) (hp : plainTest e = true) : PT X e (liftT X.K (tstOf te)) := by
  refine PT.imp (pt_truth h (plainTest_ok hp)) fun σ H Q ⟨R, τ, h, P, sr, hr, w, post⟩ => ?_
  refine ⟨R, τ, h, _, sr, hr, w, fun R1 h1 H1 d v E1 hr1 rd w1 => ?_⟩
  have w1 : (match truth h1 d with | some k => P k h1 | none => False) := w1
  split at w1
  · rename_i k ek
    refine ⟨k, ?_, post R1 h1 H1 k E1 hr1 w1⟩
    unfold truth at ek
    split at ek
    · cases rd.nonE; cases ek; rfl
    · cases rd.blE; cases ek; rfl
    · cases rd.intE; cases ek; rfl
    · obtain ⟨a, vs, rfl, q, r⟩ := rd.tup
      cases ek
      refine .inr (.inl ⟨vs, q, ?_⟩)
      rw [R0s_empty r]
    · cases ek
    · split at ek
      · rename_i xs ex
        cases ek
        obtain ⟨a, vs, rfl, q, r⟩ := rd.lst hr1 ex
        refine .inl ⟨vs, q, ?_⟩
        rw [R0s_empty r]
      · cases ek
  · exact w1.elim
theorem s_cmpT {op : CmpOp} {r : R2} {q : D → D → Hd → (Bool → Hd → Prop) → Prop} {ta tb : TEd} {l r' : Expr} {pos : Pos} (ho : OpR X (compareOp op) r) (sm : Sim2 X.K r (fun x y h Q => q x y h (bo Q))) (hn : noSet r' = true) (ha : PE X l (lift X.K ta)) (hb : PE X r' (lift X.K tb)) :
    PT X (.Compare l [op] [r'] pos) (liftT X.K (tstOf fun τ h Q => ta τ h fun x h1 => tb τ h1 fun y h2 => q x y h2 (bo Q))) := by
  refine PT.imp (pt_cmpR ho ha hb (noSet_mark hn)) fun σ H Q ⟨R, τ, h, P, sr, hr, w, post⟩ => ?_
  refine lift_bin sm σ H _ ⟨R, τ, h, (fun d h' => match d with | .bl k => P k h' | _ => False), sr, hr, w, fun R1 h1 H1 d v E1 hr1 rd w1 => ?_⟩
  cases d with
  | bl k => cases rd.blE; exact ⟨k, rfl, post R1 h1 H1 k E1 hr1 w1⟩
  | _ => exact w1.elim
/-- a < b < c -/
def ordOp : Prim → Option (CmpOp × (Int → Int → Bool))
  | .lt => some (.Lt, fun i j => decide (i < j))
  | .le => some (.LtE, fun i j => decide (i ≤ j))
  | .gt => some (.Gt, fun i j => decide (j < i))
  | .ge => some (.GtE, fun i j => decide (j ≤ i))
  | _ => none
theorem ordOp_ok {p : Prim} {op : CmpOp} {f : Int → Int → Bool} (h : ordOp p = some (op, f)) : OpR X (compareOp op) (rI0 fun i j => .bl (f i j)) ∧ (∀ x y h Q, wpP p [x, y] h Q = ordW f x y h (bo Q)) ∧ op ≠ .In ∧ op ≠ .NotIn := by
  cases p <;> first | (cases h; done) | skip
  · cases h; exact ⟨op_lt, fun _ _ _ _ => rfl, by decide, by decide⟩
  · cases h; exact ⟨op_le, fun _ _ _ _ => rfl, by decide, by decide⟩
  · cases h; exact ⟨op_gt, fun _ _ _ _ => rfl, by decide, by decide⟩
  · cases h; exact ⟨op_ge, fun _ _ _ _ => rfl, by decide, by decide⟩
theorem lastMarks2 {o1 o2 : CmpOp} {b c : Expr} (h1 : o2 ≠ .In) (h2 : o2 ≠ .NotIn) : lastMarks [o1, o2] [b, c] = false := by
  show behindInMarks o2 c = false
  exact nobehind c h1 h2
theorem chain_sim {K : PySem.W.Frag} {p q : Prim} {f k : Int → Int → Bool} {ta tb tc : TEd} (h1 : ∀ x y h Q, wpP p [x, y] h Q = ordW f x y h (bo Q)) (h2 : ∀ x y h Q, wpP q [x, y] h Q = ordW k x y h (bo Q))
    (σ : L2.St) (H : Hp) (Q : VK) (w : lift K (chainE p q ta tb tc) σ H Q) : tChain (rI0 fun i j => .bl (f i j)) (rI0 fun i j => .bl (k i j)) (lift K ta) (lift K tb) (lift K tc) σ H Q := by
  obtain ⟨R, τ, h, P, sr, hr, w, post⟩ := w
  refine ⟨R, τ, h, _, sr, hr, w, fun R1 h1' H1 x v E1 hr1 rx w1 => ⟨R1, τ, h1', _, E1.srel sr, hr1, w1, fun R2 h2' H2 y u E2 hr2 ry w2 => ?_⟩⟩
  have w2 := w2
  rw [h1] at w2
  unfold ordW at w2
  split at w2
  · cases rx.intE; cases ry.intE
    refine ⟨_, _, rfl, rfl, _, rfl, ?_⟩
    obtain ⟨c, ec, w2⟩ := w2
    cases ec
    split
    · rename_i hc
      rw [if_pos hc] at w2
      refine ⟨R2, τ, h2', _, E2.srel (E1.srel sr), hr2, w2, fun R3 h3 H3 z u' E3 hr3 rz w3 => ?_⟩
      have w3 := w3
      rw [h2] at w3
      unfold ordW at w3
      split at w3
      · rename_i e1 e2
        cases e1
        cases rz.intE
        exact ⟨_, _, rfl, rfl, (((post.on E1).on E2).on E3).bl hr3 w3⟩
      · exact w3.elim
    · rename_i hc
      rw [if_neg hc] at w2
      exact ((post.on E1).on E2).bl hr2 w2
  · exact w2.elim
end
end Py

namespace Py
open PySem PySem.Spec PyProof.Rows L2

def visC (sc : Scope) (x : Str) : Bool := (decide (sc.names.lookup x = some .local) || decide (sc.names.lookup x = some .cell) || decide (sc.names.lookup x = some .free)) && !(x == ("__debug__" : Str)) && !(x == ("__classdict__" : Str))
def cstC : D → Const → Bool
  | .non, .none => true
  | .bl b, .bool c => b == c
  | .int i, .int j => decide (i = j)
  | .str x, .str y => decide (x = y)
  | _, _ => false
def isCmp : Prim → Bool
  | .eq => true | .ne => true | .lt => true | .le => true | .gt => true | .ge => true | .is_ => true | .isnot => true | .in_ => true | .notin => true | _ => false
def ownOf (N : List Str) (p : Pat) : List (Str × Nat) := p.ix.map fun i => (N.getD i "", i)
mutual
/-- is e the syntax of c (m: as a test)? -/
def chk (T : Tab) (N : List Str) : CE → Bool → Scope → Expr → Bool
  | .var i, _, sc, .Name x _ => decide (N[i]? = some x) && visC sc x
  | .cst d, _, _, .Constant c _ _ => cstC d c
  | .glob i, _, sc, .Name x _ => glC sc x && !(x == ("__debug__" : Str)) && decide ((T.gl[i]?).map (·.1) = some x)
  | .tup as, _, sc, .Tuple es _ _ => chkA T N as sc es
  | .lst as, _, sc, .List es _ => chkA T N as sc es
  | .prim p as, m, sc, e => (match primArgs T sc p e with | some es => chkA T N as sc es | none => false) && (!m || plainTest e || isCmp p)
  | .meth k o as, _, sc, e => (match methArgs T sc k e with | some (r, es) => chk T N o false sc r && chkA T N as sc es | none => false)
  | .call f as, _, sc, .Call (.Name x _) es [] _ => decide (T.fn[f]? = some x) && glC sc x && !(x == ("__debug__" : Str)) && chkA T N as sc es
  | .ife t a b, m, sc, .IfExp t' a' b' _ => !m && chk T N t true sc t' && chk T N a false sc a' && chk T N b false sc b'
  | .and_ a b, m, sc, .BoolOp .And (x :: y :: rest) pos => chk T N a m sc x && (match rest with | [] => chk T N b m sc y | z :: r => chk T N b m sc (.BoolOp .And (y :: z :: r) pos))
  | .or_ a b, m, sc, .BoolOp .Or (x :: y :: rest) pos => chk T N a m sc x && (match rest with | [] => chk T N b m sc y | z :: r => chk T N b m sc (.BoolOp .Or (y :: z :: r) pos))
  | .not_ a, m, sc, .UnaryOp .Not x _ => chk T N a m sc x
  | .chain p q a b c, _, sc, .Compare x [o1, o2] [y, z] _ => (match ordOp p, ordOp q with | some (p1, _), some (q1, _) => decide (p1 = o1) && decide (q1 = o2) | _, _ => false) && chk T N a false sc x && chk T N b false sc y && chk T N c false sc z
  | .sl2 a b c, _, sc, .Subscript x (.Slice (some y) (some z) none _) _ => chk T N a false sc x && chk T N b false sc y && chk T N c false sc z
  | .r1 a, _, sc, .Call (.Name x _) [y] [] _ => decide (x = "range") && decide (("range" : Str) ∈ T.bn) && glC sc "range" && noStar y && chk T N a false sc y
  | .r2 a b, _, sc, .Call (.Name x _) [y, z] [] _ => decide (x = "range") && decide (("range" : Str) ∈ T.bn) && glC sc "range" && noStar y && noStar z && chk T N a false sc y && chk T N b false sc z
  | .comp p it cd c elt, _, sc, .ListComp e' [⟨tg, iter, ifs, k⟩] scope _ => decide (k = 0) && blkC N sc scope (ownOf N p) && noSet iter && chk T N it false sc iter && chkP N scope p tg && chk T N elt false (relS scope sc) e' &&
      (match cd, ifs with | none, [] => true | some _, [i] => chk T N c true (relS scope sc) i | _, _ => false)
  | _, _, _, _ => false
def chkA (T : Tab) (N : List Str) : CE → Scope → List Expr → Bool
  | .anil, _, [] => true
  | .acons a r, sc, e :: es => noStar e && chk T N a false sc e && chkA T N r sc es
  | _, _, _ => false
end
end Py

namespace Py
open PySem PySem.Spec PyProof.Rows L2

def isBoolE : Expr → Bool
  | .BoolOp _ _ _ => true
  | _ => false
structure Snd (T : Tab) (cl : CallD) (N : List Str) (c : CE) : Prop where
  e : ∀ {m : Bool} {sc ss : Scope} {X : Cx} {e : Expr}, Good T cl N sc ss X → chk T N c m sc e = true → PE X e (lift X.K (wp cl T.gl c).e)
  t : ∀ {sc ss : Scope} {X : Cx} {e : Expr}, Good T cl N sc ss X → chk T N c true sc e = true → PT X e (liftT X.K (wp cl T.gl c).t) ∧ (isBoolE e = true → PW X e (liftT X.K (wp cl T.gl c).t))
  i : ∀ {m : Bool} {sc ss : Scope} {X : Cx} {e tg : Expr}, Good T cl N sc ss X → chk T N c m sc e = true → PI X tg e (liftI X.K (wp cl T.gl c).i)
  a : ∀ {sc ss : Scope} {X : Cx} {es : List Expr}, Good T cl N sc ss X → chkA T N c sc es = true → ArgsOk cl T.gl X c es ∧ es.all noStar = true
theorem PI.imp {X : Cx} {tg e : Expr} {t u : TI} (p : PI X tg e t) (h : ∀ σ H Q, u σ H Q → t σ H Q) : PI X tg e u := ⟨fun pins s σ H Q I w => p.run pins s σ H Q I (h _ _ _ w)⟩
theorem i_of_e {X : Cx} {tg e : Expr} {te : TEd} (h : PE X e (lift X.K te)) : PI X tg e (liftI X.K (itOf te)) := PI.imp (pi_any h) fun σ H Q w => lift_it σ H Q w
theorem pe_no {X : Cx} {e : Expr} : PE X e (lift X.K noE) := ⟨fun _ _ _ _ _ _ ⟨_, _, _, _, _, _, w, _⟩ => w.elim⟩
section
variable {T : Tab} {cl : CallD} {N : List Str}
/-- a plain piece of syntax: its value alone -/
theorem Snd.plain {c : CE} {te : TEd} (hw : wp cl T.gl c = mkR te) (he : ∀ {m : Bool} {sc ss : Scope} {X : Cx} {e : Expr}, Good T cl N sc ss X → chk T N c m sc e = true → PE X e (lift X.K te))
    (hp : ∀ {sc : Scope} {e : Expr}, chk T N c true sc e = true → plainTest e = true) (ha : ∀ sc es, chkA T N c sc es = false) : Snd T cl N c := by
  refine ⟨fun g h => by rw [hw]; exact he g h, fun g h => ⟨by rw [hw]; exact t_of_e (he g h) (hp h), fun z => ?_⟩, fun g h => by rw [hw]; exact i_of_e (he g h), fun g h => by rw [ha] at h; cases h⟩
  have q := hp h
  rename_i e
  cases e <;> first | (cases z; done) | (cases q; done)
theorem snd_var {i : Nat} : Snd T cl N (.var i) := by
  refine Snd.plain (te := varE i) rfl (fun {m sc ss X e} g h => ?_) (fun {sc e} h => ?_) (fun sc es => by cases es <;> rfl)
  · cases e with
    | Name x p =>
      simp only [chk, Bool.and_eq_true, Bool.not_eq_true', decide_eq_true_eq, visC, Bool.or_eq_true] at h
      obtain ⟨h1, ⟨h2, h3⟩, h4⟩ := h
      refine PE.imp (pe_var (i := i) (by rw [g.hN]; exact h1) (by rw [g.hsc]; rcases h2 with (a | a) | a; exact .inl a; exact .inr (.inl a); exact .inr (.inr a)) h3 h4) fun σ H Q ⟨R, τ, h, P, sr, hr, w, post⟩ => ?_
      have w : (match τ[i]? with | some (some d) => P d h | _ => False) := w
      split at w
      · rename_i d ed
        obtain ⟨v, ev, rv⟩ := sr.at_ i d ed
        exact ⟨v, ev, post.here hr (.of rv) w⟩
      · exact w.elim
    | _ => simp [chk] at h
  · cases e <;> first | rfl | (simp [chk] at h)
theorem snd_cst {d : D} : Snd T cl N (.cst d) := by
  refine Snd.plain (te := cstE d) rfl (fun {m sc ss X e} g h => ?_) (fun {sc e} h => ?_) (fun sc es => by cases es <;> rfl)
  · cases e with
    | Constant c k p =>
      simp only [chk] at h
      unfold cstC at h
      split at h
      · exact PE.imp pe_non fun σ H Q ⟨R, τ, h, P, sr, hr, w, post⟩ => post.non hr w
      · have h := beq_iff_eq.mp h; subst h
        exact PE.imp pe_bl fun σ H Q ⟨R, τ, h, P, sr, hr, w, post⟩ => post.bl hr w
      · have h := of_decide_eq_true h; subst h
        exact PE.imp pe_int fun σ H Q ⟨R, τ, h, P, sr, hr, w, post⟩ => post.int hr w
      · have h := of_decide_eq_true h; subst h
        exact PE.imp pe_str fun σ H Q ⟨R, τ, h, P, sr, hr, w, post⟩ => post.str hr w
      · cases h
    | _ => simp [chk] at h
  · cases e <;> first | rfl | (simp [chk] at h)
theorem snd_glob {i : Nat} : Snd T cl N (.glob i) := by
  refine Snd.plain (te := globE T.gl i) rfl (fun {m sc ss X e} g h => ?_) (fun {sc e} h => ?_) (fun sc es => by cases es <;> rfl)
  · cases e with
    | Name x p =>
      simp only [chk, Bool.and_eq_true, Bool.not_eq_true', decide_eq_true_eq, glC] at h
      obtain ⟨⟨h1, h2⟩, h3⟩ := h
      cases q : T.gl[i]? with
      | none => rw [q] at h3; cases h3
      | some pr =>
        obtain ⟨y, d⟩ := pr
        rw [q] at h3
        have e : y = x := by simpa using h3
        subst e
        obtain ⟨u, v, a, b, c⟩ := g.gl y d (List.mem_of_getElem? q)
        refine PE.imp (pe_glob (v := v) (by unfold Gl Env.kindOf; rw [g.hsc]; exact h1) a b h2) fun σ H Q ⟨R, τ, h, P, sr, hr, w, post⟩ => ?_
        have w : (match T.gl[i]? with | some (_, d) => P d h | none => False) := w
        rw [q] at w
        exact post.here hr (.of (c H R h.length)) w
    | _ => simp [chk] at h
  · cases e <;> first | rfl | (simp [chk] at h)
theorem snd_tup {as : CE} (ih : Snd T cl N as) : Snd T cl N (.tup as) := by
  refine Snd.plain (te := tupE (wp cl T.gl as).a) rfl (fun {m sc ss X e} g h => ?_) (fun {sc e} h => ?_) (fun sc es => by cases es <;> rfl)
  · cases e with
    | Tuple es k p =>
      obtain ⟨ha, hs⟩ := ih.a g (show chkA T N as sc es = true from by simpa [chk] using h)
      refine PE.imp (pe_tup (args_ok hs ha)) fun σ H Q ⟨R, τ, h, P, sr, hr, w, post⟩ => ?_
      refine ⟨R, τ, h, _, sr, hr, w, fun R1 h1 H1 ds vs E1 hr1 rs w1 => ⟨by rw [← R0s_len rs]; exact w1.1, fun p hp => (post.on E1).tup hr1 hp rs w1.2⟩⟩
    | _ => simp [chk] at h
  · cases e <;> first | rfl | (simp [chk] at h)
theorem snd_lst {as : CE} (ih : Snd T cl N as) : Snd T cl N (.lst as) := by
  refine Snd.plain (te := lstE (wp cl T.gl as).a) rfl (fun {m sc ss X e} g h => ?_) (fun {sc e} h => ?_) (fun sc es => by cases es <;> rfl)
  · cases e with
    | List es p =>
      obtain ⟨ha, hs⟩ := ih.a g (show chkA T N as sc es = true from by simpa [chk] using h)
      refine PE.imp (pe_lst (args_ok hs ha)) fun σ H Q ⟨R, τ, h, P, sr, hr, w, post⟩ => ?_
      refine ⟨R, τ, h, _, sr, hr, w, fun R1 h1 H1 ds vs E1 hr1 rs w1 => ⟨by rw [← R0s_len rs]; exact w1.1, fun p hp => (post.on E1).tl hr1 hp rs w1.2⟩⟩
    | _ => simp [chk] at h
  · cases e <;> first | rfl | (simp [chk] at h)
theorem snd_call {f : Nat} {as : CE} (ih : Snd T cl N as) : Snd T cl N (.call f as) := by
  refine Snd.plain (te := callE cl f (wp cl T.gl as).a) rfl (fun {m sc ss X e} g h => ?_) (fun {sc e} h => ?_) (fun sc es => by cases es <;> rfl)
  · cases e with
    | Call fn es kw p =>
      cases fn with
      | Name x q =>
        cases kw with
        | nil =>
          simp only [chk, Bool.and_eq_true, Bool.not_eq_true', decide_eq_true_eq, glC] at h
          obtain ⟨⟨⟨h1, h2⟩, h3⟩, h4⟩ := h
          obtain ⟨ha, hs⟩ := ih.a g h4
          obtain ⟨fa, fd, ps, k, F, hr, hm, hk, hb⟩ := g.fn f x h1
          have hg : Gl X x := by unfold Gl Env.kindOf; rw [g.hsc]; exact h2
          have fin : ∀ σ H Q, lift X.K (callE cl f (wp cl T.gl as).a) σ H Q → tCall (spD X.K cl f) [] E0 (liftA X.K ((wp cl T.gl as).a true)) σ H Q := by
            intro σ H Q ⟨R, τ, h, P, sr, hr, w, post⟩
            refine ⟨R, τ, h, _, sr, hr, w, fun R1 h1 H1 ds vs E1 hr1 rs w1 => ?_⟩
            show spD X.K cl f (vs ++ []) H1 Q E0
            rw [List.append_nil]
            exact ⟨R1, h1, ds, P, rs, hr1, w1, post.on E1⟩
          cases es with
          | nil =>
            have e0 := ha.nil
            subst e0
            refine PE.imp (pe_call0 F hr hg hm hk hb .nil pass0 h3) fun σ H Q w => ?_
            obtain ⟨R, τ, h, P, sr, hr, w, post⟩ := w
            exact ⟨R, h, [], P, by simp [R0s], hr, w, post⟩
          | cons e1 es =>
            have hs' := hs
            rw [List.all_cons, Bool.and_eq_true] at hs'
            exact PE.imp (pe_call F hr hg hm hk hb .nil pass0 (args_ok hs ha) h3 (star_cons hs'.1) (star_any hs'.2)) fin
        | cons _ _ => simp [chk] at h
      | _ => simp [chk] at h
    | _ => simp [chk] at h
  · cases e <;> first | rfl | (simp [chk] at h)
theorem snd_meth {k : MP} {o as : CE} (ho : Snd T cl N o) (ih : Snd T cl N as) : Snd T cl N (.meth k o as) := by
  have inv : ∀ {m : Bool} {sc : Scope} {e : Expr}, chk T N (.meth k o as) m sc e = true → ∃ r es, methArgs T sc k e = some (r, es) ∧ chk T N o false sc r = true ∧ chkA T N as sc es = true := by
    intro m sc e h
    have h : (match methArgs T sc k e with | some (r, es) => chk T N o false sc r && chkA T N as sc es | none => false) = true := by cases e <;> exact h
    split at h
    · rename_i r es q
      rw [Bool.and_eq_true] at h
      exact ⟨r, es, q, h.1, h.2⟩
    · cases h
  refine Snd.plain (te := methE k (wp cl T.gl o).e (wp cl T.gl as).a) rfl (fun {m sc ss X e} g h => ?_) (fun {sc e} h => ?_) (fun sc es => by cases es <;> rfl)
  · obtain ⟨r, es, q, h1, h2⟩ := inv h
    obtain ⟨ha, hs⟩ := ih.a g h2
    cases k with
    | append =>
      have q : (meth1 "append" e).bind hd2 = some (r, es) := q
      cases z : meth1 "append" e with
      | none => rw [z] at q; cases q
      | some l =>
        rw [z] at q
        obtain ⟨o', a', apos, pos, rfl, rfl, z1, z2, z3⟩ := meth1_inv z
        cases q
        exact s_append z1 z2 z3 (ho.e g h1) ha
  · obtain ⟨r, es, q, h1, h2⟩ := inv h
    cases k with
    | append =>
      have q : (meth1 "append" e).bind hd2 = some (r, es) := q
      cases z : meth1 "append" e with
      | none => rw [z] at q; cases q
      | some l =>
        obtain ⟨o', a', apos, pos, rfl, rfl, z1, z2, z3⟩ := meth1_inv z
        rfl
end
end Py

namespace Py
open PySem PySem.Spec PyProof.Rows L2
section
variable {T : Tab} {cl : CallD} {N : List Str}
theorem primArgs_bool {sc : Scope} {p : Prim} {o : BoolOp} {vs : List Expr} {pos : Pos} : primArgs T sc p (.BoolOp o vs pos) = none := by
  cases p <;> rfl
theorem snd_prim {p : Prim} {as : CE} (ih : Snd T cl N as) : Snd T cl N (.prim p as) := by
  have inv : ∀ {m : Bool} {sc : Scope} {e : Expr}, chk T N (.prim p as) m sc e = true → ∃ es, primArgs T sc p e = some es ∧ chkA T N as sc es = true ∧ (m = true → plainTest e = true ∨ isCmp p = true) := by
    intro m sc e h
    have h : ((match primArgs T sc p e with | some es => chkA T N as sc es | none => false) && (!m || plainTest e || isCmp p)) = true := by cases e <;> exact h
    rw [Bool.and_eq_true] at h
    obtain ⟨h, h2⟩ := h
    split at h
    · rename_i es q
      refine ⟨es, q, h, fun hm => ?_⟩
      subst hm
      simpa using h2
    · cases h
  have he : ∀ {m : Bool} {sc ss : Scope} {X : Cx} {e : Expr}, Good T cl N sc ss X → chk T N (.prim p as) m sc e = true → PE X e (lift X.K (wp cl T.gl (.prim p as)).e) := by
    intro m sc ss X e g h
    obtain ⟨es, q, h1, _⟩ := inv h
    exact prim_ok g q (ih.a g h1).1
  refine ⟨fun g h => he g h, fun {sc ss X e} g h => ?_, fun g h => i_of_e (he g h), fun {sc ss X es} g h => by cases es <;> cases h⟩
  obtain ⟨es, q, h1, h2⟩ := inv h
  refine ⟨?_, fun z => ?_⟩
  · rcases h2 rfl with h2 | h2
    · exact t_of_e (he g h) h2
    · obtain ⟨ha, _⟩ := ih.a g h1
      have cmp : ∀ {op : CmpOp} {r : R2} {f : D → D → Hd → (Bool → Hd → Prop) → Prop}, cmpA op e = some es → OpR X (compareOp op) r → Sim2 X.K r (fun x y h Q => f x y h (bo Q)) → (∀ x y h Q, wpP p [x, y] h Q = f x y h (bo Q)) → PT X e (liftT X.K (wp cl T.gl (.prim p as)).t) := by
        intro op r f k1 k2 k3 k4
        clear h2
        obtain ⟨l, r', pos, rfl, rfl, hn⟩ := cmpA_inv k1
        obtain ⟨a1, b1, rfl, ha1, hb1⟩ := ha.two
        have z := s_cmpT (ta := (wp cl T.gl a1).e) (tb := (wp cl T.gl b1).e) k2 k3 hn ha1 hb1 (pos := pos)
        have e : (fun (τ : Sd) (h : Hd) (Q : PD) => (wp cl T.gl a1).e τ h fun x h1 => (wp cl T.gl b1).e τ h1 fun y h2 => f x y h2 (bo Q)) = (wp cl T.gl (.prim p (.acons a1 (.acons b1 .anil)))).e := by
          funext τ h Q
          show _ = (wp cl T.gl a1).e τ h fun x h1 => (wp cl T.gl b1).e τ h1 fun y h2 => wpP p [x, y] h2 Q
          congr 1
          funext x h1
          congr 1
          funext y h2
          rw [k4]
        rw [e] at z
        exact z
      cases p <;> first | (cases h2; done) | skip
      · exact cmp (f := eqW) q (op_eq.or (op_eqD g.hu)) sim_eq (fun _ _ _ _ => rfl)
      · exact cmp (f := fun x y h K => eqW x y h fun b h => K (!b) h) q (op_ne.or (op_neD g.hu)) sim_ne (fun _ _ _ _ => rfl)
      · exact cmp (f := ordW fun i j => decide (i < j)) q op_lt sim_ord (fun _ _ _ _ => rfl)
      · exact cmp (f := ordW fun i j => decide (i ≤ j)) q op_le sim_ord (fun _ _ _ _ => rfl)
      · exact cmp (f := ordW fun i j => decide (j < i)) q op_gt sim_ord (fun _ _ _ _ => rfl)
      · exact cmp (f := ordW fun i j => decide (j ≤ i)) q op_ge sim_ord (fun _ _ _ _ => rfl)
      · exact cmp (f := isW) q ok_is sim_is (fun _ _ _ _ => rfl)
      · exact cmp (f := fun x y h K => isW x y h fun b h => K (!b) h) q ok_isnot sim_isnot (fun _ _ _ _ => rfl)
      · exact cmp (f := inW) q op_in_seq sim_in (fun _ _ _ _ => rfl)
      · exact cmp (f := fun x y h K => inW x y h fun b h => K (!b) h) q op_notIn_seq sim_notin (fun _ _ _ _ => rfl)
  · cases e <;> first | (cases z; done) | skip
    rw [primArgs_bool] at q
    cases q
theorem snd_ife {t a b : CE} (ht : Snd T cl N t) (ha : Snd T cl N a) (hb : Snd T cl N b) : Snd T cl N (.ife t a b) := by
  have he : ∀ {m : Bool} {sc ss : Scope} {X : Cx} {e : Expr}, Good T cl N sc ss X → chk T N (.ife t a b) m sc e = true → PE X e (lift X.K (wp cl T.gl (.ife t a b)).e) := by
    intro m sc ss X e g h
    cases e with
    | IfExp t' a' b' p =>
      simp only [chk, Bool.and_eq_true] at h
      obtain ⟨⟨⟨_, h1⟩, h2⟩, h3⟩ := h
      refine PE.imp (pe_ifExp (ht.t g h1).1 (ha.e g h2) (hb.e g h3)) fun σ H Q ⟨R, τ, h, P, sr, hr, w, post⟩ => ?_
      refine ⟨R, τ, h, _, sr, hr, w, fun R1 h1 H1 k E1 hr1 w1 => ?_⟩
      cases k with
      | true => rw [if_pos rfl] at w1; exact iteT ⟨R1, τ, h1, P, E1.srel sr, hr1, w1, post.on E1⟩
      | false => rw [if_neg Bool.false_ne_true] at w1; exact iteF ⟨R1, τ, h1, P, E1.srel sr, hr1, w1, post.on E1⟩
    | _ => simp [chk] at h
  refine ⟨fun g h => he g h, fun {sc ss X e} g h => ?_, fun g h => i_of_e (he g h), fun {sc ss X es} g h => by cases es <;> cases h⟩
  cases e <;> simp [chk] at h
theorem snd_not {a : CE} (ha : Snd T cl N a) : Snd T cl N (.not_ a) := by
  have he : ∀ {m : Bool} {sc ss : Scope} {X : Cx} {e : Expr}, Good T cl N sc ss X → chk T N (.not_ a) m sc e = true → PE X e (lift X.K (wp cl T.gl (.not_ a)).e) := by
    intro m sc ss X e g h
    cases e with
    | UnaryOp op x p =>
      cases op <;> first | (simp [chk] at h; done) | skip
      have h1 : chk T N a m sc x = true := h
      refine PE.imp (pe_not (ha.e g h1)) fun σ H Q ⟨R, τ, h, P, sr, hr, w, post⟩ => ?_
      refine ⟨R, τ, h, _, sr, hr, w, fun R1 h1 H1 d v E1 hr1 rd w1 => ?_⟩
      obtain ⟨k, rfl, w1⟩ := w1
      cases rd.blE
      exact ⟨k, rfl, (post.on E1).bl hr1 w1⟩
    | _ => simp [chk] at h
  refine ⟨fun g h => he g h, fun {sc ss X e} g h => ?_, fun g h => i_of_e (he g h), fun {sc ss X es} g h => by cases es <;> cases h⟩
  cases e with
  | UnaryOp op x p =>
    cases op <;> first | (simp [chk] at h; done) | skip
    have h1 : chk T N a true sc x = true := h
    refine ⟨PT.imp (pt_not (ha.t g h1).1) fun σ H Q ⟨R, τ, h, P, sr, hr, w, post⟩ => ?_, fun z => by cases z⟩
    exact ⟨R, τ, h, _, sr, hr, w, fun R1 h1 H1 k E1 hr1 w1 => post R1 h1 H1 _ E1 hr1 w1⟩
  | _ => simp [chk] at h
theorem snd_and {a b : CE} (ha : Snd T cl N a) (hb : Snd T cl N b) : Snd T cl N (.and_ a b) := by
  have inv : ∀ {m : Bool} {sc : Scope} {e : Expr}, chk T N (.and_ a b) m sc e = true → ∃ x y rest pos, e = .BoolOp .And (x :: y :: rest) pos ∧ chk T N a m sc x = true ∧ ((rest = [] ∧ chk T N b m sc y = true) ∨ (∃ z r, rest = z :: r ∧ chk T N b m sc (.BoolOp .And (y :: z :: r) pos) = true)) := by
    intro m sc e h
    cases e with
    | BoolOp op vs pos =>
      cases op <;> first | (simp [chk] at h; done) | skip
      match vs, h with
      | [], h => simp [chk] at h
      | [_], h => simp [chk] at h
      | [x, y], h =>
        simp only [chk, Bool.and_eq_true] at h
        exact ⟨x, y, [], pos, rfl, h.1, .inl ⟨rfl, h.2⟩⟩
      | x :: y :: z :: r, h =>
        simp only [chk, Bool.and_eq_true] at h
        exact ⟨x, y, z :: r, pos, rfl, h.1, .inr ⟨z, r, rfl, h.2⟩⟩
    | _ => simp [chk] at h
  have he : ∀ {m : Bool} {sc ss : Scope} {X : Cx} {e : Expr}, Good T cl N sc ss X → chk T N (.and_ a b) m sc e = true → PE X e (lift X.K (wp cl T.gl (.and_ a b)).e) := by
    intro m sc ss X e g h
    obtain ⟨x, y, rest, pos, rfl, h1, h2⟩ := inv h
    have hB : PE X (.BoolOp .And (y :: rest) pos) (lift X.K (wp cl T.gl b).e) := by
      rcases h2 with ⟨rfl, h2⟩ | ⟨z, r, rfl, h2⟩
      · exact pe_one (hb.e g h2)
      · exact hb.e g h2
    refine PE.imp (pe_and (ha.e g h1) hB) fun σ H Q ⟨R, τ, h, P, sr, hr, w, post⟩ => ?_
    refine ⟨R, τ, h, _, sr, hr, w, fun R1 h1 H1 d v E1 hr1 rd w1 => ?_⟩
    obtain ⟨k, rfl, w1⟩ := w1
    cases rd.blE
    refine ⟨k, rfl, ?_⟩
    cases k with
    | true => rw [if_pos rfl] at w1; exact iteT ⟨R1, τ, h1, P, E1.srel sr, hr1, w1, post.on E1⟩
    | false => rw [if_neg Bool.false_ne_true] at w1; exact iteF ((post.on E1).bl hr1 w1)
  refine ⟨fun g h => he g h, fun {sc ss X e} g h => ?_, fun g h => i_of_e (he g h), fun {sc ss X es} g h => by cases es <;> cases h⟩
  obtain ⟨x, y, rest, pos, rfl, h1, h2⟩ := inv h
  have hB : PW X (.BoolOp .And (y :: rest) pos) (liftT X.K (wp cl T.gl b).t) := by
    rcases h2 with ⟨rfl, h2⟩ | ⟨z, r, rfl, h2⟩
    · exact pw_and1 (hb.t g h2).1
    · exact (hb.t g h2).2 rfl
  have hW : PW X (.BoolOp .And (x :: y :: rest) pos) (liftT X.K (wp cl T.gl (.and_ a b)).t) := ⟨fun wh pins s σ H Q I ⟨R, τ, h, P, sr, hr, w, post⟩ => (pw_and (ha.t g h1).1 hB).run wh pins s σ H Q I
    ⟨R, τ, h, _, sr, hr, w, fun R1 h1 H1 k E1 hr1 w1 => by
      cases k with
      | true => rw [if_pos rfl] at w1; exact iteT ⟨R1, τ, h1, P, E1.srel sr, hr1, w1, fun R2 h2 H2 k2 E2 hr2 w2 => post R2 h2 H2 k2 (E1.trans E2) hr2 w2⟩
      | false => rw [if_neg Bool.false_ne_true] at w1; exact iteF (post R1 h1 H1 false E1 hr1 w1)⟩⟩
  exact ⟨hW.pt, fun _ => hW⟩
theorem snd_or {a b : CE} (ha : Snd T cl N a) (hb : Snd T cl N b) : Snd T cl N (.or_ a b) := by
  have inv : ∀ {m : Bool} {sc : Scope} {e : Expr}, chk T N (.or_ a b) m sc e = true → ∃ x y rest pos, e = .BoolOp .Or (x :: y :: rest) pos ∧ chk T N a m sc x = true ∧ ((rest = [] ∧ chk T N b m sc y = true) ∨ (∃ z r, rest = z :: r ∧ chk T N b m sc (.BoolOp .Or (y :: z :: r) pos) = true)) := by
    intro m sc e h
    cases e with
    | BoolOp op vs pos =>
      cases op <;> first | (simp [chk] at h; done) | skip
      match vs, h with
      | [], h => simp [chk] at h
      | [_], h => simp [chk] at h
      | [x, y], h =>
        simp only [chk, Bool.and_eq_true] at h
        exact ⟨x, y, [], pos, rfl, h.1, .inl ⟨rfl, h.2⟩⟩
      | x :: y :: z :: r, h =>
        simp only [chk, Bool.and_eq_true] at h
        exact ⟨x, y, z :: r, pos, rfl, h.1, .inr ⟨z, r, rfl, h.2⟩⟩
    | _ => simp [chk] at h
  have he : ∀ {m : Bool} {sc ss : Scope} {X : Cx} {e : Expr}, Good T cl N sc ss X → chk T N (.or_ a b) m sc e = true → PE X e (lift X.K (wp cl T.gl (.or_ a b)).e) := by
    intro m sc ss X e g h
    obtain ⟨x, y, rest, pos, rfl, h1, h2⟩ := inv h
    have hB : PE X (.BoolOp .Or (y :: rest) pos) (lift X.K (wp cl T.gl b).e) := by
      rcases h2 with ⟨rfl, h2⟩ | ⟨z, r, rfl, h2⟩
      · exact pe_one (hb.e g h2)
      · exact hb.e g h2
    refine PE.imp (pe_or (ha.e g h1) hB) fun σ H Q ⟨R, τ, h, P, sr, hr, w, post⟩ => ?_
    refine ⟨R, τ, h, _, sr, hr, w, fun R1 h1 H1 d v E1 hr1 rd w1 => ?_⟩
    obtain ⟨k, rfl, w1⟩ := w1
    cases rd.blE
    refine ⟨k, rfl, ?_⟩
    cases k with
    | false => rw [if_neg Bool.false_ne_true] at w1; exact iteF ⟨R1, τ, h1, P, E1.srel sr, hr1, w1, post.on E1⟩
    | true => rw [if_pos rfl] at w1; exact iteT ((post.on E1).bl hr1 w1)
  refine ⟨fun g h => he g h, fun {sc ss X e} g h => ?_, fun g h => i_of_e (he g h), fun {sc ss X es} g h => by cases es <;> cases h⟩
  obtain ⟨x, y, rest, pos, rfl, h1, h2⟩ := inv h
  have hB : PW X (.BoolOp .Or (y :: rest) pos) (liftT X.K (wp cl T.gl b).t) := by
    rcases h2 with ⟨rfl, h2⟩ | ⟨z, r, rfl, h2⟩
    · exact pw_or1 (hb.t g h2).1
    · exact (hb.t g h2).2 rfl
  have hW : PW X (.BoolOp .Or (x :: y :: rest) pos) (liftT X.K (wp cl T.gl (.or_ a b)).t) := ⟨fun wh pins s σ H Q I ⟨R, τ, h, P, sr, hr, w, post⟩ => (pw_or (ha.t g h1).1 hB).run wh pins s σ H Q I
    ⟨R, τ, h, _, sr, hr, w, fun R1 h1 H1 k E1 hr1 w1 => by
      cases k with
      | false => rw [if_neg Bool.false_ne_true] at w1; exact iteF ⟨R1, τ, h1, P, E1.srel sr, hr1, w1, fun R2 h2 H2 k2 E2 hr2 w2 => post R2 h2 H2 k2 (E1.trans E2) hr2 w2⟩
      | true => rw [if_pos rfl] at w1; exact iteT (post R1 h1 H1 true E1 hr1 w1)⟩⟩
  exact ⟨hW.pt, fun _ => hW⟩
theorem snd_chain {p q : Prim} {a b c : CE} (ha : Snd T cl N a) (hb : Snd T cl N b) (hc : Snd T cl N c) : Snd T cl N (.chain p q a b c) := by
  have inv : ∀ {m : Bool} {sc : Scope} {e : Expr}, chk T N (.chain p q a b c) m sc e = true → ∃ x y z o1 o2 f k pos, e = .Compare x [o1, o2] [y, z] pos ∧ ordOp p = some (o1, f) ∧ ordOp q = some (o2, k) ∧ chk T N a false sc x = true ∧ chk T N b false sc y = true ∧ chk T N c false sc z = true := by
    intro m sc e h
    cases e with
    | Compare x ops es pos =>
      match ops, es, h with
      | [o1, o2], [y, z], h =>
        simp only [chk, Bool.and_eq_true] at h
        obtain ⟨⟨⟨h2, h3⟩, h4⟩, h5⟩ := h
        split at h2
        · rename_i p1 f q1 k e1 e2
          simp only [Bool.and_eq_true, decide_eq_true_eq] at h2
          obtain ⟨rfl, rfl⟩ := h2
          exact ⟨x, y, z, _, _, f, k, pos, rfl, e1, e2, h3, h4, h5⟩
        · cases h2
      | [], _, h => simp [chk] at h
      | [_], _, h => simp [chk] at h
      | _ :: _ :: _ :: _, _, h => simp [chk] at h
      | [_, _], [], h => simp [chk] at h
      | [_, _], [_], h => simp [chk] at h
      | [_, _], _ :: _ :: _ :: _, h => simp [chk] at h
    | _ => simp [chk] at h
  have he : ∀ {m : Bool} {sc ss : Scope} {X : Cx} {e : Expr}, Good T cl N sc ss X → chk T N (.chain p q a b c) m sc e = true → PE X e (lift X.K (wp cl T.gl (.chain p q a b c)).e) := by
    intro m sc ss X e g h
    obtain ⟨x, y, z, o1, o2, f, k, pos, rfl, e1, e2, h1, h2, h3⟩ := inv h
    obtain ⟨r1, w1, n1, n2⟩ := ordOp_ok (X := X) e1
    obtain ⟨r2, w2, n3, n4⟩ := ordOp_ok (X := X) e2
    exact PE.imp (pe_chain r1 r2 (ha.e g h1) (hb.e g h2) (hc.e g h3) (lastMarks2 n3 n4)) fun σ H Q w => chain_sim w1 w2 σ H Q w
  refine ⟨fun g h => he g h, fun {sc ss X e} g h => ?_, fun g h => i_of_e (he g h), fun {sc ss X es} g h => by cases es <;> cases h⟩
  obtain ⟨x, y, z, o1, o2, f, k, pos, rfl, e1, e2, h1, h2, h3⟩ := inv h
  obtain ⟨r1, w1, n1, n2⟩ := ordOp_ok (X := X) e1
  obtain ⟨r2, w2, n3, n4⟩ := ordOp_ok (X := X) e2
  refine ⟨PT.imp (pt_chain r1 r2 (ha.e g h1) (hb.e g h2) (hc.e g h3) (lastMarks2 n3 n4)) fun σ H Q ⟨R, τ, h, P, sr, hr, w, post⟩ => ?_, fun z => by cases z⟩
  refine chain_sim (p := p) (q := q) (ta := (wp cl T.gl a).e) (tb := (wp cl T.gl b).e) (tc := (wp cl T.gl c).e) w1 w2 σ H _ ⟨R, τ, h, (fun d h' => match d with | .bl k => P k h' | _ => False), sr, hr, ?_, fun R1 h1 H1 d v E1 hr1 rd w1 => ?_⟩
  · have w : chainE p q (wp cl T.gl a).e (wp cl T.gl b).e (wp cl T.gl c).e τ h (fun d h' => match truth h' d with | some k => P k h' | none => False) := w
    unfold chainE at w ⊢
    simp only [w2] at w ⊢
    exact w
  · cases d with
    | bl k => cases rd.blE; exact ⟨k, rfl, post R1 h1 H1 k E1 hr1 w1⟩
    | _ => exact w1.elim
theorem snd_sl2 {a b c : CE} (ha : Snd T cl N a) (hb : Snd T cl N b) (hc : Snd T cl N c) : Snd T cl N (.sl2 a b c) := by
  have inv : ∀ {m : Bool} {sc : Scope} {e : Expr}, chk T N (.sl2 a b c) m sc e = true → ∃ x y z p pos, e = .Subscript x (.Slice (some y) (some z) none p) pos ∧ chk T N a false sc x = true ∧ chk T N b false sc y = true ∧ chk T N c false sc z = true := by
    intro m sc e h
    cases e with
    | Subscript x i pos =>
      cases i with
      | Slice lo hi st p =>
        match lo, hi, st, h with
        | some y, some z, none, h =>
          simp only [chk, Bool.and_eq_true] at h
          exact ⟨x, y, z, p, pos, rfl, h.1.1, h.1.2, h.2⟩
        | none, _, _, h => simp [chk] at h
        | some _, none, _, h => simp [chk] at h
        | some _, some _, some _, h => simp [chk] at h
      | _ => simp [chk] at h
    | _ => simp [chk] at h
  refine Snd.plain (te := sl2E (wp cl T.gl a).e (wp cl T.gl b).e (wp cl T.gl c).e) rfl (fun {m sc ss X e} g h => ?_) (fun {sc e} h => ?_) (fun sc es => by cases es <;> rfl)
  · obtain ⟨x, y, z, p, pos, rfl, h1, h2, h3⟩ := inv h
    exact s_sl2 (ha.e g h1) (hb.e g h2) (hc.e g h3)
  · obtain ⟨x, y, z, p, pos, rfl, _⟩ := inv h
    rfl
theorem snd_nil : Snd T cl N .anil := by
  refine ⟨fun {m sc ss X e} g h => ?_, fun {sc ss X e} g h => ?_, fun {m sc ss X e tg} g h => ?_, fun {sc ss X es} g h => ?_⟩
  · cases e <;> simp [chk] at h
  · cases e <;> simp [chk] at h
  · cases e <;> simp [chk] at h
  · cases es with
    | nil => exact ⟨trivial, rfl⟩
    | cons _ _ => simp [chkA] at h
theorem snd_cons {a r : CE} (ha : Snd T cl N a) (hr : Snd T cl N r) : Snd T cl N (.acons a r) := by
  refine ⟨fun {m sc ss X e} g h => ?_, fun {sc ss X e} g h => ?_, fun {m sc ss X e tg} g h => ?_, fun {sc ss X es} g h => ?_⟩
  · cases e <;> simp [chk] at h
  · cases e <;> simp [chk] at h
  · cases e <;> simp [chk] at h
  · cases es with
    | nil => simp [chkA] at h
    | cons e es =>
      simp only [chkA, Bool.and_eq_true] at h
      obtain ⟨⟨h1, h2⟩, h3⟩ := h
      obtain ⟨h4, h5⟩ := hr.a g h3
      exact ⟨⟨ha.e g h2, h4⟩, by rw [List.all_cons, h1, h5]; rfl⟩
theorem snd_r1 {a : CE} (ha : Snd T cl N a) : Snd T cl N (.r1 a) := by
  have inv : ∀ {m : Bool} {sc : Scope} {e : Expr}, chk T N (.r1 a) m sc e = true → ∃ y p pos, e = .Call (.Name "range" p) [y] [] pos ∧ ("range" : Str) ∈ T.bn ∧ sc.names.lookup ("range" : Str) = some .globalImplicit ∧ noStar y = true ∧ chk T N a false sc y = true := by
    intro m sc e h
    cases e with
    | Call fn es kw pos =>
      cases fn with
      | Name x p =>
        match es, kw, h with
        | [y], [], h =>
          simp only [chk, Bool.and_eq_true, decide_eq_true_eq, glC] at h
          obtain ⟨⟨⟨⟨rfl, h2⟩, h3⟩, h4⟩, h5⟩ := h
          exact ⟨y, p, pos, rfl, h2, h3, h4, h5⟩
        | [], _, h => simp [chk] at h
        | [_], _ :: _, h => simp [chk] at h
        | _ :: _ :: _, _, h => simp [chk] at h
      | _ => simp [chk] at h
    | _ => simp [chk] at h
  refine ⟨fun g h => pe_no, fun {sc ss X e} g h => ?_, fun {m sc ss X e tg} g h => ?_, fun {sc ss X es} g h => by cases es <;> cases h⟩
  · obtain ⟨y, p, pos, rfl, _⟩ := inv h
    exact ⟨t_of_e pe_no rfl, fun z => by cases z⟩
  · obtain ⟨y, p, pos, rfl, h1, h2, h3, h4⟩ := inv h
    refine PI.imp (pi_range1 (by unfold Gl Env.kindOf; rw [g.hsc]; exact h2) (g.bn _ h1) (pa_cons (ha.e g h4) pa_nil (star_cons h3)) (star_cons h3)) fun σ H Z ⟨R, τ, h, P, sr, hr, w, post⟩ => ?_
    refine ⟨R, τ, h, _, sr, hr, w, fun R1 h1 H1 d v E1 hr1 rd w1 => ?_⟩
    cases d with
    | int n =>
      cases rd.intE
      obtain ⟨⟨b1, b2⟩, w1⟩ := w1
      exact ⟨n, rfl, b1, b2, post R1 h1 H1 _ _ E1 hr1 w1 walks_range⟩
    | _ => exact w1.elim
theorem snd_r2 {a b : CE} (ha : Snd T cl N a) (hb : Snd T cl N b) : Snd T cl N (.r2 a b) := by
  have inv : ∀ {m : Bool} {sc : Scope} {e : Expr}, chk T N (.r2 a b) m sc e = true → ∃ y z p pos, e = .Call (.Name "range" p) [y, z] [] pos ∧ ("range" : Str) ∈ T.bn ∧ sc.names.lookup ("range" : Str) = some .globalImplicit ∧ noStar y = true ∧ noStar z = true ∧ chk T N a false sc y = true ∧ chk T N b false sc z = true := by
    intro m sc e h
    cases e with
    | Call fn es kw pos =>
      cases fn with
      | Name x p =>
        match es, kw, h with
        | [y, z], [], h =>
          simp only [chk, Bool.and_eq_true, decide_eq_true_eq, glC] at h
          obtain ⟨⟨⟨⟨⟨⟨rfl, h2⟩, h3⟩, h4⟩, h5⟩, h6⟩, h7⟩ := h
          exact ⟨y, z, p, pos, rfl, h2, h3, h4, h5, h6, h7⟩
        | [], _, h => simp [chk] at h
        | [_], _, h => simp [chk] at h
        | [_, _], _ :: _, h => simp [chk] at h
        | _ :: _ :: _ :: _, _, h => simp [chk] at h
      | _ => simp [chk] at h
    | _ => simp [chk] at h
  refine ⟨fun g h => pe_no, fun {sc ss X e} g h => ?_, fun {m sc ss X e tg} g h => ?_, fun {sc ss X es} g h => by cases es <;> cases h⟩
  · obtain ⟨y, z, p, pos, rfl, _⟩ := inv h
    exact ⟨t_of_e pe_no rfl, fun z => by cases z⟩
  · obtain ⟨y, z, p, pos, rfl, h1, h2, h3, h4, h5, h6⟩ := inv h
    refine PI.imp (pi_range2 (by unfold Gl Env.kindOf; rw [g.hsc]; exact h2) (g.bn _ h1) (pa_cons (ha.e g h5) (pa_cons (hb.e g h6) pa_nil (star_cons h4)) (star_cons h3)) (by rw [star_cons h3, star_cons h4]; rfl) (by rw [star_cons h4]; rfl)) fun σ H Z ⟨R, τ, h, P, sr, hr, w, post⟩ => ?_
    refine ⟨R, τ, h, _, sr, hr, w, fun R1 h1 H1 d v E1 hr1 rd w1 => ⟨R1, τ, h1, _, E1.srel sr, hr1, w1, fun R2 h2 H2 d2 v2 E2 hr2 rd2 w2 => ?_⟩⟩
    cases d with
    | int i =>
      cases d2 with
      | int j =>
        cases rd.intE
        cases rd2.intE
        obtain ⟨b1, w2⟩ := w2
        exact ⟨i, j, rfl, b1, post R2 h2 H2 _ _ (E1.trans E2) hr2 w2 walks_range⟩
      | _ => exact w2.elim
    | _ => exact w2.elim
def condT (cl : CallD) (gl : List (Str × D)) : Option Unit → CE → TTd
  | none, _ => yesT
  | some _, c => (wp cl gl c).t
theorem compInv {p : Pat} {it : CE} {cd : Option Unit} {c elt : CE} {m : Bool} {sc : Scope} {e : Expr} (h : chk T N (.comp p it cd c elt) m sc e = true) : ∃ e' tg iter ifs scope pos, e = .ListComp e' [⟨tg, iter, ifs, 0⟩] scope pos ∧ blkC N sc scope (ownOf N p) = true ∧ noSet iter = true ∧ chk T N it false sc iter = true ∧ chkP N scope p tg = true ∧ chk T N elt false (relS scope sc) e' = true ∧
      ((cd = none ∧ ifs = []) ∨ ∃ u i, cd = some u ∧ ifs = [i] ∧ chk T N c true (relS scope sc) i = true) := by
  cases e with
  | ListComp e' gs scope pos =>
    match gs, h with
    | [⟨tg, iter, ifs, k⟩], h =>
      simp only [chk, Bool.and_eq_true, decide_eq_true_eq] at h
      obtain ⟨⟨⟨⟨⟨⟨rfl, h1⟩, h2⟩, h3⟩, h4⟩, h5⟩, h6⟩ := h
      refine ⟨e', tg, iter, ifs, scope, pos, rfl, h1, h2, h3, h4, h5, ?_⟩
      split at h6
      · exact .inl ⟨rfl, rfl⟩
      · exact .inr ⟨_, _, rfl, rfl, h6⟩
      · cases h6
    | [], h => simp [chk] at h
    | _ :: _ :: _, h => simp [chk] at h
  | _ => simp [chk] at h
theorem own_ix {p : Pat} : (ownOf N p).map (·.2) = p.ix := by unfold ownOf; rw [List.map_map]; exact List.map_id _
theorem comp_tests {cd : Option Unit} {c : CE} {sc ss scope : Scope} {X : Cx} {ifs : List Expr} (g : Good T cl N sc ss X) (hc : Snd T cl N c) (hk : scope.kind = .function) (h6 : (cd = none ∧ ifs = []) ∨ ∃ u i, cd = some u ∧ ifs = [i] ∧ chk T N c true (relS scope sc) i = true)
    (s : Shared) (H : Hp) (C : Addr) (l : List (Str × Addr)) (fp : List Addr) : PTs (X.blk s H scope (compEnvC scope l C X.env) fp) ifs (liftT X.K (condT cl T.gl cd c)) := by
  rcases h6 with ⟨rfl, rfl⟩ | ⟨u, i, rfl, rfl, h6⟩
  · exact ⟨fun pins s σ H Q I ⟨R, τ, h, P, sr, hr, w, post⟩ => pts_nil.run pins s σ H Q I (post R h H true .refl hr w)⟩
  · exact pts_one (hc.t (g.blk hk s H C l fp) h6).1
theorem comp_wp {p : Pat} {it : CE} {cd : Option Unit} {c elt : CE} : wp cl T.gl (.comp p it cd c elt) = mkR (compE (wp cl T.gl it).i p (condT cl T.gl cd c) (wp cl T.gl elt).e) := by cases cd <;> rfl
theorem snd_comp {p : Pat} {it : CE} {cd : Option Unit} {c elt : CE} (hi : Snd T cl N it) (hc : Snd T cl N c) (he0 : Snd T cl N elt) : Snd T cl N (.comp p it cd c elt) := by
  refine Snd.plain comp_wp (fun {m sc ss X e} g h => ?_) (fun {sc e} h => ?_) (fun sc es => by cases es <;> rfl)
  · obtain ⟨e', tg, iter, ifs, scope, pos, rfl, h1, h2, h3, h4, h5, h6⟩ := compInv h
    have ok := blkOk_by h1
    have P := pe_lc (X := X) (own := ownOf N p) (pos := pos) (elt := e') (te := lift X.K (wp cl T.gl elt).e) (g := gOf X.K p) g.calm (by rw [g.hN]; exact g.nd) (hi.i g h3) (by rw [g.hN, g.hsc]; exact ok)
      (fun s H C l fp => pg_of (g.blk ok.kind s H C l fp) h4) (comp_tests g hc ok.kind h6) (fun s H C l fp => he0.e (g.blk ok.kind s H C l fp) h5) (noSet_fold h2)
    rw [own_ix] at P
    exact PE.imp P fun σ H Q w => comp_sim σ H Q w
  · obtain ⟨e', tg, iter, ifs, scope, pos, rfl, _⟩ := compInv h
    rfl
/-- name = [..], stored within the comprehension's frame -/
theorem ss_setLc {i : Nat} {y : Str} {p : Pat} {it : CE} {cd : Option Unit} {c elt : CE} {sc : Scope} {X : Cx} {e : Expr} {py spos : Pos} (hi : Snd T cl N it) (hc : Snd T cl N c) (he0 : Snd T cl N elt) (g : Good T cl N sc sc X) (hy : N[i]? = some y)
    (hyl : sc.names.lookup y = some .local) (hsw : swapsWith e (some (.Name y py)) spos.line X.env = pure true) (h : chk T N (.comp p it cd c elt) false sc e = true) :
    ∃ tE, PS X (.Assign [.Name y py] e spos) (tAsg tE (gName i)) ∧ ∀ σ H Q, lift X.K (wp cl T.gl (.comp p it cd c elt)).e σ H Q → tE σ H Q := by
  obtain ⟨e', tg, iter, ifs, scope, pos, rfl, h1, h2, h3, h4, h5, h6⟩ := compInv h
  have ok := blkOk_by h1
  have P := ps_setLc (X := X) (own := ownOf N p) (pos := pos) (elt := e') (te := lift X.K (wp cl T.gl elt).e) (g := gOf X.K p) g.calm (by rw [g.hN]; exact g.nd) (by rw [g.hN]; exact hy) (by rw [g.hsc]; exact hyl) hsw (hi.i g h3) (by rw [g.hN, g.hsc]; exact ok)
    (fun s H C l fp => pg_of (g.blk ok.kind s H C l fp) h4) (comp_tests g hc ok.kind h6) (fun s H C l fp => he0.e (g.blk ok.kind s H C l fp) h5) (noSet_fold h2)
  rw [own_ix] at P
  exact ⟨_, P, fun σ H Q w => by rw [comp_wp] at w; exact comp_sim σ H Q w⟩
theorem snd (T : Tab) (cl : CallD) (N : List Str) : ∀ c : CE, Snd T cl N c
  | .var _ => snd_var
  | .cst _ => snd_cst
  | .glob _ => snd_glob
  | .anil => snd_nil
  | .acons a r => snd_cons (snd T cl N a) (snd T cl N r)
  | .tup as => snd_tup (snd T cl N as)
  | .lst as => snd_lst (snd T cl N as)
  | .prim _ as => snd_prim (snd T cl N as)
  | .meth _ o as => snd_meth (snd T cl N o) (snd T cl N as)
  | .call _ as => snd_call (snd T cl N as)
  | .ife t a b => snd_ife (snd T cl N t) (snd T cl N a) (snd T cl N b)
  | .and_ a b => snd_and (snd T cl N a) (snd T cl N b)
  | .or_ a b => snd_or (snd T cl N a) (snd T cl N b)
  | .not_ a => snd_not (snd T cl N a)
  | .chain _ _ a b c => snd_chain (snd T cl N a) (snd T cl N b) (snd T cl N c)
  | .sl2 a b c => snd_sl2 (snd T cl N a) (snd T cl N b) (snd T cl N c)
  | .r1 a => snd_r1 (snd T cl N a)
  | .r2 a b => snd_r2 (snd T cl N a) (snd T cl N b)
  | .comp _ it _ c elt => snd_comp (snd T cl N it) (snd T cl N c) (snd T cl N elt)
end
end Py

namespace Py
open PySem PySem.Spec PyProof.Rows L2

/-! ### statements -/
inductive CS where
  | nil | seq (s r : CS) | pass | brk | cont | expr (e : CE) | asg (p : Pat) (e : CE) | asgs (is : List Nat) (as : CE) | setIdx (o i e : CE) | aug (i : Nat) (p : Prim) (e : CE)
  | ret (e : CE) | retN | ite (t : CE) (a b : CS) | whil (t : CE) (b : CS) | forr (p : Pat) (it : CE) (b : CS)
/-- x op= y by values -/
def augW (p : Prim) (x y : D) (h : Hd) (Q : PD) : Prop := match p, x, y with
  | .add, .int i, .int j => Q (.int (i + j)) h
  | .sub, .int i, .int j => Q (.int (i - j)) h
  | .mul, .int i, .int j => mulOk i j ∧ Q (.int (i * j)) h
  | .add, .str a, .str b => a.length + b.length ≤ sizeLine ∧ Q (.str (a ++ b)) h
  | .add, .tup a, .tup b => a.length + b.length ≤ sizeLine ∧ Q (.tup (a ++ b)) h
  | .add, .loc a, y => match h[a]?, mutOf h y with
    | some (.lst xs), some ys => xs.length + ys.length ≤ sizeLine ∧ Q (.loc a) (h.set a (.lst (xs ++ ys)))
    | _, _ => False
  | _, _, _ => False
def forW (ok : Hd → Prop) (p : Pat) (body : TSd) (Z : Endd) : List D → Sd → Hd → Prop
  | [], τ, h => ok h ∧ Z.nx τ h
  | x :: xs, τ, h => ok h ∧ bindW p x τ fun τ' => body { Z with nx := forW ok p body Z xs, ct := forW ok p body Z xs, bk := Z.nx } τ' h
def whileW (t : TTd) (body : TSd) : TSd := fun Z τ h => ∃ W : Nat → Sd → Hd → Prop, (∃ m, W m τ h) ∧ ∀ m τ h, W m τ h →
  t τ h fun k h1 => if k = true then body { Z with nx := fun τ' h' => ∃ m', m' < m ∧ W m' τ' h', ct := fun τ' h' => ∃ m', m' < m ∧ W m' τ' h', bk := Z.nx } τ h1 else Z.nx τ h1
def asgS (p : Pat) (e : TEd) : TSd := fun Z τ h => e τ h fun d h1 => mat d h1 fun d' h2 => bindW p d' τ fun τ' => Z.nx τ' h2
def asgsS (is : List Nat) (as : Bool → TAd) : TSd := fun Z τ h => as true τ h fun ds h1 => (ds.length = is.length ∧ ds.length ≤ sizeLine) ∧ Z.nx (setAll τ is ds) h1
def setIdxS (o i e : TEd) : TSd := fun Z τ h => e τ h fun d h1 => mat d h1 fun d' h2 => o τ h2 fun x h3 => i τ h3 fun y h4 => setIdxW x y d' h4 fun h5 => Z.nx τ h5
def augS (i : Nat) (p : Prim) (e : TEd) : TSd := fun Z τ h => match τ[i]? with
  | some (some x) => e τ h fun y h1 => augW p x y h1 fun z h2 => Z.nx (τ.set i (some z)) h2
  | _ => False
def iteS (t : TTd) (a b : TSd) : TSd := fun Z τ h => t τ h fun k h1 => if k = true then a Z τ h1 else b Z τ h1
def forS (p : Pat) (it : TId) (body : TSd) : TSd := fun Z τ h => it τ h fun w h1 => forW w.ok p body Z w.xs τ h1
def wpS (cl : CallD) (gl : List (Str × D)) : CS → TSd
  | .nil => fun Z τ h => Z.nx τ h
  | .seq s r => fun Z τ h => wpS cl gl s { Z with nx := wpS cl gl r Z } τ h
  | .pass => fun Z τ h => Z.nx τ h
  | .brk => fun Z τ h => Z.bk τ h
  | .cont => fun Z τ h => Z.ct τ h
  | .expr e => fun Z τ h => (wp cl gl e).e τ h fun _ h1 => Z.nx τ h1
  | .asg p e => asgS p (wp cl gl e).e
  | .asgs is as => asgsS is (wp cl gl as).a
  | .setIdx o i e => setIdxS (wp cl gl o).e (wp cl gl i).e (wp cl gl e).e
  | .aug i p e => augS i p (wp cl gl e).e
  | .ret e => fun Z τ h => (wp cl gl e).e τ h Z.rt
  | .retN => fun Z _ h => Z.rt .non h
  | .ite t a b => iteS (wp cl gl t).t (wpS cl gl a) (wpS cl gl b)
  | .whil t b => whileW (wp cl gl t).t (wpS cl gl b)
  | .forr p it b => forS p (wp cl gl it).i (wpS cl gl b)

/-! ### the syntax of statements -/
def isComp : Expr → Bool
  | .ListComp _ _ _ _ => true
  | .SetComp _ _ _ _ => true
  | .DictComp _ _ _ _ _ => true
  | _ => false
/-- y = e is stored within the comprehension's frame -/
def swB (sc : Scope) (y : Str) (py : Pos) : Expr → Bool
  | .ListComp _ _ s pos => decide (sc.names.lookup y = some .local) && (py.line == pos.line) && !(s.names.any fun (n, k) => n == y && (k == .local || k == .cell))
  | _ => false
theorem noComp_sw {e : Expr} {t : Option Expr} {l : Nat} {env : Env} (h : isComp e = false) : swapsWith e t l env = pure false := by
  unfold swapsWith
  cases e <;> first | rfl | cases h
theorem noName_sw {e t : Expr} {l : Nat} {env : Env} (h : isName t = none) : swapsWith e (some t) l env = pure false := by
  unfold swapsWith
  cases t <;> first | cases h | skip
  all_goals (cases e <;> rfl)
theorem swB_ok {e : Expr} {y : Str} {py : Pos} {l : Nat} {env : Env} {sc : Scope} (hs : env.scope = sc) (hk : sc.kind = .function) (hc : isComp e = false ∨ ∃ a b c d, e = .ListComp a b c d) : swapsWith e (some (.Name y py)) l env = pure (swB sc y py e) := by
  rcases hc with hc | ⟨a, b, c, d, rfl⟩
  · rw [noComp_sw hc]
    cases e <;> first | rfl | cases hc
  · have hb : env.blockKind = .function := by unfold Env.blockKind; rw [hs, hk]; rfl
    unfold swapsWith swB Env.kindOf
    simp only [hb, hs, Expr.pos]
    by_cases q : sc.names.lookup y = some .local
    · rw [q]; simp
    · have q' : (sc.names.lookup y == some NameKind.local) = false := by simpa using q
      rw [q']; simp [q]
/-- a tuple of names given a written tuple: stored one by one (true), or as any tuple; none: not served -/
def swS (sc : Scope) (ts vs : List Expr) : Option Bool :=
  if !(ts.length == 2 || ts.length == 3) || vs.length != ts.length then some false
  else if vs.any (fun e => !noStar e) then some false
  else
    let line := (ts.head?.map (·.pos.line)).getD 0
    let names := ts.filterMap fun
      | .Name id pos => if sc.names.lookup id == some .local && pos.line == line then some id else none
      | _ => none
    if names.length != ts.length || names.eraseDups.length != names.length then some false
    else if vs.all (foldedForSure 8) then some false
    else if vs.all (constantsAlone 8) then none
    else some true
end Py

namespace Py
open PySem PySem.Spec PyProof.Rows L2
def swNames (sc : Scope) (ts : List Expr) : List Str := ts.filterMap fun
      | .Name id pos => if sc.names.lookup id == some .local && pos.line == (ts.head?.map (·.pos.line)).getD 0 then some id else none
      | _ => none
theorem swS_ok {sc : Scope} {env : Env} {ts vs : List Expr} {k1 k2 : Nat} {p1 p2 : Pos} (hs : env.scope = sc) (hk : sc.kind = .function) {b : Bool} (h : swS sc ts vs = some b) :
    swappedStores [.Tuple ts k1 p1] (.Tuple vs k2 p2) env = pure (if b = true then some (swNames sc ts) else none) := by
  have hb : env.blockKind = .function := by unfold Env.blockKind; rw [hs, hk]; rfl
  have hst : (vs.any fun e => !noStar e) = (vs.any fun | .Starred .. => true | _ => false) := by
    congr 1
    funext e
    cases e <;> rfl
  unfold swappedStores
  simp only [hb, hs, Env.kindOf]
  have e0 : (ScopeKind.function != ScopeKind.function) = false := rfl
  rw [e0, Bool.or_false]
  unfold swS at h
  rw [hst] at h
  dsimp only at h
  split at h
  · rename_i q
    cases h
    exact (if_pos q).trans rfl
  · rename_i q
    refine (if_neg q).trans ?_
    split at h
    · rename_i q2
      cases h
      exact (if_pos q2).trans rfl
    · rename_i q2
      refine (if_neg q2).trans ?_
      split at h
      · rename_i q3
        cases h
        exact (if_pos q3).trans rfl
      · rename_i q3
        refine (if_neg q3).trans ?_
        split at h
        · rename_i q4
          cases h
          exact (if_pos q4).trans rfl
        · rename_i q4
          refine (if_neg q4).trans ?_
          split at h
          · cases h
          · rename_i q5
            cases h
            exact (if_neg q5).trans rfl
end Py

namespace Py
open PySem PySem.Spec PyProof.Rows L2

structure SimZ (K : PySem.W.Frag) (R : Nat → Addr) (h : Hd) (H : Hp) (P : Endd) (Z : Ends) : Prop where
  nx : ∀ R' h' H' τ' σ', Ext K R h H R' h' H' → HRel K H' R' h' → SRel K H' R' h'.length τ' σ' → P.nx τ' h' → Z.nx σ' H'
  rt : ∀ R' h' H' d v, Ext K R h H R' h' H' → HRel K H' R' h' → RT K H' R' h'.length H d v → P.rt d h' → Z.rt v H'
  bk : ∀ R' h' H' τ' σ', Ext K R h H R' h' H' → HRel K H' R' h' → SRel K H' R' h'.length τ' σ' → P.bk τ' h' → Z.bk σ' H'
  ct : ∀ R' h' H' τ' σ', Ext K R h H R' h' H' → HRel K H' R' h' → SRel K H' R' h'.length τ' σ' → P.ct τ' h' → Z.ct σ' H'
theorem SimZ.on {K : PySem.W.Frag} {R R1 : Nat → Addr} {h h1 : Hd} {H H1 : Hp} {P : Endd} {Z : Ends} (s : SimZ K R h H P Z) (E : Ext K R h H R1 h1 H1) : SimZ K R1 h1 H1 P Z :=
  ⟨fun R' h' H' τ' σ' e a b c => s.nx R' h' H' τ' σ' (E.trans e) a b c, fun R' h' H' d v e a b c => s.rt R' h' H' d v (E.trans e) a (b.from fun _ => E.none_of) c,
    fun R' h' H' τ' σ' e a b c => s.bk R' h' H' τ' σ' (E.trans e) a b c, fun R' h' H' τ' σ' e a b c => s.ct R' h' H' τ' σ' (E.trans e) a b c⟩
theorem liftS_mk {K : PySem.W.Frag} {t : TSd} {Z : Ends} {σ : L2.St} {H : Hp} {R : Nat → Addr} {τ : Sd} {h : Hd} {P : Endd} (sr : SRel K H R h.length τ σ) (hr : HRel K H R h) (w : t P τ h) (s : SimZ K R h H P Z) : liftS K t Z σ H :=
  ⟨R, τ, h, P, sr, hr, w, s.nx, s.rt, s.bk, s.ct⟩
theorem liftS_el {K : PySem.W.Frag} {t : TSd} {Z : Ends} {σ : L2.St} {H : Hp} (w : liftS K t Z σ H) : ∃ R τ h P, SRel K H R h.length τ σ ∧ HRel K H R h ∧ t P τ h ∧ SimZ K R h H P Z := by
  obtain ⟨R, τ, h, P, a, b, c, d, e, f, g⟩ := w
  exact ⟨R, τ, h, P, a, b, c, d, e, f, g⟩
section
variable {X : Cx}
theorem ss_nil : PSs X [] (liftS X.K fun Z τ h => Z.nx τ h) := PSs.imp pss_nil fun Z σ H w => by
  obtain ⟨R, τ, h, P, sr, hr, w, s⟩ := liftS_el w
  exact s.nx R h H τ σ .refl hr sr w
theorem ss_cons {st : Stmt} {sts : List Stmt} {t u : TSd} (h1 : PS X st (liftS X.K t)) (h2 : PSs X sts (liftS X.K u)) : PSs X (st :: sts) (liftS X.K fun Z τ h => t { Z with nx := u Z } τ h) := PSs.imp (pss_cons h1 h2) fun Z σ H w => by
  obtain ⟨R, τ, h, P, sr, hr, w, s⟩ := liftS_el w
  exact liftS_mk (P := { P with nx := u P }) sr hr w ⟨fun R' h' H' τ' σ' E hr' sr' q => liftS_mk sr' hr' q (s.on E), s.rt, s.bk, s.ct⟩
theorem ss_pass {pos : Pos} : PS X (.Pass pos) (liftS X.K fun Z τ h => Z.nx τ h) := PS.imp ps_pass fun Z σ H w => by
  obtain ⟨R, τ, h, P, sr, hr, w, s⟩ := liftS_el w
  exact s.nx R h H τ σ .refl hr sr w
theorem ss_brk {pos : Pos} : PS X (.Break pos) (liftS X.K fun Z τ h => Z.bk τ h) := PS.imp ps_break fun Z σ H w => by
  obtain ⟨R, τ, h, P, sr, hr, w, s⟩ := liftS_el w
  exact s.bk R h H τ σ .refl hr sr w
theorem ss_cont {pos : Pos} : PS X (.Continue pos) (liftS X.K fun Z τ h => Z.ct τ h) := PS.imp ps_continue fun Z σ H w => by
  obtain ⟨R, τ, h, P, sr, hr, w, s⟩ := liftS_el w
  exact s.ct R h H τ σ .refl hr sr w
theorem ss_expr {e : Expr} {te : TEd} {pos : Pos} (he : PE X e (lift X.K te)) (hc : isComp e = false) : PS X (.Expr e pos) (liftS X.K fun Z τ h => te τ h fun _ h1 => Z.nx τ h1) := PS.imp (ps_expr he (noComp_sw hc)) fun Z σ H w => by
  obtain ⟨R, τ, h, P, sr, hr, w, s⟩ := liftS_el w
  exact ⟨R, τ, h, _, sr, hr, w, fun R1 h1 H1 d v E1 hr1 rd w1 => s.nx R1 h1 H1 τ σ E1 hr1 (E1.srel sr) w1⟩
theorem ss_ret {e : Expr} {te : TEd} {pos : Pos} (he : PE X e (lift X.K te)) : PS X (.Return (some e) pos) (liftS X.K fun Z τ h => te τ h Z.rt) := PS.imp (ps_ret he) fun Z σ H w => by
  obtain ⟨R, τ, h, P, sr, hr, w, s⟩ := liftS_el w
  exact ⟨R, τ, h, _, sr, hr, w, fun R1 h1 H1 d v E1 hr1 rd w1 => s.rt R1 h1 H1 d v E1 hr1 rd w1⟩
theorem ss_retN {pos : Pos} : PS X (.Return none pos) (liftS X.K fun Z _ h => Z.rt .non h) := PS.imp ps_retN fun Z σ H w => by
  obtain ⟨R, τ, h, P, sr, hr, w, s⟩ := liftS_el w
  exact s.rt R h H .non .non .refl hr (by simp only [RT, R0]) w
theorem ss_if {c : Expr} {a b : List Stmt} {t : TTd} {u1 u2 : TSd} {pos : Pos} (hc : PT X c (liftT X.K t)) (ha : PSs X a (liftS X.K u1)) (hb : PSs X b (liftS X.K u2)) : PS X (.If c a b pos) (liftS X.K (iteS t u1 u2)) := PS.imp (ps_if hc ha hb) fun Z σ H w => by
  obtain ⟨R, τ, h, P, sr, hr, w, s⟩ := liftS_el w
  refine ⟨R, τ, h, _, sr, hr, w, fun R1 h1 H1 k E1 hr1 w1 => ?_⟩
  cases k with
  | true => rw [if_pos rfl] at w1; exact iteT (liftS_mk (E1.srel sr) hr1 w1 (s.on E1))
  | false => rw [if_neg Bool.false_ne_true] at w1; exact iteF (liftS_mk (E1.srel sr) hr1 w1 (s.on E1))
theorem ss_while {c : Expr} {body : List Stmt} {t : TTd} {u : TSd} {pos : Pos} (hp : PassesOwn (model X.prog X.w) X.A X.env X.xe) (hc : PT X c (liftT X.K t)) (hb : PSs X body (liftS X.K u)) : PS X (.While c body [] pos) (liftS X.K (whileW t u)) := PS.imp (ps_while hp hc hb) fun Z σ H w => by
  obtain ⟨R, τ, h, P, sr, hr, w, s⟩ := liftS_el w
  obtain ⟨W, ⟨m0, w0⟩, turn⟩ := w
  refine ⟨fun m σ' H' => ∃ R' τ' h', Ext X.K R h H R' h' H' ∧ HRel X.K H' R' h' ∧ SRel X.K H' R' h'.length τ' σ' ∧ W m τ' h', ⟨m0, R, τ, h, .refl, hr, sr, w0⟩, ?_⟩
  rintro m σ1 H1 ⟨R1, τ1, h1, E1, hr1, sr1, w1⟩
  refine ⟨R1, τ1, h1, _, sr1, hr1, turn m τ1 h1 w1, fun R2 h2 H2 k E2 hr2 w2 => ?_⟩
  cases k with
  | true =>
    rw [if_pos rfl] at w2
    refine iteT ⟨_, fun σ' H' q => q, liftS_mk (E2.srel sr1) hr2 w2 ⟨fun R' h' H' τ' σ' E hr' sr' q => ?_, ((s.on E1).on E2).rt, ((s.on E1).on E2).nx, fun R' h' H' τ' σ' E hr' sr' q => ?_⟩⟩
    · obtain ⟨m', hm, q⟩ := q
      exact ⟨m', hm, R', τ', h', (E1.trans E2).trans E, hr', sr', q⟩
    · obtain ⟨m', hm, q⟩ := q
      exact ⟨m', hm, R', τ', h', (E1.trans E2).trans E, hr', sr', q⟩
  | false =>
    rw [if_neg Bool.false_ne_true] at w2
    exact iteF (s.nx R2 h2 H2 τ1 σ1 (E1.trans E2) hr2 (E2.srel sr1) w2)
theorem ss_for {tg iter : Expr} {body : List Stmt} {p : Pat} {t : TId} {u : TSd} {pos : Pos} (hp : PassesOwn (model X.prog X.w) X.A X.env X.xe) (hc : X.calm = true) (hi : PI X tg iter (liftI X.K t)) (hg : PG X tg (gOf X.K p)) (hb : PSs X body (liftS X.K u)) (hs : noSet iter = true) :
    PS X (.For tg iter body [] pos) (liftS X.K (forS p t u)) := PS.imp (ps_for hp hc hi hg hb (noSet_fold hs)) fun Z σ H w => by
  obtain ⟨R, τ, h, P, sr, hr, w, s⟩ := liftS_el w
  refine ⟨R, τ, h, _, sr, hr, w, fun R1 h1 H1 wk J E1 hr1 w1 wlk => ?_⟩
  refine ⟨fun i m σ' H' => m = wk.xs.length - i ∧ i ≤ wk.xs.length ∧ ∃ R' τ' h', Ext X.K R1 h1 H1 R' h' H' ∧ HRel X.K H' R' h' ∧ SRel X.K H' R' h'.length τ' σ' ∧ forW wk.ok p u P (wk.xs.drop i) τ' h',
    ⟨wk.xs.length, by simp, Nat.zero_le _, R1, τ, h1, .refl, hr1, E1.srel sr, w1⟩, ?_⟩
  rintro i m σ2 H2 ⟨rfl, hi, R2, τ2, h2, E2, hr2, sr2, w2⟩
  by_cases hlt : i < wk.xs.length
  · refine .inr ?_
    rw [List.drop_eq_getElem_cons hlt] at w2
    obtain ⟨ok, w2⟩ := w2
    obtain ⟨wgo, wstop, wyld⟩ := wlk R2 h2 H2 E2 hr2 ok
    refine ⟨wgo i hlt, _, fun σ' H' q => ⟨wk.xs.length - (i + 1), by omega, q⟩, fun x H3 y => ?_⟩
    obtain ⟨d, ed, E3, hr3, rd⟩ := wyld i x H3 hlt y
    rw [List.getElem?_eq_getElem hlt] at ed
    cases ed
    have E13 := (E1.trans E2).trans E3
    refine bind_sim rd (E3.srel sr2) w2 fun τ' σ' s' _ w3 => liftS_mk s' hr3 w3 ⟨fun R' h' H' τ4 σ4 E hr' sr' q => ?_, (s.on E13).rt, (s.on E13).nx, fun R' h' H' τ4 σ4 E hr' sr' q => ?_⟩
    · exact ⟨rfl, hlt, R', τ4, h', (E2.trans E3).trans E, hr', sr', q⟩
    · exact ⟨rfl, hlt, R', τ4, h', (E2.trans E3).trans E, hr', sr', q⟩
  · have e : i = wk.xs.length := by omega
    subst e
    rw [List.drop_eq_nil_of_le (Nat.le_refl _)] at w2
    obtain ⟨ok, w2⟩ := w2
    obtain ⟨wgo, wstop, wyld⟩ := wlk R2 h2 H2 E2 hr2 ok
    exact .inl ⟨wstop _ (Nat.le_refl _), s.nx R2 h2 H2 τ2 σ2 (E1.trans E2) hr2 sr2 w2⟩
/-- a target given a value that gets a place -/
theorem asg_sim {K : PySem.W.Frag} {p : Pat} {te : TEd} {tE : TE} (hT : ∀ σ H Q, lift K te σ H Q → tE σ H Q) (Z : Ends) (σ : L2.St) (H : Hp) (w : liftS K (asgS p te) Z σ H) : tAsg tE (gOf K p) Z σ H := by
  obtain ⟨R, τ, h, P, sr, hr, w, s⟩ := liftS_el w
  refine hT σ H _ ⟨R, τ, h, _, sr, hr, w, fun R1 h1 H1 d v E1 hr1 rd w1 => ?_⟩
  obtain ⟨R2, h2, d', E2, hr2, ag, rd', w2⟩ := mat_ok E1 hr1 rd w1
  exact bind_sim rd' (E2.srel sr) w2 fun τ' σ' s' _ w3 => s.nx R2 h2 H1 τ' σ' E2 hr2 s' w3
end
end Py

namespace Py
open PySem PySem.Spec PyProof.Rows L2
def isTupE : Expr → Bool
  | .Tuple _ _ _ => true
  | _ => false
def augOp : Prim → Option Operator
  | .add => some .Add | .sub => some .Sub | .mul => some .Mult | _ => none
def compOf : CE → Bool
  | .comp _ _ _ _ _ => true
  | _ => false
def asgNm : List Expr → Option Str
  | [.Name x _] => some x
  | _ => none
def asgTp : List Expr → Option (List Expr)
  | [.Tuple ts _ _] => some ts
  | _ => none
def asgC (N : List Str) (sc : Scope) (p : Pat) (e : CE) (ts : List Expr) (v : Expr) : Bool := match p with
  | .nm i => (match asgNm ts with | some x => chkN N sc i x && (!isComp v || compOf e) | none => false)
  | .tp is => (match asgTp ts with | some es => chkNs N sc is es && !isTupE v | none => false)
def asgT : List Expr → Expr → Option (List Expr × List Expr)
  | [.Tuple ts _ _], .Tuple vs _ _ => some (ts, vs)
  | _, _ => none
def parC (sc : Scope) : List Expr → List Expr → Bool
  | [.Name x p, .Name y q], [_, _] => decide (sc.names.lookup x = some .local) && decide (sc.names.lookup y = some .local) && decide (swNames sc [.Name x p, .Name y q] = [x, y])
  | [.Name x p, .Name y q, .Name z r], [_, _, _] => decide (sc.names.lookup x = some .local) && decide (sc.names.lookup y = some .local) && decide (sc.names.lookup z = some .local) && decide (swNames sc [.Name x p, .Name y q, .Name z r] = [x, y, z])
  | _, _ => false
def asgsC (sc : Scope) (ts vs : List Expr) : Bool := match swS sc ts vs with
  | some false => true
  | some true => parC sc ts vs
  | none => false
def subT : List Expr → Option (Expr × Expr)
  | [.Subscript o i _] => some (o, i)
  | _ => none
mutual
def chk1 (T : Tab) (N : List Str) : CS → Scope → Stmt → Bool
  | .pass, _, .Pass _ => true
  | .brk, _, .Break _ => true
  | .cont, _, .Continue _ => true
  | .expr e, sc, .Expr v _ => !isComp v && chk T N e false sc v
  | .asg p e, sc, .Assign ts v _ => asgC N sc p e ts v && chk T N e false sc v
  | .asgs is as, sc, .Assign ts v _ => (match asgT ts v with | some (ts, vs) => chkNs N sc is ts && decide (is.Nodup) && asgsC sc ts vs && chkA T N as sc vs | none => false)
  | .setIdx o i e, sc, .Assign ts v _ => (match subT ts with | some (o', i') => noSlice i' && chk T N o false sc o' && chk T N i false sc i' && chk T N e false sc v | none => false)
  | .aug i p e, sc, .AugAssign (.Name x _) op v _ => chkN N sc i x && decide (augOp p = some op) && chk T N e false sc v
  | .ret e, sc, .Return (some v) _ => chk T N e false sc v
  | .retN, _, .Return none _ => true
  | .ite t a b, sc, .If t' a' b' _ => chk T N t true sc t' && chkB T N a sc a' && chkB T N b sc b'
  | .whil t b, sc, .While t' b' [] _ => chk T N t true sc t' && chkB T N b sc b'
  | .forr p it b, sc, .For tg it' b' [] _ => chkP N sc p tg && noSet it' && chk T N it false sc it' && chkB T N b sc b'
  | _, _, _ => false
def chkB (T : Tab) (N : List Str) : CS → Scope → List Stmt → Bool
  | .nil, _, [] => true
  | .seq s r, sc, st :: sts => chk1 T N s sc st && chkB T N r sc sts
  | _, _, _ => false
end
structure SndS (T : Tab) (cl : CallD) (N : List Str) (c : CS) : Prop where
  s : ∀ {sc : Scope} {X : Cx} {st : Stmt}, Good T cl N sc sc X → PassesOwn (model X.prog X.w) X.A X.env X.xe → chk1 T N c sc st = true → PS X st (liftS X.K (wpS cl T.gl c))
  b : ∀ {sc : Scope} {X : Cx} {sts : List Stmt}, Good T cl N sc sc X → PassesOwn (model X.prog X.w) X.A X.env X.xe → chkB T N c sc sts = true → PSs X sts (liftS X.K (wpS cl T.gl c))
section
variable {T : Tab} {cl : CallD} {N : List Str}
theorem SndS.one {c : CS} (h : ∀ {sc : Scope} {X : Cx} {st : Stmt}, Good T cl N sc sc X → PassesOwn (model X.prog X.w) X.A X.env X.xe → chk1 T N c sc st = true → PS X st (liftS X.K (wpS cl T.gl c))) (hb : ∀ sc sts, chkB T N c sc sts = false) : SndS T cl N c :=
  ⟨h, fun g hp q => by rw [hb] at q; cases q⟩
theorem snS_pass : SndS T cl N .pass := SndS.one (fun {sc X st} g hp h => by
  cases st <;> first | (simp [chk1] at h; done) | exact ss_pass) (fun sc sts => by cases sts <;> rfl)
theorem snS_brk : SndS T cl N .brk := SndS.one (fun {sc X st} g hp h => by
  cases st <;> first | (simp [chk1] at h; done) | exact ss_brk) (fun sc sts => by cases sts <;> rfl)
theorem snS_cont : SndS T cl N .cont := SndS.one (fun {sc X st} g hp h => by
  cases st <;> first | (simp [chk1] at h; done) | exact ss_cont) (fun sc sts => by cases sts <;> rfl)
theorem snS_nil : SndS T cl N .nil := ⟨fun {sc X st} g hp h => by cases st <;> simp [chk1] at h, fun {sc X sts} g hp h => by
  cases sts with
  | nil => exact ss_nil
  | cons _ _ => simp [chkB] at h⟩
theorem snS_seq {s r : CS} (hs : SndS T cl N s) (hr : SndS T cl N r) : SndS T cl N (.seq s r) := ⟨fun {sc X st} g hp h => by cases st <;> simp [chk1] at h, fun {sc X sts} g hp h => by
  cases sts with
  | nil => simp [chkB] at h
  | cons st sts =>
    simp only [chkB, Bool.and_eq_true] at h
    exact ss_cons (t := wpS cl T.gl s) (u := wpS cl T.gl r) (hs.s g hp h.1) (hr.b g hp h.2)⟩
theorem snS_expr {e : CE} : SndS T cl N (.expr e) := SndS.one (fun {sc X st} g hp h => by
  cases st with
  | Expr v pos =>
    simp only [chk1, Bool.and_eq_true, Bool.not_eq_true'] at h
    exact ss_expr ((snd T cl N e).e g h.2) h.1
  | _ => simp [chk1] at h) (fun sc sts => by cases sts <;> rfl)
theorem snS_ret {e : CE} : SndS T cl N (.ret e) := SndS.one (fun {sc X st} g hp h => by
  cases st with
  | Return v pos =>
    cases v with
    | none => simp [chk1] at h
    | some v =>
      simp only [chk1] at h
      exact ss_ret ((snd T cl N e).e g h)
  | _ => simp [chk1] at h) (fun sc sts => by cases sts <;> rfl)
theorem snS_retN : SndS T cl N .retN := SndS.one (fun {sc X st} g hp h => by
  cases st with
  | Return v pos =>
    cases v with
    | none => exact ss_retN
    | some v => simp [chk1] at h
  | _ => simp [chk1] at h) (fun sc sts => by cases sts <;> rfl)
theorem snS_ite {t : CE} {a b : CS} (ha : SndS T cl N a) (hb : SndS T cl N b) : SndS T cl N (.ite t a b) := SndS.one (fun {sc X st} g hp h => by
  cases st with
  | If t' a' b' pos =>
    simp only [chk1, Bool.and_eq_true] at h
    exact ss_if ((snd T cl N t).t g h.1.1).1 (ha.b g hp h.1.2) (hb.b g hp h.2)
  | _ => simp [chk1] at h) (fun sc sts => by cases sts <;> rfl)
theorem snS_whil {t : CE} {b : CS} (hb : SndS T cl N b) : SndS T cl N (.whil t b) := SndS.one (fun {sc X st} g hp h => by
  cases st with
  | While t' b' o pos =>
    cases o with
    | nil =>
      simp only [chk1, Bool.and_eq_true] at h
      exact ss_while hp ((snd T cl N t).t g h.1).1 (hb.b g hp h.2)
    | cons _ _ => simp [chk1] at h
  | _ => simp [chk1] at h) (fun sc sts => by cases sts <;> rfl)
theorem snS_forr {p : Pat} {it : CE} {b : CS} (hb : SndS T cl N b) : SndS T cl N (.forr p it b) := SndS.one (fun {sc X st} g hp h => by
  cases st with
  | For tg it' b' o pos =>
    cases o with
    | nil =>
      simp only [chk1, Bool.and_eq_true] at h
      obtain ⟨⟨⟨h1, h2⟩, h3⟩, h4⟩ := h
      exact ss_for hp g.calm ((snd T cl N it).i g h3) (pg_of g h1) (hb.b g hp h4) h2
    | cons _ _ => simp [chk1] at h
  | _ => simp [chk1] at h) (fun sc sts => by cases sts <;> rfl)
theorem asgNm_inv {ts : List Expr} {x : Str} (h : asgNm ts = some x) : ∃ p, ts = [.Name x p] := by
  unfold asgNm at h
  split at h
  · cases h; exact ⟨_, rfl⟩
  · cases h
theorem asgTp_inv {ts es : List Expr} (h : asgTp ts = some es) : ∃ k p, ts = [.Tuple es k p] := by
  unfold asgTp at h
  split at h
  · cases h; exact ⟨_, _, rfl⟩
  · cases h
theorem asgC_nm {sc : Scope} {i : Nat} {e : CE} {ts : List Expr} {v : Expr} (h : asgC N sc (.nm i) e ts v = true) : ∃ x px, ts = [.Name x px] ∧ chkN N sc i x = true ∧ (isComp v = false ∨ compOf e = true) := by
  unfold asgC at h
  dsimp only at h
  split at h
  · rename_i x q
    obtain ⟨p, rfl⟩ := asgNm_inv q
    simp only [Bool.and_eq_true, Bool.or_eq_true, Bool.not_eq_true'] at h
    exact ⟨_, _, rfl, h.1, h.2⟩
  · cases h
theorem asgC_tp {sc : Scope} {is : List Nat} {e : CE} {ts : List Expr} {v : Expr} (h : asgC N sc (.tp is) e ts v = true) : ∃ es k p, ts = [.Tuple es k p] ∧ chkNs N sc is es = true ∧ isTupE v = false := by
  unfold asgC at h
  dsimp only at h
  split at h
  · rename_i es q
    obtain ⟨k, p, rfl⟩ := asgTp_inv q
    simp only [Bool.and_eq_true, Bool.not_eq_true'] at h
    exact ⟨_, _, _, rfl, h.1, h.2⟩
  · cases h
theorem snS_asg {p : Pat} {e : CE} : SndS T cl N (.asg p e) := SndS.one (fun {sc X st} g hp h => by
  cases st with
  | Assign ts v pos =>
    simp only [chk1, Bool.and_eq_true] at h
    obtain ⟨h0, h3⟩ := h
    cases p with
    | nm i =>
      obtain ⟨x, px, rfl, h1, h2⟩ := asgC_nm h0
      have h1' := h1
      unfold chkN at h1'
      simp only [Bool.and_eq_true, Bool.or_eq_true, decide_eq_true_eq] at h1'
      have hN : X.N.Nodup := by rw [g.hN]; exact g.nd
      have hl : isComp v = false ∨ ∃ a b c d, v = .ListComp a b c d := by
        rcases h2 with h2 | h2
        · exact .inl h2
        · cases e <;> first | (cases h2; done) | skip
          obtain ⟨e', tg, iter, ifs, scope, ps, rfl, _⟩ := compInv h3
          exact .inr ⟨_, _, _, _, rfl⟩
      have sw := swB_ok (y := x) (py := px) (l := pos.line) g.hsc g.kind hl
      cases q : swB sc x px v with
      | false =>
        rw [q] at sw
        obtain ⟨a, b⟩ := g.st x h1'.2
        exact PS.imp (ps_set hN (by rw [g.hN]; exact h1'.1) a ((snd T cl N e).e g h3) sw b) fun Z σ H w => asg_sim (p := .nm i) (fun _ _ _ z => z) Z σ H w
      | true =>
        rw [q] at sw
        have hloc : sc.names.lookup x = some .local := by
          unfold swB at q
          split at q
          · simp only [Bool.and_eq_true, decide_eq_true_eq] at q
            exact q.1.1
          · cases q
        have hce : compOf e = true := by
          rcases h2 with h2 | h2
          · unfold swB at q
            split at q
            · cases h2
            · cases q
          · exact h2
        cases e <;> first | (cases hce; done) | skip
        obtain ⟨tE, P, hE⟩ := ss_setLc (snd T cl N _) (snd T cl N _) (snd T cl N _) g h1'.1 hloc sw h3
        exact PS.imp P fun Z σ H w => asg_sim (p := .nm i) hE Z σ H w
    | tp is =>
      obtain ⟨es, k, p, rfl, h1, h2⟩ := asgC_tp h0
      have hw : swappedStores [.Tuple es k p] v X.env = pure none := by cases v <;> first | rfl | cases h2
      have hs : swapsWithSole [.Tuple es k p] v pos.line X.env = pure false := noName_sw (t := .Tuple es k p) (l := pos.line) (env := X.env) rfl
      exact PS.imp (ps_asg ((snd T cl N e).e g h3) (pg_of g (p := .tp is) (e := .Tuple es k p) h1) hs hw rfl) fun Z σ H w => asg_sim (p := .tp is) (fun _ _ _ z => z) Z σ H w
  | _ => simp [chk1] at h) (fun sc sts => by cases sts <;> rfl)
theorem asgT_inv {ts : List Expr} {v : Expr} {a b : List Expr} (h : asgT ts v = some (a, b)) : ∃ k p k2 p2, ts = [.Tuple a k p] ∧ v = .Tuple b k2 p2 := by
  unfold asgT at h
  split at h
  · cases h; exact ⟨_, _, _, _, rfl, rfl⟩
  · cases h
theorem subT_inv {ts : List Expr} {a b : Expr} (h : subT ts = some (a, b)) : ∃ p, ts = [.Subscript a b p] := by
  unfold subT at h
  split at h
  · cases h; exact ⟨_, rfl⟩
  · cases h
def rSetLD : TSet := fun o i v H Q => rSetL o i v H Q ∨ rSetD o i v H Q
theorem set_both {X : Cx} (hu : X.A.units + 1 < cLine) : PSet X rSetLD := by
  intro pins s σ H o i v ov iv u Q I ro ri rv h
  rcases h with h | h
  · exact set_list pins s σ H o i v ov iv u Q I ro ri rv h
  · exact set_dict hu pins s σ H o i v ov iv u Q I ro ri rv h
/-- a dict is written -/
theorem put_dct {K : PySem.W.Frag} {R : Nat → Addr} {h : Hd} {H : Hp} {i : Nat} {ks vs : List D} {k : Key} {d : D} {v : V} (hr : HRel K H R h) (hi : i < h.length) (e : h[i]? = some (.dct false ks vs)) (rd : R0 K H R h.length d v) (hl : ks.length < sizeLine) :
    ∃ H', DPut H (R i) (kV k) v H' ∧ Ext K R h H R (h.set i (.dct false (dPut ks vs k d).1 (dPut ks vs k d).2)) H' ∧ HRel K H' R (h.set i (.dct false (dPut ks vs k d).1 (dPut ks vs k d).2)) := by
  have o := hr.obj i _ e
  rcases o with ⟨_, kvs, a, b, c⟩ | ⟨t, _⟩
  · subst b
    obtain ⟨p1, p2⟩ := dPut_rel (k := k) rd c
    refine ⟨_, DPut.k a (by rw [List.length_map] at hl; exact hl), ?_⟩
    have E : Ext K R h H R (h.set i (.dct false (dPut (kvs.map fun p => keyD p.1) vs k d).1 (dPut (kvs.map fun p => keyD p.1) vs k d).2)) (upd H (R i) (.dK (putK kvs k v))) := .put hr hi a True.intro
    refine ⟨E, hr.put hi a True.intro ?_⟩
    exact .inl ⟨rfl, _, upd_same, p1, E.r0s p2⟩
  · cases t
theorem set_sim {K : PySem.W.Frag} {to ti te : TEd} (Z : Ends) (σ : L2.St) (H : Hp) (w : liftS K (setIdxS to ti te) Z σ H) : tAsg (lift K te) (gSub (lift K to) (lift K ti) rSetLD) Z σ H := by
  obtain ⟨R, τ, h, P, sr, hr, w, s⟩ := liftS_el w
  refine ⟨R, τ, h, _, sr, hr, w, fun R1 h1 H1 d v E1 hr1 rd w1 => ?_⟩
  obtain ⟨R2, h2, d', E2, hr2, ag, rd', w2⟩ := mat_ok E1 hr1 rd w1
  refine ⟨R2, τ, h2, _, E2.srel sr, hr2, w2, fun R3 h3 H3 x u E3 hr3 rx w3 => ⟨R3, τ, h3, _, E3.srel (E2.srel sr), hr3, w3, fun R4 h4 H4 y u2 E4 hr4 ry w4 => ?_⟩⟩
  unfold setIdxW at w4
  split at w4
  · obtain ⟨hi, rfl⟩ := (E4.rt rx).locE
    cases ry.intE
    split at w4
    · rename_i xs ex
      obtain ⟨_, vs, hw, r⟩ := hr4.lst ex
      split at w4
      · rename_i n en
        have E24 := (E2.trans E3).trans E4
        have rv := E4.r0 (E3.r0 rd')
        refine .inl ⟨_, vs, _, n, rfl, rfl, hw, by rw [← R0s_len r]; exact en, ?_⟩
        have E5 : Ext K R4 h4 H4 R4 (h4.set _ (.lst (xs.set n d'))) (upd H4 (R4 _) (.lst (vs.set n v))) := .put hr4 hi hw True.intro
        exact s.nx R4 _ _ τ σ (E24.trans E5) (hr4.put hi hw True.intro ⟨_, upd_same, E5.r0s (R0s_set rv n r)⟩) ((E24.trans E5).srel sr) w4
      · exact w4.elim
    · rename_i ks vs ex
      obtain ⟨H5, dp, E5, hr5⟩ := put_dct (k := .inl _) hr4 hi ex (E4.r0 (E3.r0 rd')) w4.1
      have E24 := (E2.trans E3).trans E4
      exact .inr ⟨_, H5, rfl, dp, s.nx R4 _ _ τ σ (E24.trans E5) hr5 ((E24.trans E5).srel sr) w4.2⟩
    · exact w4.elim
  · obtain ⟨hi, rfl⟩ := (E4.rt rx).locE
    cases ry.strE
    split at w4
    · rename_i ks vs ex
      obtain ⟨H5, dp, E5, hr5⟩ := put_dct (k := .inr _) hr4 hi ex (E4.r0 (E3.r0 rd')) w4.1
      have E24 := (E2.trans E3).trans E4
      exact .inr ⟨_, H5, rfl, dp, s.nx R4 _ _ τ σ (E24.trans E5) hr5 ((E24.trans E5).srel sr) w4.2⟩
    · exact w4.elim
  · exact w4.elim
theorem snS_set {o i e : CE} : SndS T cl N (.setIdx o i e) := SndS.one (fun {sc X st} g hp h => by
  cases st with
  | Assign ts v pos =>
    simp only [chk1] at h
    split at h
    · rename_i o' i' q
      simp only [Bool.and_eq_true] at h
      obtain ⟨⟨⟨h0, h1⟩, h2⟩, h3⟩ := h
      obtain ⟨p, rfl⟩ := subT_inv q
      have hw : swappedStores [.Subscript o' i' p] v X.env = pure none := by cases v <;> rfl
      have hs : swapsWithSole [.Subscript o' i' p] v pos.line X.env = pure false := noName_sw (t := .Subscript o' i' p) (l := pos.line) (env := X.env) rfl
      refine PS.imp (ps_asg ((snd T cl N e).e g h3) (pg_sub ((snd T cl N o).e g h1) ((snd T cl N i).e g h2) (set_both (by have := g.hu; omega)) ?_) hs hw rfl) fun Z σ H w => set_sim Z σ H w
      intro u
      cases i' <;> first | rfl | cases h0
    · cases h
  | _ => simp [chk1] at h) (fun sc sts => by cases sts <;> rfl)
end
end Py

namespace Py
open PySem PySem.Spec PyProof.Rows L2
section
variable {T : Tab} {cl : CallD} {N : List Str}
theorem tup_sim {K : PySem.W.Frag} {is : List Nat} {as : CE} (Z : Ends) (σ : L2.St) (H : Hp) (w : liftS K (asgsS is (wp cl T.gl as).a) Z σ H) : tAsg (tTup (liftA K ((wp cl T.gl as).a true))) (gTup K is.length (gAll is)) Z σ H := by
  obtain ⟨R, τ, h, P, sr, hr, w, s⟩ := liftS_el w
  refine ⟨R, τ, h, _, sr, hr, w, fun R1 h1 H1 ds vs E1 hr1 rs w1 => ?_⟩
  obtain ⟨⟨hl, hz⟩, w1⟩ := w1
  refine ⟨by rw [← R0s_len rs]; exact hz, fun p hp => ?_⟩
  have E2 : Ext K R1 h1 H1 R1 h1 (upd H1 p (.tup vs)) := .laid hp
  refine ⟨p, vs, rfl, .inl (.inl upd_same), by rw [← R0s_len rs]; exact hl, ?_⟩
  exact bind_all (E2.r0s rs) ((E1.trans E2).srel sr) hl (fun i hi => hi) fun σ' s' _ => s.nx R1 h1 _ _ σ' (E1.trans E2) (hr1.laid hp) s' w1
theorem parC_inv {sc : Scope} {ts vs : List Expr} (h : parC sc ts vs = true) :
    (∃ x p y q a b, ts = [.Name x p, .Name y q] ∧ vs = [a, b] ∧ sc.names.lookup x = some .local ∧ sc.names.lookup y = some .local ∧ swNames sc ts = [x, y]) ∨
    (∃ x p y q z r a b c, ts = [.Name x p, .Name y q, .Name z r] ∧ vs = [a, b, c] ∧ sc.names.lookup x = some .local ∧ sc.names.lookup y = some .local ∧ sc.names.lookup z = some .local ∧ swNames sc ts = [x, y, z]) := by
  unfold parC at h
  split at h
  · simp only [Bool.and_eq_true, decide_eq_true_eq] at h
    exact .inl ⟨_, _, _, _, _, _, rfl, rfl, h.1.1, h.1.2, h.2⟩
  · simp only [Bool.and_eq_true, decide_eq_true_eq] at h
    exact .inr ⟨_, _, _, _, _, _, _, _, _, rfl, rfl, h.1.1.1, h.1.1.2, h.1.2, h.2⟩
  · cases h
theorem chkN_at {sc : Scope} {i : Nat} {x : Str} {p : Pos} (h : chkE1 N sc i (.Name x p) = true) : N[i]? = some x := by
  obtain ⟨y, q, e, h1⟩ := chkE1_ok h
  cases e
  unfold chkN at h1
  simp only [Bool.and_eq_true, decide_eq_true_eq] at h1
  exact h1.1
theorem snS_asgs {is : List Nat} {as : CE} : SndS T cl N (.asgs is as) := SndS.one (fun {sc X st} g hp h => by
  cases st with
  | Assign ts v pos =>
    simp only [chk1] at h
    split at h
    · rename_i ts' vs q
      obtain ⟨k, p, k2, p2, rfl, rfl⟩ := asgT_inv q
      simp only [Bool.and_eq_true, decide_eq_true_eq] at h
      obtain ⟨⟨⟨h1, h2⟩, h3⟩, h4⟩ := h
      obtain ⟨ha, hs⟩ := (snd T cl N as).a g h4
      have hN : X.N.Nodup := by rw [g.hN]; exact g.nd
      have hsw : swapsWithSole [.Tuple ts' k p] (.Tuple vs k2 p2) pos.line X.env = pure false := noName_sw (e := .Tuple vs k2 p2) (t := .Tuple ts' k p) (l := pos.line) (env := X.env) rfl
      unfold asgsC at h3
      split at h3
      · rename_i qs
        have hw := swS_ok (env := X.env) (k1 := k) (k2 := k2) (p1 := p) (p2 := p2) g.hsc g.kind qs
        exact PS.imp (ps_asg (pe_tup (args_ok hs ha)) (pg_of g (p := .tp is) (e := .Tuple ts' k p) h1) hsw hw rfl) fun Z σ H w => tup_sim Z σ H w
      · rename_i qs
        have hw := swS_ok (env := X.env) (k1 := k) (k2 := k2) (p1 := p) (p2 := p2) g.hsc g.kind qs
        rw [if_pos rfl] at hw
        rcases parC_inv h3 with ⟨x, px, y, py, a, b, rfl, rfl, lx, ly, en⟩ | ⟨x, px, y, py, z, pz, a, b, c, rfl, rfl, lx, ly, lz, en⟩
        · rw [en] at hw
          match is, h1, h2 with
          | [i, j], h1, h2 =>
            unfold chkNs chkNs at h1
            simp only [Bool.and_eq_true] at h1
            have nij : i ≠ j := by simpa using h2
            have n1 := chkN_at h1.1
            have n2 := chkN_at h1.2.1
            rw [← g.hN] at n1 n2
            refine PS.imp (ps_par (i := i) (j := j) g.calm hN n1 n2 nij (by rw [g.hsc]; exact lx) (by rw [g.hsc]; exact ly) (args_ok hs ha) hw hsw) fun Z σ H w => ?_
            obtain ⟨R, τ, h, P, sr, hr, w, s⟩ := liftS_el w
            refine ⟨R, τ, h, _, sr, hr, w, fun R1 h1 H1 ds vs E1 hr1 rs w1 => ?_⟩
            obtain ⟨⟨hl, _⟩, w1⟩ := w1
            match ds, hl, rs, w1 with
            | [d1, d2], hl, rs, w1 =>
              simp only [R0s] at rs
              obtain ⟨v1, _, rfl, r1, v2, _, rfl, r2, rfl⟩ := rs
              exact ⟨v1, v2, rfl, s.nx R1 h1 H1 _ _ E1 hr1 (((E1.srel sr).set r1).set r2) w1⟩
            | [], hl, _, _ => cases hl
            | [_], hl, _, _ => cases hl
            | _ :: _ :: _ :: _, hl, _, _ => cases hl
          | [], h1, _ => cases h1
          | [_], h1, _ => simp [chkNs] at h1
          | _ :: _ :: _ :: _, h1, _ => simp [chkNs] at h1
        · rw [en] at hw
          match is, h1, h2 with
          | [i, j, l], h1, h2 =>
            unfold chkNs chkNs chkNs at h1
            simp only [Bool.and_eq_true] at h1
            have nij : (¬ i = j ∧ ¬ i = l) ∧ ¬ j = l := by simpa using h2
            have n1 := chkN_at h1.1
            have n2 := chkN_at h1.2.1
            have n3 := chkN_at h1.2.2.1
            rw [← g.hN] at n1 n2 n3
            refine PS.imp (ps_par3 (i := i) (j := j) (l := l) g.calm hN n1 n2 n3 nij.1.1 nij.1.2 nij.2 (by rw [g.hsc]; exact lx) (by rw [g.hsc]; exact ly) (by rw [g.hsc]; exact lz) (args_ok hs ha) hw hsw) fun Z σ H w => ?_
            obtain ⟨R, τ, h, P, sr, hr, w, s⟩ := liftS_el w
            refine ⟨R, τ, h, _, sr, hr, w, fun R1 h1 H1 ds vs E1 hr1 rs w1 => ?_⟩
            obtain ⟨⟨hl, _⟩, w1⟩ := w1
            match ds, hl, rs, w1 with
            | [d1, d2, d3], hl, rs, w1 =>
              simp only [R0s] at rs
              obtain ⟨v1, _, rfl, r1, v2, _, rfl, r2, v3, _, rfl, r3, rfl⟩ := rs
              exact ⟨v1, v2, v3, rfl, s.nx R1 h1 H1 _ _ E1 hr1 ((((E1.srel sr).set r1).set r2).set r3) w1⟩
            | [], hl, _, _ => cases hl
            | [_], hl, _, _ => cases hl
            | [_, _], hl, _, _ => cases hl
            | _ :: _ :: _ :: _ :: _, hl, _, _ => cases hl
          | [], h1, _ => cases h1
          | [_], h1, _ => simp [chkNs] at h1
          | [_, _], h1, _ => simp [chkNs] at h1
          | _ :: _ :: _ :: _ :: _, h1, _ => simp [chkNs] at h1
      · cases h3
    · cases h
  | _ => simp [chk1] at h) (fun sc sts => by cases sts <;> rfl)

/-! ### name op= e -/
def ipD (K : PySem.W.Frag) (p : Prim) : V → V → Hp → VK → Prop := fun x y H Q => match p with
  | .add => rI0 (fun i j => .int (i + j)) x y H Q ∨ rExt2 x y H Q ∨ (∃ i j, x = .str i ∧ y = .str j ∧ i.length + j.length ≤ sizeLine ∧ Q (.str (i ++ j)) H) ∨ rCatA K x y H Q
  | .sub => rI0 (fun i j => .int (i - j)) x y H Q
  | .mul => rI CMul (fun i j => .int (i * j)) x y H Q ∨ rI CMulW (fun i j => .int (i * j)) x y H Q
  | _ => False
theorem ipD_ok {X : Cx} {p : Prim} {op : Operator} (h : augOp p = some op) : PIp X op (ipD X.K p) := by
  cases p <;> first | (cases h; done) | skip
  · cases h; exact iop_add.or (iop_ext.or (iop_add_str.or iop_cat))
  · cases h; exact iop_sub
  · cases h; exact iop_mul.or iop_mulW2
theorem snS_aug {i : Nat} {p : Prim} {e : CE} : SndS T cl N (.aug i p e) := SndS.one (fun {sc X st} g hp h => by
  cases st with
  | AugAssign t op v pos =>
    cases t with
    | Name x px =>
      simp only [chk1, Bool.and_eq_true, decide_eq_true_eq] at h
      obtain ⟨⟨h1, h2⟩, h3⟩ := h
      unfold chkN at h1
      simp only [Bool.and_eq_true, Bool.or_eq_true, decide_eq_true_eq] at h1
      obtain ⟨a, b⟩ := g.st x h1.2
      refine PS.imp (ps_aug (by rw [g.hN]; exact g.nd) (by rw [g.hN]; exact h1.1) a ((snd T cl N e).e g h3) (ipD_ok h2) b) fun Z σ H w => ?_
      obtain ⟨R, τ, h, P, sr, hr, w, s⟩ := liftS_el w
      unfold wpS augS at w
      split at w
      · rename_i d ed
        obtain ⟨u, eu, ru⟩ := sr.at_ i d ed
        refine ⟨u, eu, R, τ, h, _, sr, hr, w, fun R1 h1 H1 y vy E1 hr1 ry w1 => ?_⟩
        have ru1 := E1.r0 ru
        have fin : ∀ {z : D} {vz : V}, R0 X.K H1 R1 h1.length z vz → P.nx (τ.set i (some z)) h1 → Z.nx (σ.set i (some vz)) H1 := fun {z vz} rz q => s.nx R1 h1 H1 _ _ E1 hr1 ((E1.srel sr).set rz) q
        unfold augW at w1
        split at w1
        · simp only [R0] at ru1; subst ru1; cases ry.intE
          exact .inl ⟨_, _, rfl, rfl, fin (by simp only [R0]) w1⟩
        · simp only [R0] at ru1; subst ru1; cases ry.intE
          exact ⟨_, _, rfl, rfl, fin (by simp only [R0]) w1⟩
        · simp only [R0] at ru1; subst ru1; cases ry.intE
          obtain ⟨c | c, w1⟩ := w1
          · exact .inl ⟨_, _, rfl, rfl, c, fin (by simp only [R0]) w1⟩
          · exact .inr ⟨_, _, rfl, rfl, c, fin (by simp only [R0]) w1⟩
        · simp only [R0] at ru1; subst ru1; cases ry.strE
          exact .inr (.inr (.inl ⟨_, _, rfl, rfl, w1.1, fin (by simp only [R0]) w1.2⟩))
        · rename_i as bs _
          obtain ⟨a, vs, rfl, ha, ra⟩ := RT.tup (RT.of (G := H1) ru1)
          obtain ⟨b, us, rfl, hb, rb⟩ := ry.tup
          refine .inr (.inr (.inr ⟨a, b, vs, us, rfl, rfl, ha, hb, by rw [← R0s_len ra, ← R0s_len rb]; exact w1.1, fun e => ?_, fun e1 e2 => ?_, fun e1 e2 q hq => ?_⟩))
          · have e' := (R0s_nil_iff ra).mp e
            subst e'
            exact fin (z := .tup bs) (by simp only [R0]; exact ⟨b, us, rfl, hb, rb⟩) (by simpa using w1.2)
          · have e' := (R0s_nil_iff rb).mp e2
            subst e'
            exact fin (z := .tup as) (by simp only [R0]; exact ⟨a, vs, rfl, ha, ra⟩) (by simpa using w1.2)
          · have E : Ext X.K R1 h1 H1 R1 h1 (upd H1 q (.tup (vs ++ us))) := .laid hq
            exact s.nx R1 h1 _ _ _ (E1.trans E) (hr1.laid hq) (((E1.trans E).srel sr).set (by simp only [R0]; exact ⟨q, _, rfl, .inl (.inl upd_same), E.r0s (R0s_append ra rb)⟩)) w1.2
        · split at w1
          · rename_i xs ys e1 e2
            simp only [R0] at ru1
            obtain ⟨hi, rfl⟩ := ru1
            obtain ⟨_, vs, hw, r⟩ := hr1.lst e1
            obtain ⟨b, ws, rfl, hb, rb⟩ := ry.mlst hr1 e2
            refine .inr (.inl ⟨_, b, vs, ws, rfl, rfl, hw, hb, by rw [← R0s_len r, ← R0s_len rb]; exact w1.1, ?_⟩)
            have E2 : Ext X.K R1 h1 H1 R1 (h1.set _ (.lst (xs ++ ys))) (upd H1 (R1 _) (.lst (vs ++ ws))) := .put hr1 hi hw True.intro
            exact s.nx R1 _ _ _ _ (E1.trans E2) (hr1.put hi hw True.intro ⟨_, upd_same, E2.r0s (R0s_append r rb)⟩) (((E1.trans E2).srel sr).set (E2.r0 (d := .loc _) (show R0 X.K H1 R1 h1.length (.loc _) _ from by simp only [R0]; exact ⟨hi, trivial⟩))) w1.2
          · exact w1.elim
        · exact w1.elim
      · exact w.elim
    | _ => simp [chk1] at h
  | _ => simp [chk1] at h) (fun sc sts => by cases sts <;> rfl)
theorem sndS (T : Tab) (cl : CallD) (N : List Str) : ∀ c : CS, SndS T cl N c
  | .nil => snS_nil
  | .seq s r => snS_seq (sndS T cl N s) (sndS T cl N r)
  | .pass => snS_pass
  | .brk => snS_brk
  | .cont => snS_cont
  | .expr _ => snS_expr
  | .asg _ _ => snS_asg
  | .asgs _ _ => snS_asgs
  | .setIdx _ _ _ => snS_set
  | .aug _ _ _ => snS_aug
  | .ret _ => snS_ret
  | .retN => snS_retN
  | .ite _ a b => snS_ite (sndS T cl N a) (sndS T cl N b)
  | .whil _ b => snS_whil (sndS T cl N b)
  | .forr _ _ b => snS_forr (sndS T cl N b)
end
end Py

namespace Py
open PySem PySem.Spec PyProof.Rows L2

/-! ### defs -/
structure FD where
  name : Str
  ps : List Str
  N : List Str
  st : Stmt
  body : CS
def startD (N : List Str) (args : List D) : Sd := args.map some ++ List.replicate (N.length - args.length) none
/-- what stood is as it was, or holds no new place -/
def gcOK (h h' : Hd) : Prop := h.length ≤ h'.length ∧ ∀ i o, i < h.length → h'[i]? = some o → h[i]? = some o ∨ o.clean h.length
/-- a call's end: what the def made may be forgotten; a list that it made may be handed back as new -/
def Gc (h : Hd) (v : D) (h' : Hd) (Q : PD) : Prop := Q v h' ∨ (v.clean h.length ∧ gcOK h h' ∧ Q v (h'.take h.length)) ∨
  (∃ k xs, v = .loc k ∧ h.length ≤ k ∧ h'[k]? = some (.lst xs) ∧ D.cleans h.length xs ∧ gcOK h h' ∧ Q (.tl xs) (h'.take h.length))
def endZ (h : Hd) (Q : PD) : Endd := ⟨fun _ h' => Gc h .non h' Q, fun v h' => Gc h v h' Q, fun _ _ => False, fun _ _ => False⟩
def wpCall (gl : List (Str × D)) (F : List FD) : Nat → CallD
  | 0 => fun _ _ _ _ => False
  | d + 1 => fun f args h Q => match F[f]? with
    | some c => args.length = c.ps.length ∧ wpS (wpCall gl F d) gl c.body (endZ h Q) (startD c.N args) h
    | none => False
mutual
theorem clean_of {K : PySem.W.Frag} {H : Hp} {R : Nat → Addr} {n : Nat} : ∀ (d : D) (v : V), R0 K H R n d v → d.clean n
  | .non, _, _ => trivial
  | .bl _, _, _ => trivial
  | .int _, _, _ => trivial
  | .str _, _, _ => trivial
  | .tup ds, v, h => by
    simp only [R0] at h
    obtain ⟨a, vs, _, _, h⟩ := h
    simp only [D.clean]
    exact cleans_of ds vs h
  | .loc i, v, h => by
    simp only [R0] at h
    simp only [D.clean]
    exact h.1
  | .tl _, _, h => by simp only [R0] at h
  | .td _ _ _, _, h => by simp only [R0] at h
  | .rl ds, v, h => by
    simp only [R0] at h
    obtain ⟨a, vs, _, _, h⟩ := h
    simp only [D.clean]
    exact cleans_of ds vs h
theorem cleans_of {K : PySem.W.Frag} {H : Hp} {R : Nat → Addr} {n : Nat} : ∀ (ds : List D) (vs : List V), R0s K H R n ds vs → D.cleans n ds
  | [], _, _ => trivial
  | d :: ds, vs, h => by
    simp only [R0s] at h
    obtain ⟨v, us, _, h1, h2⟩ := h
    simp only [D.cleans]
    exact ⟨clean_of d v h1, cleans_of ds us h2⟩
end
section
variable {K : PySem.W.Frag} {R R' : Nat → Addr} {h h' : Hd} {H H' : Hp}
theorem Ext.take (E : Ext K R h H R' h' H') : Ext K R h H R' (h'.take h.length) H' where
  len := by rw [List.length_take]; exact Nat.le_min.mpr ⟨Nat.le_refl _, E.len⟩
  agr := E.agr
  fresh := fun i a b => by rw [List.length_take] at b; omega
  frame := E.frame
  stay := E.stay
  tup := E.tup
  frz := E.frz
theorem HRel.take (hr0 : HRel K H R h) (hr : HRel K H' R' h') (g : gcOK h h') : HRel K H' R' (h'.take h.length) := by
  have hl : (h'.take h.length).length = h.length := by rw [List.length_take]; exact Nat.min_eq_left g.1
  refine ⟨fun i j a b e => hr.inj i j (by rw [hl] at a; exact Nat.lt_of_lt_of_le a g.1) (by rw [hl] at b; exact Nat.lt_of_lt_of_le b g.1) e, fun i o e => ?_⟩
  have hi : i < h.length := by rw [← hl]; exact (List.getElem?_eq_some_iff.mp e).1
  rw [List.getElem?_take_of_lt hi] at e
  have x := hr.obj i o e
  have c : o.clean h.length := by
    rcases g.2 i o hi e with z | z
    · have y := hr0.obj i o z
      cases o with
      | lst ds => obtain ⟨vs, _, r⟩ := y; exact cleans_of _ _ r
      | dct tk ks ws => rcases y with ⟨_, kvs, _, _, r⟩ | ⟨_, kvs, _, _, r⟩ <;> exact cleans_of _ _ r
      | ins c fs => exact y.elim
    · exact z
  rw [hl]
  cases o with
  | lst ds => obtain ⟨vs, a, r⟩ := x; exact ⟨vs, a, R0s_clean _ _ c r⟩
  | dct tk ks ws =>
    rcases x with ⟨t, kvs, a, b, r⟩ | ⟨t, kvs, a, b, r⟩
    · exact .inl ⟨t, kvs, a, b, R0s_clean _ _ c r⟩
    · exact .inr ⟨t, kvs, a, b, R0s_clean _ _ c r⟩
  | ins c fs => exact x.elim
theorem gc_ok {P : PD} {Q : VK} {d : D} {v : V} (hr0 : HRel K H R h) (post : Post K R h H P Q) (E : Ext K R h H R' h' H') (hr : HRel K H' R' h') (rt : RT K H' R' h'.length H d v) (g : Gc h d h' P) : Q v H' := by
  rcases g with g | ⟨c, g, q⟩ | ⟨k, xs, rfl, hk, ek, c, g, q⟩
  · exact post R' h' H' d v E hr rt g
  · have hl : (h'.take h.length).length = h.length := by rw [List.length_take]; exact Nat.min_eq_left g.1
    refine post R' _ H' d v E.take (hr0.take hr g) ?_ q
    rw [hl]
    cases d with
    | tl ds =>
      obtain ⟨a, vs, e1, n, z, r, ne⟩ := rt
      exact ⟨a, vs, e1, n, z, R0s_clean _ _ (by simpa only [D.clean] using c) r, fun i hi => ne i (Nat.lt_of_lt_of_le hi E.len)⟩
    | td tk ks ws =>
      obtain ⟨a, e1, n, z, ne⟩ := rt
      simp only [D.clean] at c
      refine ⟨a, e1, n, ?_, fun i hi => ne i (Nat.lt_of_lt_of_le hi E.len)⟩
      rcases z with ⟨t, kvs, a, b, r⟩ | ⟨t, kvs, a, b, r⟩
      · exact .inl ⟨t, kvs, a, b, R0s_clean _ _ c.2 r⟩
      · exact .inr ⟨t, kvs, a, b, R0s_clean _ _ c.2 r⟩
    | _ => exact R0_clean (n := h'.length) _ _ c rt
  · have hl : (h'.take h.length).length = h.length := by rw [List.length_take]; exact Nat.min_eq_left g.1
    obtain ⟨hi, rfl⟩ := rt.locE
    obtain ⟨_, vs, hw, r⟩ := hr.lst ek
    refine post R' _ H' (.tl xs) _ E.take (hr0.take hr g) ?_ q
    rw [hl]
    exact ⟨_, vs, rfl, E.fresh k hk hi, hw, R0s_clean _ _ c r, fun i hi2 z => by
      have := hr.inj i k (Nat.lt_of_lt_of_le hi2 E.len) hi z
      omega⟩
theorem start_rel {N : List Str} {ds : List D} {vs : List V} {n : Nat} (r : R0s K H R n ds vs) : SRel K H R n (startD N ds) (L2.start N vs) := by
  have hl := R0s_len r
  refine ⟨by unfold startD L2.start; simp [hl], fun i d e => ?_⟩
  unfold startD at e
  by_cases hi : i < ds.length
  · rw [List.getElem?_append_left (by simpa using hi), List.getElem?_map] at e
    cases q : ds[i]? with
    | none => rw [q] at e; cases e
    | some d' =>
      rw [q] at e
      cases e
      obtain ⟨v, ev, rv⟩ := R0s_get r q
      refine ⟨v, ?_, rv⟩
      unfold L2.start
      rw [List.getElem?_append_left (by simp; omega), List.getElem?_map, ev]
      rfl
  · rw [List.getElem?_append_right (by simpa using hi), List.getElem?_replicate] at e
    split at e <;> cases e
end

/-! ### every def keeps its promise -/
/-- what the top has left -/
structure Top (T : Tab) (F : List FD) (K : PySem.W.Frag) (mg : Str → Option Value) : Prop where
  bn : ∀ x ∈ T.bn, mg x = none
  ex : ∀ x id, T.ex.lookup x = some id → mg x = some (.builtin id)
  gl : ∀ x d, (x, d) ∈ T.gl → ∃ u v, mg x = some u ∧ RelV v u ∧ ∀ H R n, R0 K H R n d v
  fn : ∀ c ∈ F, ∃ fa fd, Fun K c.name c.name c.st fa fd ∧ mg c.name = some (.ref fa) ∧ Binds K fd c.ps []
/-- what is read off the text -/
structure Txts (T : Tab) (F : List FD) : Prop where
  names : T.fn = F.map (·.name)
  sc : ∀ c ∈ F, FnScope c.N c.ps (defScope c.st)
  chk : ∀ c ∈ F, chkB T c.N c.body (defScope c.st) (defBody c.st) = true
theorem fns_ok {P : Program} {w : World} {K : PySem.W.Frag} {mg : Str → Option Value} {base : Heap} {T : Tab} {F : List FD} (tx : Txts T F) (tp : Top T F K mg) : ∀ (d f : Nat) (c : FD) (fa : Addr) (fd : FuncData), F[f]? = some c → Fun K c.name c.name c.st fa fd →
    FnOk P w K mg base CX0 d fa fd c.ps (spD K (wpCall T.gl F d) f)
  | 0, f, c, fa, fd, hf, FF => ⟨fun vs H Q E ⟨_, _, _, _, _, _, z, _⟩ => z.elim, fun _ _ _ _ _ _ _ _ _ _ _ _ _ ⟨_, _, _, _, _, _, z, _⟩ => z.elim⟩
  | d + 1, f, c, fa, fd, hf, FF => by
    have hm : c ∈ F := List.mem_of_getElem? hf
    have S := tx.sc c hm
    refine FF.ok S (fun vs H Q E h => ?_) (fun cdv A outer s H vs Q E hroom h => ?_)
    · obtain ⟨R, h, ds, P0, r, hr, z, _⟩ := h
      rw [← R0s_len r]
      have z : (match F[f]? with | some c => ds.length = c.ps.length ∧ wpS (wpCall T.gl F d) T.gl c.body (endZ h P0) (startD c.N ds) h | none => False) := z
      rw [hf] at z
      exact z.1
    · obtain ⟨R, hh, ds, P0, r, hr, z, post⟩ := h
      have z : (match F[f]? with | some c => ds.length = c.ps.length ∧ wpS (wpCall T.gl F d) T.gl c.body (endZ hh P0) (startD c.N ds) hh | none => False) := z
      rw [hf] at z
      refine ⟨_, (sndS T (wpCall T.gl F d) c.N c.body).b (sc := defScope c.st) ?_ PassesOwn.never (tx.chk c hm), liftS_mk (start_rel r) hr z.2 ⟨fun R' h' H' τ' σ' E hr' _ g => ?_, fun R' h' H' dd v E hr' rt g => ?_, fun _ _ _ _ _ _ _ _ g => g.elim, fun _ _ _ _ _ _ _ _ g => g.elim⟩⟩
      · refine ⟨rfl, S.nd, rfl, S.kind, rfl, fun x hx => ⟨hx, .inl rfl⟩, hroom.units, tp.bn, tp.ex, tp.gl, fun g x hx => ?_⟩
        rw [tx.names, List.getElem?_map] at hx
        cases q : F[g]? with
        | none => rw [q] at hx; cases hx
        | some c2 =>
          rw [q] at hx
          cases hx
          obtain ⟨fa2, fd2, FF2, hmg, hb⟩ := tp.fn c2 (List.mem_of_getElem? q)
          exact ⟨fa2, fd2, c2.ps, d, fns_ok tx tp d g c2 fa2 fd2 q FF2, hroom, hmg, FF2.kp, hb⟩
      · exact gc_ok (d := .non) (v := .non) hr post E hr' (by simp only [RT, R0]) g
      · exact gc_ok hr post E hr' rt g
/-- the law's promise, from its reading at the script -/
theorem law_sp {K : PySem.W.Frag} {gl : List (Str × D)} {F : List FD} {d f : Nat} {H : Hp} {a : Addr} {ns : List Int} (hO : Only H) (hS : SqL K H a (ns.map V.int)) (h : wpCall gl F d f [.rl (ns.map D.int)] [] (fun v _ => v = .bl true)) :
    spD K (wpCall gl F d) f [.ref a] H (fun v _ => v = .bl true) fun _ _ _ => False := by
  refine ⟨fun _ => 0, [], [.rl (ns.map D.int)], _, ?_, ⟨fun i j hi _ _ => absurd hi (Nat.not_lt_zero _), fun i o e => by simp at e⟩, h, fun R' h' H' d v E hr rt q => ?_⟩
  · simp only [R0s, R0]
    refine ⟨.ref a, [], rfl, ⟨a, ns.map V.int, rfl, ?_, ?_⟩, rfl⟩
    · rcases hS with (hS | ⟨o, hS⟩) | hS
      · rcases hO a with z | ⟨o, xs, z⟩
        · rw [z] at hS; cases hS
        · rw [z] at hS; cases hS
      · exact .inl ⟨o, hS⟩
      · exact .inr hS
    · clear hS h
      induction ns with
      | nil => simp [R0s]
      | cons n ns ih => simp only [List.map_cons, R0s, R0]; exact ⟨_, _, rfl, rfl, ih⟩
  · have q : d = .bl true := q
    subst q
    exact rt.blE
end Py

namespace Py
open PySem PySem.Spec PyProof.Rows L2

/-! ### rules of reading -/
theorem mem_of_lookup {α β : Type} [BEq α] [LawfulBEq α] {a : α} {b : β} : ∀ {l : List (α × β)}, l.lookup a = some b → (a, b) ∈ l
  | (c, d) :: l, h => by
    simp only [List.lookup] at h
    split at h
    · rename_i q; cases h; have := eq_of_beq q; subst this; exact List.mem_cons_self
    · exact List.mem_cons_of_mem _ (mem_of_lookup h)
theorem wx_pack : ∃ W : CallD → List (Str × D) → CE → RD, W = wp := ⟨wp, rfl⟩
noncomputable def wx : CallD → List (Str × D) → CE → RD := Classical.choose wx_pack
theorem wx_eq : wx = wp := Classical.choose_spec wx_pack
theorem ws_pack : ∃ W : CallD → List (Str × D) → CS → TSd, W = wpS := ⟨wpS, rfl⟩
noncomputable def ws : CallD → List (Str × D) → CS → TSd := Classical.choose ws_pack
theorem ws_eq : ws = wpS := Classical.choose_spec ws_pack
theorem px_pack : ∃ W : Prim → List D → Hd → PD → Prop, W = wpP := ⟨wpP, rfl⟩
noncomputable def px : Prim → List D → Hd → PD → Prop := Classical.choose px_pack
theorem px_eq : px = wpP := Classical.choose_spec px_pack
theorem call_of {gl : List (Str × D)} {F : List FD} {d f : Nat} {c : FD} {args : List D} {h : Hd} {Q : PD} (hf : F[f]? = some c) (hl : args.length = c.ps.length) (b : ws (wpCall gl F d) gl c.body (endZ h Q) (startD c.N args) h) : wpCall gl F (d + 1) f args h Q := by
  rw [ws_eq] at b
  show (match F[f]? with | some c => args.length = c.ps.length ∧ wpS (wpCall gl F d) gl c.body (endZ h Q) (startD c.N args) h | none => False)
  rw [hf]
  exact ⟨hl, b⟩
theorem gc_same {h h' : Hd} {v : D} {Q : PD} (q : Q v h') : Gc h v h' Q := .inl q
def atQ (o : Option D) (Q : PD) (h : Hd) : Prop := match o with
  | some v => Q v h
  | none => False
def lstQ (o : Option DO) (k : List D → Prop) : Prop := match o with
  | some (.lst xs) => k xs
  | _ => False
@[simp ↓] theorem lstQ_def {o : Option DO} {k : List D → Prop} : lstQ o k = (match o with | some (.lst xs) => k xs | _ => False) := rfl
@[simp] theorem lstQ_some {xs : List D} {k : List D → Prop} : lstQ (some (.lst xs)) k = k xs := rfl
def natQ (o : Option Nat) (k : Nat → Prop) : Prop := match o with
  | some n => k n
  | none => False
@[simp ↓] theorem natQ_def {o : Option Nat} {k : Nat → Prop} : natQ o k = (match o with | some n => k n | none => False) := rfl
@[simp] theorem natQ_some {n : Nat} {k : Nat → Prop} : natQ (some n) k = k n := rfl
@[simp ↓] theorem atQ_def {o : Option D} {Q : PD} {h : Hd} : atQ o Q h = (match o with | some v => Q v h | none => False) := rfl
def blQ (d : D) (k : Bool → Prop) : Prop := match d with
  | .bl b => k b
  | _ => False
theorem blQ_eq {d : D} {k : Bool → Prop} : (∃ b, d = .bl b ∧ k b) = blQ d k := by
  cases d <;> simp [blQ]
@[simp ↓] theorem blQ_bl {b : Bool} {k : Bool → Prop} : blQ (.bl b) k = k b := rfl
@[simp] theorem atQ_some {v : D} {Q : PD} {h : Hd} : atQ (some v) Q h = Q v h := rfl
theorem str_beq {a b : List Char} (h : a ≠ b) : (String.ofList a == String.ofList b) = false := beq_eq_false_iff_ne.mpr fun e => h (String.ofList_inj.mp e)
theorem sq_int_bool : (("int" : String) == "bool") = false := str_beq (by decide)
theorem sq_int_str : (("int" : String) == "str") = false := str_beq (by decide)
theorem sq_int_tuple : (("int" : String) == "tuple") = false := str_beq (by decide)
theorem sq_int_list : (("int" : String) == "list") = false := str_beq (by decide)
theorem sq_int_dict : (("int" : String) == "dict") = false := str_beq (by decide)
theorem sq_int_NoneType : (("int" : String) == "NoneType") = false := str_beq (by decide)
theorem sq_int_int : (("int" : String) == "int") = true := beq_self_eq_true _
theorem sq_bool_int : (("bool" : String) == "int") = false := str_beq (by decide)
theorem sq_bool_str : (("bool" : String) == "str") = false := str_beq (by decide)
theorem sq_bool_tuple : (("bool" : String) == "tuple") = false := str_beq (by decide)
theorem sq_bool_list : (("bool" : String) == "list") = false := str_beq (by decide)
theorem sq_bool_dict : (("bool" : String) == "dict") = false := str_beq (by decide)
theorem sq_bool_NoneType : (("bool" : String) == "NoneType") = false := str_beq (by decide)
theorem sq_bool_bool : (("bool" : String) == "bool") = true := beq_self_eq_true _
theorem sq_str_int : (("str" : String) == "int") = false := str_beq (by decide)
theorem sq_str_bool : (("str" : String) == "bool") = false := str_beq (by decide)
theorem sq_str_tuple : (("str" : String) == "tuple") = false := str_beq (by decide)
theorem sq_str_list : (("str" : String) == "list") = false := str_beq (by decide)
theorem sq_str_dict : (("str" : String) == "dict") = false := str_beq (by decide)
theorem sq_str_NoneType : (("str" : String) == "NoneType") = false := str_beq (by decide)
theorem sq_str_str : (("str" : String) == "str") = true := beq_self_eq_true _
theorem sq_tuple_int : (("tuple" : String) == "int") = false := str_beq (by decide)
theorem sq_tuple_bool : (("tuple" : String) == "bool") = false := str_beq (by decide)
theorem sq_tuple_str : (("tuple" : String) == "str") = false := str_beq (by decide)
theorem sq_tuple_list : (("tuple" : String) == "list") = false := str_beq (by decide)
theorem sq_tuple_dict : (("tuple" : String) == "dict") = false := str_beq (by decide)
theorem sq_tuple_NoneType : (("tuple" : String) == "NoneType") = false := str_beq (by decide)
theorem sq_tuple_tuple : (("tuple" : String) == "tuple") = true := beq_self_eq_true _
theorem sq_list_int : (("list" : String) == "int") = false := str_beq (by decide)
theorem sq_list_bool : (("list" : String) == "bool") = false := str_beq (by decide)
theorem sq_list_str : (("list" : String) == "str") = false := str_beq (by decide)
theorem sq_list_tuple : (("list" : String) == "tuple") = false := str_beq (by decide)
theorem sq_list_dict : (("list" : String) == "dict") = false := str_beq (by decide)
theorem sq_list_NoneType : (("list" : String) == "NoneType") = false := str_beq (by decide)
theorem sq_list_list : (("list" : String) == "list") = true := beq_self_eq_true _
theorem sq_dict_int : (("dict" : String) == "int") = false := str_beq (by decide)
theorem sq_dict_bool : (("dict" : String) == "bool") = false := str_beq (by decide)
theorem sq_dict_str : (("dict" : String) == "str") = false := str_beq (by decide)
theorem sq_dict_tuple : (("dict" : String) == "tuple") = false := str_beq (by decide)
theorem sq_dict_list : (("dict" : String) == "list") = false := str_beq (by decide)
theorem sq_dict_NoneType : (("dict" : String) == "NoneType") = false := str_beq (by decide)
theorem sq_dict_dict : (("dict" : String) == "dict") = true := beq_self_eq_true _
/-- what follows, kept shut -/
noncomputable def nxt (cl : CallD) (gl : List (Str × D)) (c : CS) : TSd := ws cl gl c
section
variable {cl : CallD} {gl : List (Str × D)} {τ : Sd} {h : Hd} {Z : Endd} {Q : PD}
theorem nxt_of {c : CS} (q : ws cl gl c Z τ h) : nxt cl gl c Z τ h := q
@[simp ↓ high] theorem r_seq1 {s : CS} : ws cl gl (.seq s .nil) Z τ h = ws cl gl s Z τ h := by (try simp only [nxt, wx_eq, ws_eq, px_eq]) <;> rfl
@[simp ↓] theorem r_seq {s r : CS} : ws cl gl (.seq s r) Z τ h = ws cl gl s ⟨nxt cl gl r Z, Z.rt, Z.bk, Z.ct⟩ τ h := by (try simp only [nxt, wx_eq, ws_eq, px_eq]) <;> rfl
@[simp ↓] theorem r_nil : ws cl gl .nil Z τ h = Z.nx τ h := by (try simp only [nxt, wx_eq, ws_eq, px_eq]) <;> rfl
@[simp ↓] theorem n_nil : nxt cl gl .nil Z τ h = Z.nx τ h := by simp only [nxt, ws_eq]; rfl
@[simp ↓] theorem z_nx {v : D} : (endZ h Q).nx τ = fun h' => Gc h .non h' Q := rfl
@[simp ↓] theorem z_rt : (endZ h Q).rt = fun v h' => Gc h v h' Q := rfl
@[simp ↓] theorem r_pass : ws cl gl .pass Z τ h = Z.nx τ h := by (try simp only [nxt, wx_eq, ws_eq, px_eq]) <;> rfl
@[simp ↓] theorem r_brk : ws cl gl .brk Z τ h = Z.bk τ h := by (try simp only [nxt, wx_eq, ws_eq, px_eq]) <;> rfl
@[simp ↓] theorem r_cont : ws cl gl .cont Z τ h = Z.ct τ h := by (try simp only [nxt, wx_eq, ws_eq, px_eq]) <;> rfl
@[simp ↓] theorem r_expr {e : CE} : ws cl gl (.expr e) Z τ h = (wx cl gl e).e τ h fun _ h1 => Z.nx τ h1 := by (try simp only [nxt, wx_eq, ws_eq, px_eq]) <;> rfl
@[simp ↓] theorem r_asg {i : Nat} {e : CE} : ws cl gl (.asg (.nm i) e) Z τ h = (wx cl gl e).e τ h fun d h1 => mat d h1 fun d' h2 => Z.nx (τ.set i (some d')) h2 := by (try simp only [nxt, wx_eq, ws_eq, px_eq]) <;> rfl
@[simp ↓] theorem r_asgt {is : List Nat} {e : CE} : ws cl gl (.asg (.tp is) e) Z τ h = (wx cl gl e).e τ h fun d h1 => mat d h1 fun d' h2 => bindW (.tp is) d' τ fun τ' => Z.nx τ' h2 := by (try simp only [nxt, wx_eq, ws_eq, px_eq]) <;> rfl
@[simp ↓] theorem r_asgs {is : List Nat} {as : CE} : ws cl gl (.asgs is as) Z τ h = (wx cl gl as).a true τ h fun ds h1 => (ds.length = is.length ∧ ds.length ≤ sizeLine) ∧ Z.nx (setAll τ is ds) h1 := by (try simp only [nxt, wx_eq, ws_eq, px_eq]) <;> rfl
@[simp ↓] theorem r_setIdx {o i e : CE} : ws cl gl (.setIdx o i e) Z τ h = (wx cl gl e).e τ h fun d h1 => mat d h1 fun d' h2 => (wx cl gl o).e τ h2 fun x h3 => (wx cl gl i).e τ h3 fun y h4 => setIdxW x y d' h4 fun h5 => Z.nx τ h5 := by (try simp only [nxt, wx_eq, ws_eq, px_eq]) <;> rfl
@[simp ↓] theorem r_aug {i : Nat} {p : Prim} {e : CE} : ws cl gl (.aug i p e) Z τ h = (match τ[i]? with
  | some (some x) => (wx cl gl e).e τ h fun y h1 => augW p x y h1 fun z h2 => Z.nx (τ.set i (some z)) h2
  | _ => False) := by (try simp only [nxt, wx_eq, ws_eq, px_eq]) <;> rfl
@[simp ↓] theorem r_ret {e : CE} : ws cl gl (.ret e) Z τ h = (wx cl gl e).e τ h Z.rt := by (try simp only [nxt, wx_eq, ws_eq, px_eq]) <;> rfl
@[simp ↓] theorem r_retN : ws cl gl .retN Z τ h = Z.rt .non h := by (try simp only [nxt, wx_eq, ws_eq, px_eq]) <;> rfl
@[simp ↓] theorem r_ite {t : CE} {a b : CS} : ws cl gl (.ite t a b) Z τ h = (wx cl gl t).t τ h fun k h1 => if k = true then nxt cl gl a Z τ h1 else nxt cl gl b Z τ h1 := by (try simp only [nxt, wx_eq, ws_eq, px_eq]) <;> rfl
@[simp ↓] theorem r_while {t : CE} {b : CS} : ws cl gl (.whil t b) Z τ h = whileW (wx cl gl t).t (ws cl gl b) Z τ h := by (try simp only [nxt, wx_eq, ws_eq, px_eq]) <;> rfl
@[simp ↓] theorem r_for {p : Pat} {it : CE} {b : CS} : ws cl gl (.forr p it b) Z τ h = (wx cl gl it).i τ h fun w h1 => forW w.ok p (ws cl gl b) Z w.xs τ h1 := by (try simp only [nxt, wx_eq, ws_eq, px_eq]) <;> rfl
/-! expressions -/
@[simp ↓] theorem e_var {i : Nat} : (wx cl gl (.var i)).e τ h Q = (match τ[i]? with | some (some d) => Q d h | _ => False) := by (try simp only [nxt, wx_eq, ws_eq, px_eq]) <;> rfl
@[simp ↓] theorem e_cst {d : D} : (wx cl gl (.cst d)).e τ h Q = Q d h := by (try simp only [nxt, wx_eq, ws_eq, px_eq]) <;> rfl
@[simp ↓] theorem e_glob {i : Nat} : (wx cl gl (.glob i)).e τ h Q = (match gl[i]? with | some (_, d) => Q d h | none => False) := by (try simp only [nxt, wx_eq, ws_eq, px_eq]) <;> rfl
@[simp ↓] theorem e_tup {as : CE} : (wx cl gl (.tup as)).e τ h Q = (wx cl gl as).a true τ h fun ds h' => ds.length ≤ sizeLine ∧ Q (.tup ds) h' := by (try simp only [nxt, wx_eq, ws_eq, px_eq]) <;> rfl
@[simp ↓] theorem e_lst {as : CE} : (wx cl gl (.lst as)).e τ h Q = (wx cl gl as).a true τ h fun ds h' => ds.length ≤ sizeLine ∧ Q (.tl ds) h' := by (try simp only [nxt, wx_eq, ws_eq, px_eq]) <;> rfl
@[simp ↓] theorem e_prim {p : Prim} {as : CE} : (wx cl gl (.prim p as)).e τ h Q = (wx cl gl as).a false τ h fun ds h' => px p ds h' Q := by (try simp only [nxt, wx_eq, ws_eq, px_eq]) <;> rfl
@[simp ↓] theorem e_meth {m : MP} {o as : CE} : (wx cl gl (.meth m o as)).e τ h Q = (wx cl gl o).e τ h fun x h1 => tyM m h1 x ∧ (wx cl gl as).a true τ h1 fun ds h2 => wpM m x ds h2 Q := by (try simp only [nxt, wx_eq, ws_eq, px_eq]) <;> rfl
@[simp ↓] theorem e_call {f : Nat} {as : CE} : (wx cl gl (.call f as)).e τ h Q = (wx cl gl as).a true τ h fun ds h' => cl f ds h' Q := by (try simp only [nxt, wx_eq, ws_eq, px_eq]) <;> rfl
@[simp ↓] theorem e_ife {t a b : CE} : (wx cl gl (.ife t a b)).e τ h Q = (wx cl gl t).t τ h fun k h' => if k = true then (wx cl gl a).e τ h' Q else (wx cl gl b).e τ h' Q := by (try simp only [nxt, wx_eq, ws_eq, px_eq]) <;> rfl
@[simp ↓] theorem e_and {a b : CE} : (wx cl gl (.and_ a b)).e τ h Q = (wx cl gl a).e τ h fun d h' => blQ d fun k => if k = true then (wx cl gl b).e τ h' Q else Q (.bl false) h' := by simp only [← blQ_eq, wx_eq, px_eq]; rfl
@[simp ↓] theorem e_or {a b : CE} : (wx cl gl (.or_ a b)).e τ h Q = (wx cl gl a).e τ h fun d h' => blQ d fun k => if k = true then Q (.bl true) h' else (wx cl gl b).e τ h' Q := by simp only [← blQ_eq, wx_eq, px_eq]; rfl
@[simp ↓] theorem e_not {a : CE} : (wx cl gl (.not_ a)).e τ h Q = (wx cl gl a).e τ h fun d h' => blQ d fun k => Q (.bl (!k)) h' := by simp only [← blQ_eq, wx_eq, px_eq]; rfl
@[simp ↓] theorem e_chain {p q : Prim} {a b c : CE} : (wx cl gl (.chain p q a b c)).e τ h Q = (wx cl gl a).e τ h fun x h1 => (wx cl gl b).e τ h1 fun y h2 => px p [x, y] h2 fun r h3 => blQ r fun k =>
      if k = true then (wx cl gl c).e τ h3 fun z h4 => px q [y, z] h4 Q else Q (.bl false) h3 := by simp only [← blQ_eq, wx_eq, px_eq]; rfl
@[simp ↓] theorem e_sl2 {a b c : CE} : (wx cl gl (.sl2 a b c)).e τ h Q = (wx cl gl a).e τ h fun x h1 => (wx cl gl b).e τ h1 fun y h2 => match y with
  | .int i => (wx cl gl c).e τ h2 fun z h3 => match z with
    | .int j => slW x (some i) (some j) h3 Q
    | _ => False
  | _ => False := by (try simp only [nxt, wx_eq, ws_eq, px_eq]) <;> rfl
@[simp ↓] theorem e_comp {p : Pat} {it c elt : CE} : (wx cl gl (.comp p it none c elt)).e τ h Q = (wx cl gl it).i τ h fun w h1 => compW w.ok p yesT (wx cl gl elt).e (wipeD τ p.ix) (fun acc h2 => Q (.tl acc) h2) w.xs [] h1 := by (try simp only [nxt, wx_eq, ws_eq, px_eq]) <;> rfl
@[simp ↓] theorem e_compf {p : Pat} {it c elt : CE} : (wx cl gl (.comp p it (some ()) c elt)).e τ h Q = (wx cl gl it).i τ h fun w h1 => compW w.ok p (wx cl gl c).t (wx cl gl elt).e (wipeD τ p.ix) (fun acc h2 => Q (.tl acc) h2) w.xs [] h1 := by (try simp only [nxt, wx_eq, ws_eq, px_eq]) <;> rfl
/-! arguments -/
@[simp ↓] theorem a_nil {m : Bool} {Q : List D → Hd → Prop} : (wx cl gl .anil).a m τ h Q = Q [] h := by rw [wx_eq]; cases m <;> rfl
@[simp ↓] theorem a_consT {e r : CE} {Q : List D → Hd → Prop} : (wx cl gl (.acons e r)).a true τ h Q = (wx cl gl e).e τ h fun d h1 => mat d h1 fun d' h2 => (wx cl gl r).a true τ h2 fun ds h3 => Q (d' :: ds) h3 := by (try simp only [nxt, wx_eq, ws_eq, px_eq]) <;> rfl
@[simp ↓] theorem a_consF {e r : CE} {Q : List D → Hd → Prop} : (wx cl gl (.acons e r)).a false τ h Q = (wx cl gl e).e τ h fun d h1 => (wx cl gl r).a false τ h1 fun ds h3 => Q (d :: ds) h3 := by (try simp only [nxt, wx_eq, ws_eq, px_eq]) <;> rfl
/-! tests -/
section
variable {Q : Bool → Hd → Prop}
def tr (Q : Bool → Hd → Prop) : PD := fun d h => match truth h d with | some k => Q k h | none => False
@[simp ↓] theorem tr_bl {b : Bool} : tr Q (.bl b) h = Q b h := rfl
@[simp ↓] theorem tr_int {i : Int} : tr Q (.int i) h = Q (i != 0) h := rfl
@[simp ↓] theorem tr_non : tr Q .non h = Q false h := rfl
@[simp ↓] theorem tr_tup {xs : List D} : tr Q (.tup xs) h = Q (!xs.isEmpty) h := rfl
@[simp ↓] theorem tr_tl {xs : List D} : tr Q (.tl xs) h = Q (!xs.isEmpty) h := rfl
@[simp ↓] theorem tr_loc {a : Nat} : tr Q (.loc a) h = lstQ h[a]? fun xs => Q (!xs.isEmpty) h := by
  simp only [tr, truth, lstOf, lstQ]
  try (rcases h[a]? with _ | ⟨_ | _ | _⟩ <;> rfl)
@[simp ↓] theorem t_var {i : Nat} : (wx cl gl (.var i)).t τ h Q = (match τ[i]? with | some (some d) => tr Q d h | _ => False) := by (try simp only [nxt, wx_eq, ws_eq, px_eq]) <;> rfl
@[simp ↓] theorem t_cst {d : D} : (wx cl gl (.cst d)).t τ h Q = tr Q d h := by (try simp only [nxt, wx_eq, ws_eq, px_eq]) <;> rfl
@[simp ↓] theorem t_prim {p : Prim} {as : CE} : (wx cl gl (.prim p as)).t τ h Q = (wx cl gl as).a false τ h fun ds h' => px p ds h' (tr Q) := by (try simp only [nxt, wx_eq, ws_eq, px_eq]) <;> rfl
@[simp ↓] theorem t_call {f : Nat} {as : CE} : (wx cl gl (.call f as)).t τ h Q = (wx cl gl as).a true τ h fun ds h' => cl f ds h' (tr Q) := by (try simp only [nxt, wx_eq, ws_eq, px_eq]) <;> rfl
@[simp ↓] theorem t_and {a b : CE} : (wx cl gl (.and_ a b)).t τ h Q = (wx cl gl a).t τ h fun k h' => if k = true then (wx cl gl b).t τ h' Q else Q false h' := by (try simp only [nxt, wx_eq, ws_eq, px_eq]) <;> rfl
@[simp ↓] theorem t_or {a b : CE} : (wx cl gl (.or_ a b)).t τ h Q = (wx cl gl a).t τ h fun k h' => if k = true then Q true h' else (wx cl gl b).t τ h' Q := by (try simp only [nxt, wx_eq, ws_eq, px_eq]) <;> rfl
@[simp ↓] theorem t_not {a : CE} : (wx cl gl (.not_ a)).t τ h Q = (wx cl gl a).t τ h fun k h' => Q (!k) h' := by (try simp only [nxt, wx_eq, ws_eq, px_eq]) <;> rfl
@[simp ↓] theorem t_chain {p q : Prim} {a b c : CE} : (wx cl gl (.chain p q a b c)).t τ h Q = (wx cl gl a).e τ h fun x h1 => (wx cl gl b).e τ h1 fun y h2 => px p [x, y] h2 fun r h3 => blQ r fun k =>
      if k = true then (wx cl gl c).e τ h3 fun z h4 => px q [y, z] h4 (tr Q) else tr Q (.bl false) h3 := by simp only [← blQ_eq, wx_eq, px_eq]; rfl
@[simp ↓] theorem t_tup {as : CE} : (wx cl gl (.tup as)).t τ h Q = (wx cl gl as).a true τ h fun ds h' => ds.length ≤ sizeLine ∧ tr Q (.tup ds) h' := by (try simp only [nxt, wx_eq, ws_eq, px_eq]) <;> rfl
@[simp ↓] theorem t_comp {p : Pat} {it c elt : CE} : (wx cl gl (.comp p it none c elt)).t τ h Q = (wx cl gl it).i τ h fun w h1 => compW w.ok p yesT (wx cl gl elt).e (wipeD τ p.ix) (fun acc h2 => tr Q (.tl acc) h2) w.xs [] h1 := by (try simp only [nxt, wx_eq, ws_eq, px_eq]) <;> rfl
@[simp ↓] theorem t_compf {p : Pat} {it c elt : CE} : (wx cl gl (.comp p it (some ()) c elt)).t τ h Q = (wx cl gl it).i τ h fun w h1 => compW w.ok p (wx cl gl c).t (wx cl gl elt).e (wipeD τ p.ix) (fun acc h2 => tr Q (.tl acc) h2) w.xs [] h1 := by (try simp only [nxt, wx_eq, ws_eq, px_eq]) <;> rfl
end
/-! what is walked -/
section
variable {Q : Iter → Hd → Prop}
def it (Q : Iter → Hd → Prop) : PD := fun d h => match d with
    | .tup xs => Q (.vals xs) h
    | .tl xs => Q (.vals xs) h
    | .rl xs => Q (.vals xs) h
    | .str x => x.length ≤ sizeLine ∧ Q (.vals (chrs x)) h
    | .loc a => match h[a]? with
      | some (.lst xs) => Q (.live a xs) h
      | _ => False
    | _ => False
@[simp ↓] theorem it_tup {xs : List D} : it Q (.tup xs) h = Q (.vals xs) h := rfl
@[simp ↓] theorem it_tl {xs : List D} : it Q (.tl xs) h = Q (.vals xs) h := rfl
@[simp ↓] theorem it_rl {xs : List D} : it Q (.rl xs) h = Q (.vals xs) h := rfl
@[simp ↓] theorem it_loc {a : Nat} : it Q (.loc a) h = lstQ h[a]? fun xs => Q (.live a xs) h := by
  simp only [it, lstQ]
@[simp ↓] theorem i_var {i : Nat} : (wx cl gl (.var i)).i τ h Q = (match τ[i]? with | some (some d) => it Q d h | _ => False) := by (try simp only [nxt, wx_eq, ws_eq, px_eq]) <;> rfl
@[simp ↓] theorem i_cst {d : D} : (wx cl gl (.cst d)).i τ h Q = it Q d h := by (try simp only [nxt, wx_eq, ws_eq, px_eq]) <;> rfl
@[simp ↓] theorem i_tup {as : CE} : (wx cl gl (.tup as)).i τ h Q = (wx cl gl as).a true τ h fun ds h' => ds.length ≤ sizeLine ∧ Q (.vals ds) h' := by (try simp only [nxt, wx_eq, ws_eq, px_eq]) <;> rfl
@[simp ↓] theorem i_lst {as : CE} : (wx cl gl (.lst as)).i τ h Q = (wx cl gl as).a true τ h fun ds h' => ds.length ≤ sizeLine ∧ Q (.vals ds) h' := by (try simp only [nxt, wx_eq, ws_eq, px_eq]) <;> rfl
@[simp ↓] theorem i_prim {p : Prim} {as : CE} : (wx cl gl (.prim p as)).i τ h Q = (wx cl gl as).a false τ h fun ds h' => px p ds h' (it Q) := by (try simp only [nxt, wx_eq, ws_eq, px_eq]) <;> rfl
@[simp ↓] theorem i_call {f : Nat} {as : CE} : (wx cl gl (.call f as)).i τ h Q = (wx cl gl as).a true τ h fun ds h' => cl f ds h' (it Q) := by (try simp only [nxt, wx_eq, ws_eq, px_eq]) <;> rfl
@[simp ↓] theorem i_r1 {a : CE} : (wx cl gl (.r1 a)).i τ h Q = (wx cl gl a).e τ h fun d h' => match d with | .int n => (-(2 ^ 62) ≤ n ∧ n < 2 ^ 62) ∧ Q (.vals (rangeD 0 n.toNat)) h' | _ => False := by (try simp only [nxt, wx_eq, ws_eq, px_eq]) <;> rfl
@[simp ↓] theorem i_r2 {a b : CE} : (wx cl gl (.r2 a b)).i τ h Q = (wx cl gl a).e τ h fun x h1 => (wx cl gl b).e τ h1 fun y h2 => match x, y with
    | .int i, .int j => (-(2 ^ 62) ≤ i ∧ i < 2 ^ 62 ∧ -(2 ^ 62) ≤ j ∧ j < 2 ^ 62) ∧ Q (.vals (rangeD i (j - i).toNat)) h2
    | _, _ => False := by (try simp only [nxt, wx_eq, ws_eq, px_eq]) <;> rfl
@[simp ↓] theorem ok_vals {xs : List D} : (Iter.vals xs).ok h = True := rfl
@[simp ↓] theorem xs_vals {xs : List D} : (Iter.vals xs).xs = xs := rfl
@[simp ↓] theorem ok_live {a : Nat} {xs : List D} : (Iter.live a xs).ok h = (h[a]? = some (.lst xs)) := rfl
@[simp ↓] theorem xs_live {a : Nat} {xs : List D} : (Iter.live a xs).xs = xs := rfl
end
/-! binding, places -/
@[simp ↓] theorem b_nm {i : Nat} {d : D} {k : Sd → Prop} : bindW (.nm i) d τ k = k (τ.set i (some d)) := rfl
@[simp ↓] theorem b_tp {is : List Nat} {ds : List D} {k : Sd → Prop} : bindW (.tp is) (.tup ds) τ k = (ds.length = is.length ∧ k (setAll τ is ds)) := rfl
@[simp ↓] theorem sa_nil {ds : List D} : setAll τ [] ds = τ := by cases ds <;> rfl
@[simp ↓] theorem sa_nil2 {is : List Nat} : setAll τ is [] = τ := by cases is <;> rfl
@[simp ↓] theorem sa_cons {i : Nat} {is : List Nat} {d : D} {ds : List D} : setAll τ (i :: is) (d :: ds) = setAll (τ.set i (some d)) is ds := rfl
@[simp ↓] theorem pix_nm {i : Nat} : (Pat.nm i).ix = [i] := rfl
@[simp ↓] theorem pix_tp {is : List Nat} : (Pat.tp is).ix = is := rfl
@[simp ↓] theorem wi_nil : wipeD τ [] = τ := rfl
@[simp ↓] theorem wi_cons {i : Nat} {is : List Nat} : wipeD τ (i :: is) = (wipeD τ is).set i none := rfl
@[simp ↓] theorem m_non : mat .non h Q = Q .non h := rfl
@[simp ↓] theorem m_bl {b : Bool} : mat (.bl b) h Q = Q (.bl b) h := rfl
@[simp ↓] theorem m_int {b : Int} : mat (.int b) h Q = Q (.int b) h := rfl
@[simp ↓] theorem m_str {b : Str} : mat (.str b) h Q = Q (.str b) h := rfl
@[simp ↓] theorem m_tup {b : List D} : mat (.tup b) h Q = Q (.tup b) h := rfl
@[simp ↓] theorem m_rl {b : List D} : mat (.rl b) h Q = Q (.rl b) h := rfl
@[simp ↓] theorem m_loc {b : Nat} : mat (.loc b) h Q = Q (.loc b) h := rfl
@[simp ↓] theorem m_tl {xs : List D} : mat (.tl xs) h Q = Q (.loc h.length) (h ++ [.lst xs]) := rfl
/-! operators -/
@[simp ↓] theorem x_add {i j : Int} : px .add [.int i, .int j] h Q = Q (.int (i + j)) h := by (try simp only [nxt, wx_eq, ws_eq, px_eq]) <;> rfl
@[simp ↓] theorem x_sub {i j : Int} : px .sub [.int i, .int j] h Q = Q (.int (i - j)) h := by (try simp only [nxt, wx_eq, ws_eq, px_eq]) <;> rfl
@[simp ↓] theorem x_mul {i j : Int} : px .mul [.int i, .int j] h Q = (mulOk i j ∧ Q (.int (i * j)) h) := by (try simp only [nxt, wx_eq, ws_eq, px_eq]) <;> rfl
@[simp ↓] theorem x_fdiv {i j : Int} : px .fdiv [.int i, .int j] h Q = (divOk j ∧ Q (.int (i.fdiv j)) h) := by (try simp only [nxt, wx_eq, ws_eq, px_eq]) <;> rfl
@[simp ↓] theorem x_mod {i j : Int} : px .mod [.int i, .int j] h Q = (j ≠ 0 ∧ Q (.int (i.fmod j)) h) := by (try simp only [nxt, wx_eq, ws_eq, px_eq]) <;> rfl
@[simp ↓] theorem x_pow {i j : Int} : px .pow [.int i, .int j] h Q = ((0 ≤ j ∧ j ≤ 1000000 ∧ i.natAbs < 2 ^ 64) ∧ Q (.int (i ^ j.toNat)) h) := by (try simp only [nxt, wx_eq, ws_eq, px_eq]) <;> rfl
@[simp ↓] theorem x_neg {i : Int} : px .neg [.int i] h Q = Q (.int (-i)) h := by (try simp only [nxt, wx_eq, ws_eq, px_eq]) <;> rfl
@[simp ↓] theorem x_eq {i j : Int} : px .eq [.int i, .int j] h Q = Q (.bl (decide (i = j))) h := by (try simp only [nxt, wx_eq, ws_eq, px_eq]) <;> rfl
@[simp ↓] theorem x_eqS {i j : Str} : px .eq [.str i, .str j] h Q = Q (.bl (decide (i = j))) h := by (try simp only [nxt, wx_eq, ws_eq, px_eq]) <;> rfl
@[simp ↓] theorem x_eqB {i j : Bool} : px .eq [.bl i, .bl j] h Q = Q (.bl (decide (i = j))) h := by (try simp only [nxt, wx_eq, ws_eq, px_eq]) <;> rfl
@[simp ↓] theorem x_ne {i j : Int} : px .ne [.int i, .int j] h Q = Q (.bl (!decide (i = j))) h := by (try simp only [nxt, wx_eq, ws_eq, px_eq]) <;> rfl
@[simp ↓] theorem x_neS {i j : Str} : px .ne [.str i, .str j] h Q = Q (.bl (!decide (i = j))) h := by (try simp only [nxt, wx_eq, ws_eq, px_eq]) <;> rfl
@[simp ↓] theorem x_neB {i j : Bool} : px .ne [.bl i, .bl j] h Q = Q (.bl (!decide (i = j))) h := by (try simp only [nxt, wx_eq, ws_eq, px_eq]) <;> rfl
@[simp ↓] theorem x_lt {i j : Int} : px .lt [.int i, .int j] h Q = Q (.bl (decide (i < j))) h := by (try simp only [nxt, wx_eq, ws_eq, px_eq]) <;> rfl
@[simp ↓] theorem x_le {i j : Int} : px .le [.int i, .int j] h Q = Q (.bl (decide (i ≤ j))) h := by (try simp only [nxt, wx_eq, ws_eq, px_eq]) <;> rfl
@[simp ↓] theorem x_gt {i j : Int} : px .gt [.int i, .int j] h Q = Q (.bl (decide (j < i))) h := by (try simp only [nxt, wx_eq, ws_eq, px_eq]) <;> rfl
@[simp ↓] theorem x_ge {i j : Int} : px .ge [.int i, .int j] h Q = Q (.bl (decide (j ≤ i))) h := by (try simp only [nxt, wx_eq, ws_eq, px_eq]) <;> rfl
@[simp ↓] theorem x_isN {x : D} : px .is_ [x, .non] h Q = Q (.bl (isNonD x)) h := by (try simp only [nxt, wx_eq, ws_eq, px_eq]) <;> rfl
@[simp ↓] theorem x_isB {x : D} {b : Bool} : px .is_ [x, .bl b] h Q = Q (.bl (isBlD b x)) h := by (try simp only [nxt, wx_eq, ws_eq, px_eq]) <;> rfl
@[simp ↓] theorem x_isnotN {x : D} : px .isnot [x, .non] h Q = Q (.bl (!isNonD x)) h := by (try simp only [nxt, wx_eq, ws_eq, px_eq]) <;> rfl
@[simp ↓] theorem x_isnotB {x : D} {b : Bool} : px .isnot [x, .bl b] h Q = Q (.bl (!isBlD b x)) h := by (try simp only [nxt, wx_eq, ws_eq, px_eq]) <;> rfl
@[simp ↓] theorem x_abs {i : Int} : px .abs [.int i] h Q = Q (.int (if i < 0 then -i else i)) h := by (try simp only [nxt, wx_eq, ws_eq, px_eq]) <;> rfl
@[simp ↓] theorem x_int {i : Int} : px .int1 [.int i] h Q = Q (.int i) h := by (try simp only [nxt, wx_eq, ws_eq, px_eq]) <;> rfl
@[simp ↓] theorem x_intB {b : Bool} : px .int1 [.bl b] h Q = Q (.int (if b then 1 else 0)) h := by (try simp only [nxt, wx_eq, ws_eq, px_eq]) <;> rfl
@[simp ↓] theorem x_gcd {i j : Int} : px .gcd [.int i, .int j] h Q = Q (.int ((Nat.gcd i.natAbs j.natAbs : Nat) : Int)) h := by (try simp only [nxt, wx_eq, ws_eq, px_eq]) <;> rfl
@[simp ↓] theorem x_bits {i : Int} : px .bits [.int i] h Q = Q (.int (Builtin.Int.intBits i : Nat)) h := by (try simp only [nxt, wx_eq, ws_eq, px_eq]) <;> rfl
theorem x_instI {T : String} {i : Int} : px (.inst T) [.int i] h Q = Q (.bl (T == "int")) h := by (try simp only [nxt, wx_eq, ws_eq, px_eq]) <;> rfl
theorem x_instB {T : String} {i : Bool} : px (.inst T) [.bl i] h Q = Q (.bl (T == "bool" || T == "int")) h := by (try simp only [nxt, wx_eq, ws_eq, px_eq]) <;> rfl
theorem x_instS {T : String} {i : Str} : px (.inst T) [.str i] h Q = Q (.bl (T == "str")) h := by (try simp only [nxt, wx_eq, ws_eq, px_eq]) <;> rfl
theorem x_instT {T : String} {i : List D} : px (.inst T) [.tup i] h Q = Q (.bl (T == "tuple")) h := by (try simp only [nxt, wx_eq, ws_eq, px_eq]) <;> rfl
theorem x_instN {T : String} : px (.inst T) [.non] h Q = Q (.bl (T == "NoneType")) h := by (try simp only [nxt, wx_eq, ws_eq, px_eq]) <;> rfl
@[simp ↓] theorem x_instI_int {i : Int} : px (.inst "int") [.int i] h Q = Q (.bl true) h := by rw [x_instI, sq_int_int]
@[simp ↓] theorem x_instS_int {i : Str} : px (.inst "int") [.str i] h Q = Q (.bl false) h := by rw [x_instS, sq_int_str]
@[simp ↓] theorem x_instT_int {i : List D} : px (.inst "int") [.tup i] h Q = Q (.bl false) h := by rw [x_instT, sq_int_tuple]
@[simp ↓] theorem x_instN_int  : px (.inst "int") [.non] h Q = Q (.bl false) h := by rw [x_instN, sq_int_NoneType]
@[simp ↓] theorem x_instB_int {i : Bool} : px (.inst "int") [.bl i] h Q = Q (.bl true) h := by rw [x_instB, sq_int_bool, sq_int_int]; rfl
@[simp ↓] theorem x_instI_bool {i : Int} : px (.inst "bool") [.int i] h Q = Q (.bl false) h := by rw [x_instI, sq_bool_int]
@[simp ↓] theorem x_instS_bool {i : Str} : px (.inst "bool") [.str i] h Q = Q (.bl false) h := by rw [x_instS, sq_bool_str]
@[simp ↓] theorem x_instT_bool {i : List D} : px (.inst "bool") [.tup i] h Q = Q (.bl false) h := by rw [x_instT, sq_bool_tuple]
@[simp ↓] theorem x_instN_bool  : px (.inst "bool") [.non] h Q = Q (.bl false) h := by rw [x_instN, sq_bool_NoneType]
@[simp ↓] theorem x_instB_bool {i : Bool} : px (.inst "bool") [.bl i] h Q = Q (.bl true) h := by rw [x_instB, sq_bool_bool, sq_bool_int]; rfl
@[simp ↓] theorem x_instI_str {i : Int} : px (.inst "str") [.int i] h Q = Q (.bl false) h := by rw [x_instI, sq_str_int]
@[simp ↓] theorem x_instS_str {i : Str} : px (.inst "str") [.str i] h Q = Q (.bl true) h := by rw [x_instS, sq_str_str]
@[simp ↓] theorem x_instT_str {i : List D} : px (.inst "str") [.tup i] h Q = Q (.bl false) h := by rw [x_instT, sq_str_tuple]
@[simp ↓] theorem x_instN_str  : px (.inst "str") [.non] h Q = Q (.bl false) h := by rw [x_instN, sq_str_NoneType]
@[simp ↓] theorem x_instB_str {i : Bool} : px (.inst "str") [.bl i] h Q = Q (.bl false) h := by rw [x_instB, sq_str_bool, sq_str_int]; rfl
@[simp ↓] theorem x_instI_tuple {i : Int} : px (.inst "tuple") [.int i] h Q = Q (.bl false) h := by rw [x_instI, sq_tuple_int]
@[simp ↓] theorem x_instS_tuple {i : Str} : px (.inst "tuple") [.str i] h Q = Q (.bl false) h := by rw [x_instS, sq_tuple_str]
@[simp ↓] theorem x_instT_tuple {i : List D} : px (.inst "tuple") [.tup i] h Q = Q (.bl true) h := by rw [x_instT, sq_tuple_tuple]
@[simp ↓] theorem x_instN_tuple  : px (.inst "tuple") [.non] h Q = Q (.bl false) h := by rw [x_instN, sq_tuple_NoneType]
@[simp ↓] theorem x_instB_tuple {i : Bool} : px (.inst "tuple") [.bl i] h Q = Q (.bl false) h := by rw [x_instB, sq_tuple_bool, sq_tuple_int]; rfl
@[simp ↓] theorem x_instI_list {i : Int} : px (.inst "list") [.int i] h Q = Q (.bl false) h := by rw [x_instI, sq_list_int]
@[simp ↓] theorem x_instS_list {i : Str} : px (.inst "list") [.str i] h Q = Q (.bl false) h := by rw [x_instS, sq_list_str]
@[simp ↓] theorem x_instT_list {i : List D} : px (.inst "list") [.tup i] h Q = Q (.bl false) h := by rw [x_instT, sq_list_tuple]
@[simp ↓] theorem x_instN_list  : px (.inst "list") [.non] h Q = Q (.bl false) h := by rw [x_instN, sq_list_NoneType]
@[simp ↓] theorem x_instB_list {i : Bool} : px (.inst "list") [.bl i] h Q = Q (.bl false) h := by rw [x_instB, sq_list_bool, sq_list_int]; rfl
@[simp ↓] theorem x_instI_dict {i : Int} : px (.inst "dict") [.int i] h Q = Q (.bl false) h := by rw [x_instI, sq_dict_int]
@[simp ↓] theorem x_instS_dict {i : Str} : px (.inst "dict") [.str i] h Q = Q (.bl false) h := by rw [x_instS, sq_dict_str]
@[simp ↓] theorem x_instT_dict {i : List D} : px (.inst "dict") [.tup i] h Q = Q (.bl false) h := by rw [x_instT, sq_dict_tuple]
@[simp ↓] theorem x_instN_dict  : px (.inst "dict") [.non] h Q = Q (.bl false) h := by rw [x_instN, sq_dict_NoneType]
@[simp ↓] theorem x_instB_dict {i : Bool} : px (.inst "dict") [.bl i] h Q = Q (.bl false) h := by rw [x_instB, sq_dict_bool, sq_dict_int]; rfl
theorem x_instL {T : String} {a : Nat} {xs : List D} (e : h[a]? = some (.lst xs)) : px (.inst T) [.loc a] h Q = Q (.bl (T == "list")) h := by simp [px_eq, wpP, instW, isInst, e]
theorem lst_loc {a : Nat} {xs : List D} (e : h[a]? = some (.lst xs)) : lstOf h (.loc a) = some xs := by simp [lstOf, e]
@[simp ↓] theorem q_tup {xs : List D} : seqOf h (.tup xs) = some xs := rfl
@[simp ↓] theorem q_tl {xs : List D} : seqOf h (.tl xs) = some xs := rfl
@[simp ↓] theorem q_rl {xs : List D} : seqOf h (.rl xs) = some xs := rfl
theorem q_loc {a : Nat} {xs : List D} (e : h[a]? = some (.lst xs)) : seqOf h (.loc a) = some xs := by simp [seqOf, lstOf, e]
theorem x_len {x : D} {xs : List D} (e : seqOf h x = some xs) : px .len [x] h Q = Q (.int xs.length) h := by
  cases x with
  | str z => cases e
  | _ => simp only [px_eq, wpP, lenW, e]
@[simp ↓] theorem x_lenT {xs : List D} : px .len [.tup xs] h Q = Q (.int xs.length) h := by (try simp only [nxt, wx_eq, ws_eq, px_eq]) <;> rfl
@[simp ↓] theorem x_lenR {xs : List D} : px .len [.rl xs] h Q = Q (.int xs.length) h := by (try simp only [nxt, wx_eq, ws_eq, px_eq]) <;> rfl
@[simp ↓] theorem x_lenL {xs : List D} : px .len [.tl xs] h Q = Q (.int xs.length) h := by (try simp only [nxt, wx_eq, ws_eq, px_eq]) <;> rfl
@[simp ↓] theorem x_lenP {a : Nat} : px .len [.loc a] h Q = lstQ h[a]? fun xs => Q (.int xs.length) h := by
  simp only [px_eq, wpP, lenW, seqOf, lstOf, lstQ]
  try (rcases h[a]? with _ | ⟨_ | _ | _⟩ <;> rfl)
theorem x_idx {x : D} {i : Int} {xs : List D} (e : seqOf h x = some xs) : px .idx [x, .int i] h Q = atQ (atI xs i) Q h := by
  cases x with
  | str z => cases e
  | _ => simp only [px_eq, wpP, idxW, e]; rfl
@[simp ↓] theorem x_idxT {i : Int} {xs : List D} : px .idx [.tup xs, .int i] h Q = atQ (atI xs i) Q h := by (try simp only [nxt, wx_eq, ws_eq, px_eq]) <;> rfl
@[simp ↓] theorem x_idxR {i : Int} {xs : List D} : px .idx [.rl xs, .int i] h Q = atQ (atI xs i) Q h := by (try simp only [nxt, wx_eq, ws_eq, px_eq]) <;> rfl
@[simp ↓] theorem x_idxL {i : Int} {xs : List D} : px .idx [.tl xs, .int i] h Q = atQ (atI xs i) Q h := by (try simp only [nxt, wx_eq, ws_eq, px_eq]) <;> rfl
@[simp ↓] theorem x_idxP {a : Nat} {i : Int} : px .idx [.loc a, .int i] h Q = lstQ h[a]? fun xs => atQ (atI xs i) Q h := by
  simp only [px_eq, wpP, idxW, seqOf, lstOf, lstQ]
  try (rcases h[a]? with _ | ⟨_ | _ | _⟩ <;> rfl)
@[simp ↓] theorem x_listP {a : Nat} : px .list [.loc a] h Q = lstQ h[a]? fun xs => Q (.tl xs) h := by
  simp only [px_eq, wpP, listW, seqOf, lstOf, lstQ]
  try (rcases h[a]? with _ | ⟨_ | _ | _⟩ <;> rfl)
@[simp ↓] theorem x_tupleP {a : Nat} : px .tuple [.loc a] h Q = lstQ h[a]? fun xs => Q (.tup xs) h := by
  simp only [px_eq, wpP, tupleW, seqOf, lstOf, lstQ]
  try (rcases h[a]? with _ | ⟨_ | _ | _⟩ <;> rfl)
@[simp ↓] theorem mu_tl {xs : List D} : mutOf h (.tl xs) = some xs := rfl
theorem mu_loc {a : Nat} {xs : List D} (e : h[a]? = some (.lst xs)) : mutOf h (.loc a) = some xs := by simp [mutOf, lstOf, e]
theorem x_addL {x y : D} {a b : List D} (e1 : mutOf h x = some a) (e2 : mutOf h y = some b) : px .add [x, y] h Q = (a.length + b.length ≤ sizeLine ∧ Q (.tl (a ++ b)) h) := by
  cases x <;> first | (simp [mutOf, lstOf] at e1; done) | skip
  all_goals (cases y <;> first | (simp [mutOf, lstOf] at e2; done) | simp only [px_eq, wpP, addW, e1, e2])
theorem x_mulL {x : D} {a : List D} {k : Int} (e1 : mutOf h x = some a) : px .mul [x, .int k] h Q = (a.length * k.toNat ≤ sizeLine ∧ -(2 ^ 63) ≤ k ∧ k < 2 ^ 63 ∧ Q (.tl (List.replicate k.toNat a).flatten) h) := by
  cases x <;> first | (simp [mutOf, lstOf] at e1; done) | simp only [px_eq, wpP, mulW, e1]
@[simp ↓] theorem x_addTl {a b : List D} : px .add [.tl a, .tl b] h Q = (a.length + b.length ≤ sizeLine ∧ Q (.tl (a ++ b)) h) := x_addL rfl rfl
@[simp ↓] theorem x_mulTl {a : List D} {k : Int} : px .mul [.tl a, .int k] h Q = (a.length * k.toNat ≤ sizeLine ∧ -(2 ^ 63) ≤ k ∧ k < 2 ^ 63 ∧ Q (.tl (List.replicate k.toNat a).flatten) h) := x_mulL rfl
@[simp ↓] theorem x_addTp {a b : List D} : px .add [.tup a, .tup b] h Q = (a.length + b.length ≤ sizeLine ∧ Q (.tup (a ++ b)) h) := by (try simp only [nxt, wx_eq, ws_eq, px_eq]) <;> rfl
@[simp ↓] theorem x_listTl {xs : List D} : px .list [.tl xs] h Q = Q (.tl xs) h := by (try simp only [nxt, wx_eq, ws_eq, px_eq]) <;> rfl
@[simp ↓] theorem x_listTp {xs : List D} : px .list [.tup xs] h Q = Q (.tl xs) h := by (try simp only [nxt, wx_eq, ws_eq, px_eq]) <;> rfl
theorem x_list {x : D} {xs : List D} (e : seqOf h x = some xs) : px .list [x] h Q = Q (.tl xs) h := by simp only [px_eq, wpP, listW, e]
theorem x_tuple {x : D} {xs : List D} (e : seqOf h x = some xs) : px .tuple [x] h Q = Q (.tup xs) h := by simp only [px_eq, wpP, tupleW, e]
@[simp ↓] theorem x_append {a : Nat} {x : D} : wpM .append (.loc a) [x] h Q = lstQ h[a]? fun xs => xs.length < sizeLine ∧ Q .non (h.set a (.lst (xs ++ [x]))) := by
  simp only [wpM, appendW, lstQ]
  try (rcases h[a]? with _ | ⟨_ | _ | _⟩ <;> rfl)
@[simp ↓] theorem ty_append {a : Nat} : tyM .append h (.loc a) = lstQ h[a]? fun _ => True := by
  simp only [tyM, mutOf, lstOf, lstQ]
  try (rcases h[a]? with _ | ⟨_ | _ | _⟩ <;> simp)
def popQ (xs : List D) (k : D → List D → Prop) : Prop := match xs[xs.length - 1]? with
  | some y => k y xs.dropLast
  | none => False
@[simp] theorem popQ_snoc {xs : List D} {y : D} {k : D → List D → Prop} : popQ (xs ++ [y]) k = k y xs := by simp [popQ]
@[simp ↓] theorem x_pop {a : Nat} : px .pop [.loc a] h Q = lstQ h[a]? fun xs => popQ xs fun y ys => Q y (h.set a (.lst ys)) := by
  simp only [px_eq, wpP, popW, lstQ]
  try (rcases h[a]? with _ | ⟨_ | _ | _⟩ <;> rfl)
@[simp ↓] theorem x_reverse {a : Nat} : px .reverse [.loc a] h Q = lstQ h[a]? fun xs => Q .non (h.set a (.lst xs.reverse)) := by
  simp only [px_eq, wpP, reverseW, lstQ]
  try (rcases h[a]? with _ | ⟨_ | _ | _⟩ <;> rfl)
def setQ (o : Option DO) (kl : List D → Prop) (kd : List D → List D → Prop) : Prop := match o with
  | some (.lst xs) => kl xs
  | some (.dct false ks vs) => kd ks vs
  | _ => False
@[simp ↓] theorem setQ_def {o : Option DO} {kl : List D → Prop} {kd : List D → List D → Prop} : setQ o kl kd = (match o with | some (.lst xs) => kl xs | some (.dct false ks vs) => kd ks vs | _ => False) := rfl
@[simp] theorem setQ_some {xs : List D} {kl : List D → Prop} {kd : List D → List D → Prop} : setQ (some (.lst xs)) kl kd = kl xs := rfl
@[simp] theorem setQ_dct {ks vs : List D} {kl : List D → Prop} {kd : List D → List D → Prop} : setQ (some (.dct false ks vs)) kl kd = kd ks vs := rfl
def dctQ (o : Option DO) (kd : List D → List D → Prop) : Prop := match o with
  | some (.dct false ks vs) => kd ks vs
  | _ => False
@[simp ↓] theorem dctQ_def {o : Option DO} {kd : List D → List D → Prop} : dctQ o kd = (match o with | some (.dct false ks vs) => kd ks vs | _ => False) := rfl
@[simp] theorem dctQ_some {ks vs : List D} {kd : List D → List D → Prop} : dctQ (some (.dct false ks vs)) kd = kd ks vs := rfl
@[simp ↓] theorem x_set {a : Nat} {i : Int} {v : D} {k : Hd → Prop} : setIdxW (.loc a) (.int i) v h k = setQ h[a]? (fun xs => natQ (ixN xs.length i) fun n => k (h.set a (.lst (xs.set n v)))) fun ks vs => ks.length < sizeLine ∧ k (h.set a (.dct false (dPut ks vs (.inl i) v).1 (dPut ks vs (.inl i) v).2)) := by
  simp only [setIdxW, setQ, natQ]
  try (rcases h[a]? with _ | ⟨_ | ⟨_ | _, _, _⟩ | _⟩ <;> rfl)
@[simp ↓] theorem x_setS {a : Nat} {i : Str} {v : D} {k : Hd → Prop} : setIdxW (.loc a) (.str i) v h k = dctQ h[a]? fun ks vs => ks.length < sizeLine ∧ k (h.set a (.dct false (dPut ks vs (.inr i) v).1 (dPut ks vs (.inr i) v).2)) := by
  simp only [setIdxW, dctQ]
  try (rcases h[a]? with _ | ⟨_ | ⟨_ | _, _, _⟩ | _⟩ <;> rfl)
/-! dicts -/
theorem dct_at (a : Nat) (R : List D × List D → Prop) : (match dctOf h (.loc a) with | some p => R p | none => False) = dctQ h[a]? fun ks vs => R (ks, vs) := by
  simp only [dctOf, dctQ]
  try (rcases h[a]? with _ | ⟨_ | ⟨_ | _, _, _⟩ | _⟩ <;> rfl)
@[simp ↓] theorem x_dnew : px .dnew [] h Q = Q (.td false [] []) h := by (try simp only [nxt, wx_eq, ws_eq, px_eq]) <;> rfl
@[simp ↓] theorem m_td {tk : Bool} {ks vs : List D} : mat (.td tk ks vs) h Q = Q (.loc h.length) (h ++ [.dct tk ks vs]) := rfl
@[simp ↓] theorem x_dget {a : Nat} {i : Int} : px .dget [.loc a, .int i] h Q = dctQ h[a]? fun ks vs => atQ (dGet ks vs (.inl i)) Q h := by
  simp only [px_eq, wpP, dgetW, dctOf, dctQ, dkey, atQ]
  try (rcases h[a]? with _ | ⟨_ | ⟨_ | _, _, _⟩ | _⟩ <;> rfl)
@[simp ↓] theorem x_dgetS {a : Nat} {i : Str} : px .dget [.loc a, .str i] h Q = dctQ h[a]? fun ks vs => atQ (dGet ks vs (.inr i)) Q h := by
  simp only [px_eq, wpP, dgetW, dctOf, dctQ, dkey, atQ]
  try (rcases h[a]? with _ | ⟨_ | ⟨_ | _, _, _⟩ | _⟩ <;> rfl)
@[simp ↓] theorem x_din {a : Nat} {i : Int} : px .din [.int i, .loc a] h Q = dctQ h[a]? fun ks vs => Q (.bl (dGet ks vs (.inl i)).isSome) h := by
  simp only [px_eq, wpP, dinW, dctOf, dctQ, dkey, bo]
  try (rcases h[a]? with _ | ⟨_ | ⟨_ | _, _, _⟩ | _⟩ <;> rfl)
@[simp ↓] theorem x_dinS {a : Nat} {i : Str} : px .din [.str i, .loc a] h Q = dctQ h[a]? fun ks vs => Q (.bl (dGet ks vs (.inr i)).isSome) h := by
  simp only [px_eq, wpP, dinW, dctOf, dctQ, dkey, bo]
  try (rcases h[a]? with _ | ⟨_ | ⟨_ | _, _, _⟩ | _⟩ <;> rfl)
@[simp ↓] theorem x_dnotin {a : Nat} {i : Int} : px .dnotin [.int i, .loc a] h Q = dctQ h[a]? fun ks vs => Q (.bl (!(dGet ks vs (.inl i)).isSome)) h := by
  simp only [px_eq, wpP, dinW, dctOf, dctQ, dkey, bon]
  try (rcases h[a]? with _ | ⟨_ | ⟨_ | _, _, _⟩ | _⟩ <;> rfl)
@[simp ↓] theorem x_dnotinS {a : Nat} {i : Str} : px .dnotin [.str i, .loc a] h Q = dctQ h[a]? fun ks vs => Q (.bl (!(dGet ks vs (.inr i)).isSome)) h := by
  simp only [px_eq, wpP, dinW, dctOf, dctQ, dkey, bon]
  try (rcases h[a]? with _ | ⟨_ | ⟨_ | _, _, _⟩ | _⟩ <;> rfl)
@[simp ↓] theorem x_dlen {a : Nat} : px .dlen [.loc a] h Q = dctQ h[a]? fun ks _ => Q (.int ks.length) h := by
  simp only [px_eq, wpP, dlenW, dctOf, dctQ]
  try (rcases h[a]? with _ | ⟨_ | ⟨_ | _, _, _⟩ | _⟩ <;> rfl)
@[simp ↓] theorem x_lrng {n : Int} : px .lrng [.int n] h Q = ((-(2 ^ 62) ≤ n ∧ n ≤ 2 ^ 24) ∧ Q (.tl ((List.range n.toNat).map fun (i : Nat) => D.int (0 + (i : Int)))) h) := by (try simp only [nxt, wx_eq, ws_eq, px_eq]) <;> rfl
@[simp ↓] theorem x_augI {i j : Int} : augW .add (.int i) (.int j) h Q = Q (.int (i + j)) h := rfl
@[simp ↓] theorem x_augS {i j : Int} : augW .sub (.int i) (.int j) h Q = Q (.int (i - j)) h := rfl
@[simp ↓] theorem x_augM {i j : Int} : augW .mul (.int i) (.int j) h Q = (mulOk i j ∧ Q (.int (i * j)) h) := rfl
@[simp ↓] theorem x_augT {a b : List D} : augW .add (.tup a) (.tup b) h Q = (a.length + b.length ≤ sizeLine ∧ Q (.tup (a ++ b)) h) := rfl
@[simp ↓] theorem x_augX {a b : Str} : augW .add (.str a) (.str b) h Q = (a.length + b.length ≤ sizeLine ∧ Q (.str (a ++ b)) h) := rfl
end
/-! ### loops -/
theorem for_inv {ok : Hd → Prop} {p : Pat} {body : TSd} {Z : Endd} (I : Nat → Sd → Hd → Prop) {xs : List D} {τ : Sd} {h : Hd} (h0 : I 0 τ h)
    (step : ∀ (i : Nat) (x : D) (τ : Sd) (h : Hd) (k : Sd → Hd → Prop), xs[i]? = some x → I i τ h → (∀ τ' h', I (i + 1) τ' h' → k τ' h') → ok h ∧ bindW p x τ fun τ' => body ⟨k, Z.rt, Z.nx, k⟩ τ' h)
    (done : ∀ τ h, I xs.length τ h → ok h ∧ Z.nx τ h) : forW ok p body Z xs τ h := by
  have key : ∀ (m i : Nat) (τ : Sd) (h : Hd), i + m = xs.length → I i τ h → forW ok p body Z (xs.drop i) τ h := by
    intro m
    induction m with
    | zero =>
      intro i τ h e q
      have e : i = xs.length := by omega
      subst e
      rw [List.drop_length]
      exact done τ h q
    | succ m ih =>
      intro i τ h e q
      have hi : i < xs.length := by omega
      rw [List.drop_eq_getElem_cons hi]
      exact step i _ τ h _ (List.getElem?_eq_getElem hi) q fun τ' h' q' => ih (i + 1) τ' h' (by omega) q'
  exact key xs.length 0 τ h (by omega) h0
theorem range_get {lo : Int} {n i : Nat} {x : D} (e : (rangeD lo n)[i]? = some x) : i < n ∧ x = .int (lo + i) := by
  unfold rangeD at e
  rw [List.getElem?_map] at e
  by_cases hi : i < n
  · rw [List.getElem?_range hi] at e
    cases e
    exact ⟨hi, rfl⟩
  · rw [List.getElem?_eq_none (by simpa using hi)] at e
    cases e
@[simp] theorem range_len {lo : Int} {n : Nat} : (rangeD lo n).length = n := by simp [rangeD]
/-- for i in range(..) -/
theorem for_range {ok : Hd → Prop} {v : Nat} {body : TSd} {Z : Endd} (I : Nat → Sd → Hd → Prop) {lo : Int} {n : Nat} {τ : Sd} {h : Hd} (h0 : I 0 τ h) (hok : ∀ h, ok h)
    (step : ∀ (i : Nat) (τ : Sd) (h : Hd) (k : Sd → Hd → Prop), i < n → I i τ h → (∀ τ' h', I (i + 1) τ' h' → k τ' h') → body ⟨k, Z.rt, Z.nx, k⟩ (τ.set v (some (.int (lo + i)))) h)
    (done : ∀ τ h, I n τ h → Z.nx τ h) : forW ok (.nm v) body Z (rangeD lo n) τ h := by
  refine for_inv I h0 (fun i x τ h k e q w => ?_) (fun τ h q => ⟨hok h, done τ h (by simpa using q)⟩)
  obtain ⟨hi, rfl⟩ := range_get e
  exact ⟨hok h, step i τ h k hi q w⟩
/-- a comprehension that leaves the heap -/
theorem comp_map {ok : Hd → Prop} {p : Pat} {cond : TTd} {elt : TEd} {τ : Sd} {Q : List D → Hd → Prop} {h : Hd} (c : D → Bool) (g : D → D) {xs : List D} (acc : List D) (hl : xs.length + acc.length ≤ sizeLine) (hok : ok h)
    (step : ∀ x ∈ xs, ∀ (k : D → Hd → Prop) (s : Hd → Prop), (if c x = true then k (g x) h else s h) → bindW p x τ fun τ' => cond τ' h fun b h1 => if b = true then elt τ' h1 fun y h2 => mat y h2 k else s h1)
    (q : Q (acc ++ (xs.filter c).map g) h) : compW ok p cond elt τ Q xs acc h := by
  induction xs generalizing acc with
  | nil => simp only [compW]; exact ⟨hok, by simpa using q⟩
  | cons x xs ih =>
    simp only [compW]
    refine ⟨hok, step x List.mem_cons_self _ _ ?_⟩
    have st := fun y (hy : y ∈ xs) => step y (List.mem_cons_of_mem _ hy)
    rw [List.length_cons] at hl
    split
    · rename_i hc
      refine ⟨by omega, ih (acc ++ [g x]) (by rw [List.length_append]; simp; omega) st ?_⟩
      simpa [hc] using q
    · rename_i hc
      exact ih acc (by omega) st (by simpa [hc] using q)
theorem comp_all {ok : Hd → Prop} {p : Pat} {elt : TEd} {τ : Sd} {Q : List D → Hd → Prop} {h : Hd} (g : D → D) {xs : List D} (hl : xs.length ≤ sizeLine) (hok : ok h)
    (step : ∀ x ∈ xs, ∀ (k : D → Hd → Prop), k (g x) h → bindW p x τ fun τ' => elt τ' h fun y h2 => mat y h2 k)
    (q : Q (xs.map g) h) : compW ok p yesT elt τ Q xs [] h := by
  refine comp_map (fun _ => true) g [] (by simpa using hl) hok (fun x hx k s w => ?_) ?_
  · simp only [if_true] at w
    simp only [yesT, if_true]
    exact step x hx k w
  · have e : xs.filter (fun _ => true) = xs := List.filter_eq_self.mpr fun _ _ => rfl
    rw [e]
    exact q
theorem gc_tl {h h' : Hd} {k : Nat} {xs : List D} {Q : PD} (hk : h.length ≤ k) (e : h'[k]? = some (.lst xs)) (c : D.cleans h.length xs) (g : gcOK h h') (q : Q (.tl xs) (h'.take h.length)) : Gc h (.loc k) h' Q := .inr (.inr ⟨k, xs, rfl, hk, e, c, g, q⟩)
theorem cleans_ints {n : Nat} : ∀ xs : List Int, D.cleans n (xs.map D.int)
  | [] => trivial
  | _ :: xs => by simp only [List.map_cons, D.cleans, D.clean, true_and]; exact cleans_ints xs
theorem gc_nil {h : Hd} : gcOK [] h := ⟨Nat.zero_le _, fun i o a _ => absurd a (Nat.not_lt_zero _)⟩
end Py

namespace Py
open PySem PySem.Spec PyProof.Rows L2

/-! ### the laws' own defs -/
def cDB : CS :=
  (.seq (.asg (.nm 7) (.prim .mod (.acons (.var 6) (.acons (.prim .len (.acons (.var 2) .anil)) .anil))))
  (.seq (.ite (.and_ (.prim .ge (.acons (.prim .idx (.acons (.var 2) (.acons (.var 7) .anil))) (.acons (.prim .pow (.acons (.cst (.int 10)) (.acons (.cst (.int 18)) .anil))) .anil))) (.prim .gt (.acons (.prim .idx (.acons (.var 4) (.acons (.var 7) .anil))) (.acons (.cst (.int 0)) .anil))))
    (.seq (.expr (.meth .append (.var 5) (.acons (.prim .mod (.acons (.prim .int1 (.acons (.prim .idx (.acons (.var 4) (.acons (.var 7) .anil))) .anil)) (.acons (.cst (.int 1000)) .anil))) .anil)))
    (.seq (.setIdx (.var 4) (.var 7) (.prim .fdiv (.acons (.prim .idx (.acons (.var 4) (.acons (.var 7) .anil))) (.acons (.cst (.int 1000)) .anil))))
    .nil))
    (.seq (.asg (.nm 8) (.prim .mod (.acons (.prim .int1 (.acons (.prim .add (.acons (.prim .add (.acons (.prim .mul (.acons (.prim .idx (.acons (.var 2) (.acons (.var 7) .anil))) (.acons (.cst (.int 48271)) .anil))) (.acons (.prim .mul (.acons (.var 6) (.acons (.cst (.int 69621)) .anil))) .anil))) (.acons (.cst (.int 11)) .anil))) .anil)) (.acons (.cst (.int 2147483647)) .anil))))
    (.seq (.expr (.meth .append (.var 5) (.acons (.prim .mod (.acons (.prim .int1 (.acons (.prim .add (.acons (.prim .add (.acons (.prim .mul (.acons (.var 8) (.acons (.var 8) .anil))) (.acons (.prim .mul (.acons (.cst (.int 3)) (.acons (.var 8) .anil))) .anil))) (.acons (.var 6) .anil))) .anil)) (.acons (.cst (.int 1000003)) .anil))) .anil)))
    .nil)))
  .nil))
def cDT : CS :=
  (.seq (.asg (.nm 4) (.prim .list (.acons (.var 2) .anil)))
  (.seq (.asg (.nm 5) (.lst .anil))
  (.seq (.forr (.nm 6) (.r1 (.var 1)) cDB)
  (.seq (.expr (.prim .reverse (.acons (.var 5) .anil)))
  (.seq (.ret (.var 5))
  .nil)))))
def cDraws1 : CS :=
  (.seq (.asg (.nm 2) (.prim .add (.acons (.comp (.nm 3) (.var 0) none .anil (.prim .int1 (.acons (.var 3) .anil))) (.acons (.prim .mul (.acons (.lst (.acons (.cst (.int 0)) .anil)) (.acons (.prim .int1 (.acons (.prim .eq (.acons (.prim .len (.acons (.var 0) .anil)) (.acons (.cst (.int 0)) .anil))) .anil)) .anil))) .anil)))) cDT)
def cDraws2 : CS :=
  (.seq (.asg (.nm 2) (.comp (.nm 3) (.var 0) none .anil (.prim .int1 (.acons (.var 3) .anil))))
  (.seq (.ite (.prim .eq (.acons (.prim .len (.acons (.var 2) .anil)) (.acons (.cst (.int 0)) .anil)))
    (.seq (.expr (.meth .append (.var 2) (.acons (.cst (.int 0)) .anil)))
    .nil)
    .nil)
  cDT))
def cTake : CS :=
  (.seq (.ite (.prim .eq (.acons (.prim .len (.acons (.var 0) .anil)) (.acons (.cst (.int 0)) .anil)))
    (.seq (.ret (.cst (.int 0)))
    .nil)
    .nil)
  (.seq (.ret (.prim .mod (.acons (.prim .int1 (.acons (.prim .pop (.acons (.var 0) .anil)) .anil)) (.acons (.var 1) .anil))))
  .nil))
def cSame (f : Nat) : CS :=
  (.seq (.ite (.prim .is_ (.acons (.var 1) (.acons (.cst .non) .anil)))
    (.seq (.ret (.prim .is_ (.acons (.var 0) (.acons (.cst .non) .anil))))
    .nil)
    .nil)
  (.seq (.ite (.prim (.inst "bool") (.acons (.var 1) .anil))
    (.seq (.ret (.and_ (.prim (.inst "bool") (.acons (.var 0) .anil)) (.prim .eq (.acons (.var 0) (.acons (.var 1) .anil)))))
    .nil)
    .nil)
  (.seq (.ite (.prim (.inst "int") (.acons (.var 1) .anil))
    (.seq (.ret (.and_ (.prim (.inst "int") (.acons (.var 0) .anil)) (.and_ (.not_ (.prim (.inst "bool") (.acons (.var 0) .anil))) (.prim .eq (.acons (.var 0) (.acons (.var 1) .anil))))))
    .nil)
    .nil)
  (.seq (.ite (.prim (.inst "str") (.acons (.var 1) .anil))
    (.seq (.ret (.and_ (.prim (.inst "str") (.acons (.var 0) .anil)) (.prim .eq (.acons (.var 0) (.acons (.var 1) .anil)))))
    .nil)
    .nil)
  (.seq (.ite (.or_ (.not_ (.prim (.inst "tuple") (.acons (.var 0) .anil))) (.prim .ne (.acons (.prim .len (.acons (.var 0) .anil)) (.acons (.prim .len (.acons (.var 1) .anil)) .anil))))
    (.seq (.ret (.cst (.bl false)))
    .nil)
    .nil)
  (.seq (.forr (.nm 2) (.r1 (.prim .len (.acons (.var 1) .anil)))
    (.seq (.ite (.not_ (.call f (.acons (.prim .idx (.acons (.var 0) (.acons (.var 2) .anil))) (.acons (.prim .idx (.acons (.var 1) (.acons (.var 2) .anil))) .anil))))
      (.seq (.ret (.cst (.bl false)))
      .nil)
      .nil)
    .nil))
  (.seq (.ret (.cst (.bl true)))
  .nil)))))))
section
variable {gl : List (Str × D)} {F : List FD} {f d : Nat} {x1 x2 x3 x4 x5 x6 x7 x8 x9 x10 : Str} {st : Stmt}
theorem atI_ints {xs : List Int} {i : Int} {n : Nat} (h0 : 0 ≤ i) (h1 : i < n) (hl : xs.length = n) : atI (xs.map D.int) i = some (.int (xs.getD i.toNat 0)) := by
  unfold atI ixN
  rw [List.length_map, if_pos h0, if_pos (by omega)]
  have : i.toNat < xs.length := by omega
  simp [this, List.getD]
theorem take_spec {a : Nat} {xs : List Int} {m : Int} {h : Hd} {Q : PD} (hf : F[f]? = some ⟨x1, [x2, x3], [x4, x5], st, cTake⟩) (hm : 0 < m) (he : h[a]? = some (.lst (xs.map D.int))) (q : ∀ (r : Int) (ys : List Int), 0 ≤ r → r < m → Q (.int r) (h.set a (.lst (ys.map D.int)))) :
    wpCall gl F (d+1) f [.loc a, .int m] h Q := by
  refine call_of hf rfl ?_
  simp [startD, cTake, he]
  rcases List.eq_nil_or_concat xs with rfl | ⟨ys, y, rfl⟩
  · simp
    have := q 0 [] (Int.le_refl _) hm
    have e : h.set a (.lst ([].map D.int)) = h := by
      apply List.ext_getElem?
      intro i
      rw [List.getElem?_set]
      split
      · rename_i z; subst z
        split
        · exact he.symm
        · rename_i w; rw [List.getElem?_eq_none (by omega)]
      · rfl
    rw [e] at this
    refine nxt_of ?_
    simp
    exact gc_same this
  · simp
    refine nxt_of ?_
    simp [he]
    refine ⟨by omega, ?_⟩
    exact gc_same (q _ ys (Int.fmod_nonneg_of_pos _ hm) (Int.fmod_lt_of_pos _ hm))
def DI (s : List D) (m : Nat) (cs : List Int) (i : Nat) (τ : Sd) (h : Hd) : Prop := ∃ (rs ds : List Int) (t1 t2 t3 : Option D), τ = [some (.rl s), some (.int m), some (.loc 0), none, some (.loc 1), some (.loc 2), t1, t2, t3] ∧ h = [.lst (cs.map D.int), .lst (rs.map D.int), .lst (ds.map D.int)] ∧ rs.length = cs.length ∧ ds.length ≤ i
theorem DI.app {s : List D} {m : Nat} {cs rs ds : List Int} {i : Nat} {x : Int} {t1 t2 t3 : Option D} (hl : rs.length = cs.length) (hd : ds.length ≤ i) :
    DI s m cs (i + 1) [some (.rl s), some (.int m), some (.loc 0), none, some (.loc 1), some (.loc 2), t1, t2, t3] [.lst (cs.map D.int), .lst (rs.map D.int), .lst (ds.map D.int ++ [.int x])] :=
  ⟨rs, ds ++ [x], t1, t2, t3, rfl, by rw [List.map_append]; rfl, hl, by simpa using hd⟩
theorem DI.app2 {s : List D} {m n : Nat} {cs rs ds : List Int} {i : Nat} {x y : Int} {t1 t2 t3 : Option D} (hl : rs.length = cs.length) (hd : ds.length ≤ i) :
    DI s m cs (i + 1) [some (.rl s), some (.int m), some (.loc 0), none, some (.loc 1), some (.loc 2), t1, t2, t3] [.lst (cs.map D.int), .lst ((rs.map D.int).set n (.int y)), .lst (ds.map D.int ++ [.int x])] :=
  ⟨rs.set n y, ds ++ [x], t1, t2, t3, rfl, by rw [List.map_append, List.map_set]; rfl, by simpa using hl, by simpa using hd⟩
theorem draws_tail {cl : CallD} {s : List D} {m : Nat} {cs : List Int} {Q : PD} (hm : m ≤ 100000) (hc : cs ≠ []) (q : ∀ xs : List Int, Q (.tl (xs.map D.int)) []) :
    ws cl gl cDT (endZ [] Q) [some (.rl s), some (.int m), some (.loc 0), none, none, none, none, none, none] [.lst (cs.map D.int)] := by
  have hL : 0 < cs.length := List.length_pos_iff.mpr hc
  simp [cDT]
  refine nxt_of ?_
  simp
  refine nxt_of ?_
  simp
  refine ⟨by omega, ?_⟩
  refine for_range (DI s m cs)
    ⟨cs, [], _, _, _, rfl, rfl, rfl, Nat.le_refl _⟩ (fun _ => trivial) ?_ ?_
  · rintro i τ h k hi ⟨rs, ds, t1, t2, t3, rfl, rfl, hl, hd⟩ hk
    have hz : sizeLine > 200000 := by decide
    simp [cDB]
    refine ⟨by omega, ?_⟩
    refine nxt_of ?_
    have p0 : (0 : Int) ≤ Int.fmod i cs.length := Int.fmod_nonneg_of_pos _ (by omega)
    have p1 : Int.fmod i cs.length < cs.length := Int.fmod_lt_of_pos _ (by omega)
    generalize Int.fmod (i : Int) cs.length = w at p0 p1
    simp [atI_ints p0 p1 rfl, atI_ints p0 p1 hl]
    have e2 : ∀ (τ : Sd) (h : Hd), DI s m cs (i + 1) τ h → k τ h := fun τ h z => hk τ h z
    have rule2 : ∀ x : Int, mulOk x 48271 := fun x => .inl (.inr ⟨by decide, by decide⟩)
    have rule3 : mulOk (i : Int) 69621 := .inl (.inr ⟨by decide, by decide⟩)
    have elseB : ∀ y : Int, 0 ≤ y → y < 2147483647 → mulOk y y ∧ mulOk 3 y ∧ ds.length < sizeLine := fun y y0 y1 => ⟨.inl (.inr ⟨by omega, by omega⟩), .inl (.inr ⟨by omega, by omega⟩), by omega⟩
    have b0 : ∀ z : Int, 0 ≤ Int.fmod z 2147483647 := fun z => Int.fmod_nonneg_of_pos _ (by decide)
    have b1 : ∀ z : Int, Int.fmod z 2147483647 < 2147483647 := fun z => Int.fmod_lt_of_pos _ (by decide)
    have hn : ixN rs.length w = some w.toNat := by
      unfold ixN
      rw [if_pos p0, if_pos (by omega)]
    have elseP : ∀ Z2 : Endd, Z2.nx = k → nxt cl gl (.seq (.asg (.nm 8) (.prim .mod (.acons (.prim .int1 (.acons (.prim .add (.acons (.prim .add (.acons (.prim .mul (.acons (.prim .idx (.acons (.var 2) (.acons (.var 7) .anil))) (.acons (.cst (.int 48271)) .anil))) (.acons (.prim .mul (.acons (.var 6) (.acons (.cst (.int 69621)) .anil))) .anil))) (.acons (.cst (.int 11)) .anil))) .anil)) (.acons (.cst (.int 2147483647)) .anil))))
      (.seq (.expr (.meth .append (.var 5) (.acons (.prim .mod (.acons (.prim .int1 (.acons (.prim .add (.acons (.prim .add (.acons (.prim .mul (.acons (.var 8) (.acons (.var 8) .anil))) (.acons (.prim .mul (.acons (.cst (.int 3)) (.acons (.var 8) .anil))) .anil))) (.acons (.var 6) .anil))) .anil)) (.acons (.cst (.int 1000003)) .anil))) .anil))) .nil)) Z2 [some (.rl s), some (.int m), some (.loc 0), none, some (.loc 1), some (.loc 2), some (.int i), some (.int w), t3] [.lst (cs.map D.int), .lst (rs.map D.int), .lst (ds.map D.int)] := by
      intro Z2 hZ
      refine nxt_of ?_
      simp [atI_ints p0 p1 rfl, hZ]
      refine ⟨rule2 _, rule3, ?_⟩
      generalize hy : Int.fmod _ (2147483647 : Int) = y
      refine nxt_of ?_
      simp [hZ]
      obtain ⟨r1, r2, r3⟩ := elseB y (hy ▸ b0 _) (hy ▸ b1 _)
      exact ⟨r1, r2, by omega, e2 _ _ (DI.app hl hd)⟩
    split
    · split
      · refine nxt_of ?_
        simp [atI_ints p0 p1 hl]
        refine ⟨by omega, ?_⟩
        refine nxt_of ?_
        simp [atI_ints p0 p1 hl, hn]
        exact ⟨⟨by decide, by decide⟩, e2 _ _ (DI.app2 hl hd)⟩
      · exact elseP _ rfl
    · exact elseP _ rfl
  · rintro τ h ⟨rs, ds, t1, t2, t3, rfl, rfl, hl, hd⟩
    refine nxt_of ?_
    simp
    refine nxt_of ?_
    simp
    rw [← List.map_reverse]
    exact gc_tl (xs := ds.reverse.map D.int) (Nat.zero_le _) (by rfl) (cleans_ints _) gc_nil (q _)
theorem comp_ints {cl : CallD} {τ : Sd} {h : Hd} {ns : List Int} {Q : List D → Hd → Prop} (hl : ns.length ≤ 1000) (q : Q (ns.map D.int) h) (e : τ.length = 9) :
    compW (Iter.vals (ns.map D.int)).ok (.nm 3) yesT (wx cl gl (.prim .int1 (.acons (.var 3) .anil))).e τ Q (ns.map D.int) [] h := by
  have hz : sizeLine > 200000 := by decide
  refine comp_all (fun x => x) (by rw [List.length_map]; omega) trivial (fun x hx k w => ?_) (by rw [List.map_id']; exact q)
  obtain ⟨n, _, rfl⟩ := List.mem_map.mp hx
  have e3 : (τ.set 3 (some (D.int n)))[3]? = some (some (D.int n)) := by rw [List.getElem?_set_self (by omega)]
  simp [e3]
  exact w
theorem draws1_spec {ns : List Int} {m : Nat} {Q : PD} {ps N : List Str} (hf : F[f]? = some ⟨x1, ps, N, st, cDraws1⟩) (hp : ps.length = 2) (hN : N.length = 9) (hn : ns.length ≤ 63) (hm : m ≤ 100000) (q : ∀ xs : List Int, Q (.tl (xs.map D.int)) []) :
    wpCall gl F (d+1) f [.rl (ns.map D.int), .int m] [] Q := by
  have hz : sizeLine > 200000 := by decide
  refine call_of hf (by simp [hp]) ?_
  simp [startD, cDraws1, hN]
  refine comp_ints (by omega) ?_ rfl
  simp
  have tail := fun (cs : List Int) (h : cs ≠ []) => draws_tail (gl := gl) (cl := wpCall gl F d) (s := ns.map D.int) hm h q
  by_cases h0 : ns = []
  · subst h0
    simp
    refine ⟨by omega, by omega, by omega, nxt_of ?_⟩
    exact tail [0] (by simp)
  · have h1 : ns.length ≠ 0 := fun z => h0 (List.length_eq_zero_iff.mp z)
    simp [h0]
    refine ⟨by omega, by omega, nxt_of ?_⟩
    exact tail ns h0
theorem draws2_spec {ns : List Int} {m : Nat} {Q : PD} {ps N : List Str} (hf : F[f]? = some ⟨x1, ps, N, st, cDraws2⟩) (hp : ps.length = 2) (hN : N.length = 9) (hn : ns.length ≤ 63) (hm : m ≤ 100000) (q : ∀ xs : List Int, Q (.tl (xs.map D.int)) []) :
    wpCall gl F (d+1) f [.rl (ns.map D.int), .int m] [] Q := by
  have hz : sizeLine > 200000 := by decide
  refine call_of hf (by simp [hp]) ?_
  simp [startD, cDraws2, hN]
  refine comp_ints (by omega) ?_ rfl
  have tail := fun (cs : List Int) (h : cs ≠ []) => draws_tail (gl := gl) (cl := wpCall gl F d) (s := ns.map D.int) hm h q
  simp
  refine nxt_of ?_
  simp
  by_cases h0 : ns = []
  · subst h0
    simp
    refine nxt_of ?_
    simp
    refine ⟨by omega, nxt_of ?_⟩
    exact tail [0] (by simp)
  · simp [h0]
    exact nxt_of (tail ns h0)
/-! _law_same -/
theorem same_int {i j : Int} {h : Hd} {Q : PD} {ps N : List Str} (hf : F[f]? = some ⟨x1, ps, N, st, cSame f⟩) (hp : ps.length = 2) (hN : N.length = 3) (q : Q (.bl (decide (i = j))) h) : wpCall gl F (d+1) f [.int i, .int j] h Q := by
  refine call_of hf (by simp [hp]) ?_
  simp [startD, cSame, hN, isNonD]
  refine nxt_of ?_
  simp
  refine nxt_of ?_
  simp
  refine nxt_of ?_
  simp
  exact gc_same q
theorem same_bool {i j : Bool} {h : Hd} {Q : PD} {ps N : List Str} (hf : F[f]? = some ⟨x1, ps, N, st, cSame f⟩) (hp : ps.length = 2) (hN : N.length = 3) (q : Q (.bl (decide (i = j))) h) : wpCall gl F (d+1) f [.bl i, .bl j] h Q := by
  refine call_of hf (by simp [hp]) ?_
  simp [startD, cSame, hN, isNonD]
  refine nxt_of ?_
  simp
  refine nxt_of ?_
  simp
  exact gc_same q
theorem same_non {x : D} {h : Hd} {Q : PD} {ps N : List Str} (hf : F[f]? = some ⟨x1, ps, N, st, cSame f⟩) (hp : ps.length = 2) (hN : N.length = 3) (q : Q (.bl (isNonD x)) h) : wpCall gl F (d+1) f [x, .non] h Q := by
  refine call_of hf (by simp [hp]) ?_
  simp [startD, cSame, hN, isNonD]
  refine nxt_of ?_
  simp
  exact gc_same q
theorem same_str {i j : Str} {h : Hd} {Q : PD} {ps N : List Str} (hf : F[f]? = some ⟨x1, ps, N, st, cSame f⟩) (hp : ps.length = 2) (hN : N.length = 3) (q : Q (.bl (decide (i = j))) h) : wpCall gl F (d+1) f [.str i, .str j] h Q := by
  refine call_of hf (by simp [hp]) ?_
  simp [startD, cSame, hN, isNonD]
  refine nxt_of ?_
  simp
  refine nxt_of ?_
  simp
  refine nxt_of ?_
  simp
  refine nxt_of ?_
  simp
  exact gc_same q
/-- two tuples whose parts answer as they should -/
theorem same_tup {xs ys : List D} {h : Hd} {Q : PD} {ps N : List Str} (hf : F[f]? = some ⟨x1, ps, N, st, cSame f⟩) (hp : ps.length = 2) (hN : N.length = 3) (hl : xs.length = ys.length) (hs : ys.length ≤ 100000)
    (hx : ∀ (i : Nat) (x y : D), xs[i]? = some x → ys[i]? = some y → mat x h = (fun Q => Q x h) ∧ mat y h = (fun Q => Q y h) ∧ ∀ Q : PD, Q (.bl true) h → wpCall gl F d f [x, y] h Q)
    (q : Q (.bl true) h) : wpCall gl F (d+1) f [.tup xs, .tup ys] h Q := by
  have hz : sizeLine > 200000 := by decide
  refine call_of hf (by simp [hp]) ?_
  simp [startD, cSame, hN, isNonD]
  refine nxt_of ?_
  simp
  refine nxt_of ?_
  simp
  refine nxt_of ?_
  simp
  refine nxt_of ?_
  simp [hl]
  refine nxt_of ?_
  simp
  refine ⟨by omega, ?_⟩
  refine for_range (fun i τ h' => h' = h ∧ ∃ t, τ = [some (.tup xs), some (.tup ys), t]) ⟨rfl, _, rfl⟩ (fun _ => trivial) ?_ ?_
  · rintro i τ h' k hi ⟨rfl, t, rfl⟩ hk
    have e1 : atI xs ((0 : Int) + i) = some xs[i] := by
      unfold atI ixN
      rw [if_pos (by omega), if_pos (by omega)]
      simp
    have e2 : atI ys ((0 : Int) + i) = some ys[i] := by
      unfold atI ixN
      rw [if_pos (by omega), if_pos (by omega)]
      simp
    obtain ⟨m1, m2, hc⟩ := hx i xs[i] ys[i] (List.getElem?_eq_getElem (by omega)) (List.getElem?_eq_getElem hi)
    have e1 : atI xs (i : Int) = some xs[i] := by simpa using e1
    have e2 : atI ys (i : Int) = some ys[i] := by simpa using e2
    simp [e1, e2, m1, m2]
    refine hc _ ?_
    simp
    exact hk _ _ ⟨rfl, _, rfl⟩
  · rintro τ h' ⟨rfl, t, rfl⟩
    refine nxt_of ?_
    simp
    exact gc_same q
theorem same_pair {a b : Int} {h : Hd} {Q : PD} {ps N : List Str} (hf : F[f]? = some ⟨x1, ps, N, st, cSame f⟩) (hp : ps.length = 2) (hN : N.length = 3) (q : Q (.bl true) h) : wpCall gl F (d+2) f [.tup [.int a, .int b], .tup [.int a, .int b]] h Q := by
  refine same_tup hf hp hN rfl (by simp) (fun i x y h1 h2 => ?_) q
  rw [h1] at h2
  cases h2
  have hx : ∃ n, x = .int n := by
    match i, h1 with
    | 0, h1 => cases h1; exact ⟨_, rfl⟩
    | 1, h1 => cases h1; exact ⟨_, rfl⟩
  obtain ⟨n, rfl⟩ := hx
  exact ⟨rfl, rfl, fun Q q => same_int hf hp hN (by simpa using q)⟩
end
end Py

namespace Py
open PySem PySem.Spec PyProof.Rows L2

/-! ### more rules of reading -/
/-- a call's end: what it laid behind the heap goes -/
theorem gc_app {h l : Hd} {v : D} {Q : PD} (c : v.clean h.length) (q : Q v h) : Gc h v (h ++ l) Q := by
  refine .inr (.inl ⟨c, ⟨by simp, fun i o hi e => .inl ?_⟩, ?_⟩)
  · rw [List.getElem?_append_left hi] at e
    exact e
  · rw [List.take_left']
    · exact q
    · rfl
theorem gc_app_tl {h l : Hd} {k : Nat} {xs : List D} {Q : PD} (hk : h.length ≤ k) (e : (h ++ l)[k]? = some (.lst xs)) (c : D.cleans h.length xs) (q : Q (.tl xs) h) : Gc h (.loc k) (h ++ l) Q := by
  refine gc_tl hk e c ⟨by simp, fun i o hi e => .inl ?_⟩ ?_
  · rw [List.getElem?_append_left hi] at e
    exact e
  · rw [List.take_left']
    · exact q
    · rfl
section
variable {cl : CallD} {gl : List (Str × D)} {τ : Sd} {h : Hd} {Q : PD}
theorem look_app {h l : Hd} {a : Nat} {o : DO} (e : h[a]? = some o) : (h ++ l)[a]? = some o := by
  rw [List.getElem?_append_left (List.getElem?_eq_some_iff.mp e).1]; exact e
theorem look_here {h l : Hd} {o : DO} : (h ++ o :: l)[h.length]? = some o := by simp
@[simp] theorem look_next {h l : Hd} {o p : DO} : (h ++ o :: p :: l)[h.length + 1]? = some p := by simp
theorem seqOf_app {h l : Hd} {x : D} {xs : List D} (e : seqOf h x = some xs) : seqOf (h ++ l) x = some xs := by
  cases x with
  | loc a =>
    simp only [seqOf, lstOf] at e ⊢
    split at e
    · rename_i ys e2
      rw [look_app e2]
      exact e
    · cases e
  | _ => exact e
/-! lists of numbers, of truths -/
theorem blsOf_map {α : Type} (f : α → Bool) : ∀ as : List α, blsOf (as.map fun a => D.bl (f a)) = some (as.map f)
  | [] => rfl
  | a :: as => by simp only [List.map_cons, blsOf, blsOf_map f as]
theorem intsOf_map {α : Type} (f : α → Int) : ∀ as : List α, intsOf (as.map fun a => D.int (f a)) = some (as.map f)
  | [] => rfl
  | a :: as => by simp only [List.map_cons, intsOf, intsOf_map f as]
theorem intsOf_ints (ns : List Int) : intsOf (ns.map D.int) = some ns := by
  have := intsOf_map (fun i : Int => i) ns
  simpa using this
theorem x_any {α : Type} (f : α → Bool) {as : List α} : px .any [.tl (as.map fun a => D.bl (f a))] h Q = Q (.bl (as.any f)) h := by
  have e : blsAt h (.tl (as.map fun a => D.bl (f a))) = some (as.map f) := blsOf_map f as
  simp only [px_eq, wpP, anyW, e]
  rw [List.any_map]; rfl
theorem x_all {α : Type} (f : α → Bool) {as : List α} : px .all [.tl (as.map fun a => D.bl (f a))] h Q = Q (.bl (as.all f)) h := by
  have e : blsAt h (.tl (as.map fun a => D.bl (f a))) = some (as.map f) := blsOf_map f as
  simp only [px_eq, wpP, allW, e]
  rw [List.all_map]; rfl
theorem ints_at_of {x : D} {ns : List Int} (e : lstOf h x = some (ns.map D.int)) : intsAt h x = some ns := by
  unfold intsAt
  rw [e]
  exact intsOf_ints ns
theorem x_sum {x : D} {ns : List Int} (e : lstOf h x = some (ns.map D.int)) : px .sum [x] h Q = Q (.int ns.sum) h := by
  simp only [px_eq, wpP, sumW, ints_at_of e]
theorem x_sorted {x : D} {ns : List Int} (e : seqOf h x = some (ns.map D.int)) : px .sorted [x] h Q = Q (.tl ((sortI ns).map D.int)) h := by
  have e2 : intsSq h x = some ns := by
    unfold intsSq
    rw [e]
    exact intsOf_ints ns
  simp only [px_eq, wpP, sortedW, e2]
theorem seq_of_lst {x : D} {xs : List D} (e : lstOf h x = some xs) : seqOf h x = some xs := by
  cases x <;> first | exact e | cases e
theorem ints_sq_of {x : D} {ns : List Int} (e : seqOf h x = some (ns.map D.int)) : intsSq h x = some ns := by
  unfold intsSq
  rw [e]
  exact intsOf_ints ns
theorem x_sortedSetQ {x : D} {ns : List Int} (e : seqOf h x = some (ns.map D.int)) : px .sortedSet [x] h Q = (ns.length < 64 ∧ ∀ us : List Int, us.Pairwise (· < ·) → (∀ k, k ∈ us ↔ k ∈ ns) → Q (.tl (us.map D.int)) h) := by
  simp only [px_eq, wpP, sortedSetW, ints_sq_of e]
theorem x_lenSetQ {x : D} {ns : List Int} (e : seqOf h x = some (ns.map D.int)) : px .lenSet [x] h Q = (ns.length < 4000 ∧ ∀ us : List Int, us.Nodup → (∀ k, k ∈ us ↔ k ∈ ns) → Q (.int us.length) h) := by
  simp only [px_eq, wpP, lenSetW, ints_sq_of e]
theorem x_sortedSet {x : D} {ns : List Int} (e : lstOf h x = some (ns.map D.int)) : px .sortedSet [x] h Q = (ns.length < 64 ∧ ∀ us : List Int, us.Pairwise (· < ·) → (∀ k, k ∈ us ↔ k ∈ ns) → Q (.tl (us.map D.int)) h) := x_sortedSetQ (seq_of_lst e)
theorem x_lenSet {x : D} {ns : List Int} (e : lstOf h x = some (ns.map D.int)) : px .lenSet [x] h Q = (ns.length < 4000 ∧ ∀ us : List Int, us.Nodup → (∀ k, k ∈ us ↔ k ∈ ns) → Q (.int us.length) h) := x_lenSetQ (seq_of_lst e)
theorem x_lenSetT {ns : List Int} : px .lenSet [.tup (ns.map D.int)] h Q = (ns.length < 4000 ∧ ∀ us : List Int, us.Nodup → (∀ k, k ∈ us ↔ k ∈ ns) → Q (.int us.length) h) := x_lenSetQ rfl
theorem x_maxL {x : D} {ns : List Int} {m : Int} (e : lstOf h x = some (ns.map D.int)) (em : ns.max? = some m) : px .maxL [x] h Q = Q (.int m) h := by
  simp only [px_eq, wpP, maxLW, ints_at_of e, em]
theorem x_minL {x : D} {ns : List Int} {m : Int} (e : lstOf h x = some (ns.map D.int)) (em : ns.min? = some m) : px .minL [x] h Q = Q (.int m) h := by
  simp only [px_eq, wpP, minLW, ints_at_of e, em]
@[simp ↓] theorem x_max2 {i j : Int} : px .max2 [.int i, .int j] h Q = Q (.int (if j > i then j else i)) h := by (try simp only [px_eq]) <;> rfl
@[simp ↓] theorem x_min2 {i j : Int} : px .min2 [.int i, .int j] h Q = Q (.int (if j < i then j else i)) h := by (try simp only [px_eq]) <;> rfl
@[simp ↓] theorem x_mulTp {a : List D} {k : Int} : px .mul [.tup a, .int k] h Q = ((-(2 ^ 63) ≤ k ∧ k ≤ 1000 ∧ a.length ≤ 1000) ∧ Q (.tup (List.replicate k.toNat a).flatten) h) := by (try simp only [px_eq]) <;> rfl
@[simp ↓] theorem x_tupleTl {xs : List D} : px .tuple [.tl xs] h Q = Q (.tup xs) h := by (try simp only [px_eq]) <;> rfl
@[simp ↓] theorem x_tupleTp {xs : List D} : px .tuple [.tup xs] h Q = Q (.tup xs) h := by (try simp only [px_eq]) <;> rfl
@[simp ↓] theorem x_tupleRl {xs : List D} : px .tuple [.rl xs] h Q = Q (.tup xs) h := by (try simp only [px_eq]) <;> rfl
/-! parts of tuples -/
@[simp ↓] theorem x_revT {xs : List D} : px .rev [.tup xs] h Q = Q (.tup xs.reverse) h := by (try simp only [px_eq]) <;> rfl
@[simp ↓] theorem x_slHiT {xs : List D} {i : Int} : px .slHi [.tup xs, .int i] h Q = Q (.tup (cutD xs none (some i))) h := by (try simp only [px_eq]) <;> rfl
@[simp ↓] theorem x_slLoT {xs : List D} {i : Int} : px .slLo [.tup xs, .int i] h Q = Q (.tup (cutD xs (some i) none)) h := by (try simp only [px_eq]) <;> rfl
@[simp ↓] theorem x_slHiTl {xs : List D} {i : Int} : px .slHi [.tl xs, .int i] h Q = Q (.tl (cutD xs none (some i))) h := by (try simp only [px_eq]) <;> rfl
@[simp ↓] theorem x_slLoTl {xs : List D} {i : Int} : px .slLo [.tl xs, .int i] h Q = Q (.tl (cutD xs (some i) none)) h := by (try simp only [px_eq]) <;> rfl
theorem cut_take {xs : List D} {n : Nat} : cutD xs none (some (n : Int)) = xs.take n := by
  unfold cutD
  rw [HT.sIx_none, HT.sIx_nat, List.drop_zero, Nat.sub_zero]
  by_cases hn : n ≤ xs.length
  · rw [Nat.min_eq_left hn]
  · rw [Nat.min_eq_right (by omega), List.take_length, List.take_of_length_le (by omega)]
theorem cut_drop {xs : List D} {n : Nat} : cutD xs (some (n : Int)) none = xs.drop n := by
  unfold cutD
  rw [HT.sIx_none, HT.sIx_nat]
  by_cases hn : n ≤ xs.length
  · rw [Nat.min_eq_left hn, List.take_of_length_le (by rw [List.length_drop]; omega)]
  · rw [Nat.min_eq_right (by omega), Nat.sub_self, List.take_zero, List.drop_of_length_le (by omega)]
/-! membership -/
theorem x_in {x y : D} {xs : List D} (e : seqOf h y = some xs) (c : flatD x = true ∧ xs.all flatD = true ∧ ¬ (flatB x = true ∧ xs.any flatI = true) ∧ ¬ (flatI x = true ∧ xs.any flatB = true)) : px .in_ [x, y] h Q = Q (.bl (xs.any fun z => feq z x)) h := by
  have e2 : inW x y h (bo Q) = ((flatD x = true ∧ xs.all flatD = true ∧ ¬ (flatB x = true ∧ xs.any flatI = true) ∧ ¬ (flatI x = true ∧ xs.any flatB = true)) ∧ bo Q (xs.any fun z => feq z x) h) := by
    unfold inW; rw [e]
  simp only [px_eq, wpP, e2, bo]
  exact propext ⟨fun z => z.2, fun z => ⟨c, z⟩⟩
theorem x_notin {x y : D} {xs : List D} (e : seqOf h y = some xs) (c : flatD x = true ∧ xs.all flatD = true ∧ ¬ (flatB x = true ∧ xs.any flatI = true) ∧ ¬ (flatI x = true ∧ xs.any flatB = true)) : px .notin [x, y] h Q = Q (.bl (!xs.any fun z => feq z x)) h := by
  have e2 : inW x y h (bon Q) = ((flatD x = true ∧ xs.all flatD = true ∧ ¬ (flatB x = true ∧ xs.any flatI = true) ∧ ¬ (flatI x = true ∧ xs.any flatB = true)) ∧ bon Q (xs.any fun z => feq z x) h) := by
    unfold inW; rw [e]
  simp only [px_eq, wpP, e2, bon]
  exact propext ⟨fun z => z.2, fun z => ⟨c, z⟩⟩
/-- numbers among numbers -/
theorem in_ints {i : Int} {ns : List Int} : ((ns.map D.int).any fun z => feq z (.int i)) = decide (i ∈ ns) := by
  induction ns with
  | nil => rfl
  | cons n ns ih =>
    rw [List.map_cons, List.any_cons, ih]
    show (n == i || decide (i ∈ ns)) = _
    by_cases hn : n = i
    · subst hn; simp
    · have : (n == i) = false := by simpa using hn
      rw [this]
      simp [Ne.symm hn]
theorem flat_ints {i : Int} {ns : List Int} : flatD (.int i) = true ∧ (ns.map D.int).all flatD = true ∧ ¬ (flatB (.int i) = true ∧ (ns.map D.int).any flatI = true) ∧ ¬ (flatI (.int i) = true ∧ (ns.map D.int).any flatB = true) := by
  refine ⟨rfl, ?_, (fun z => by cases z.1), fun z => ?_⟩
  · rw [List.all_map]; exact List.all_eq_true.mpr fun _ _ => rfl
  · have := z.2
    rw [List.any_map] at this
    obtain ⟨_, _, w⟩ := List.any_eq_true.mp this
    cases w
theorem x_inI {i : Int} {y : D} {ns : List Int} (e : seqOf h y = some (ns.map D.int)) : px .in_ [.int i, y] h Q = Q (.bl (decide (i ∈ ns))) h := by
  rw [x_in e flat_ints, in_ints]
theorem x_notinI {i : Int} {y : D} {ns : List Int} (e : seqOf h y = some (ns.map D.int)) : px .notin [.int i, y] h Q = Q (.bl (!decide (i ∈ ns))) h := by
  rw [x_notin e flat_ints, in_ints]
/-! truths told or not -/
def tv : Option Bool → D
  | none => .non
  | some b => .bl b
theorem feq_tv (a b : Option Bool) : feq (tv a) (tv b) = decide (b = a) := by
  cases a with
  | none => cases b <;> rfl
  | some x => cases b with
    | none => rfl
    | some y => cases x <;> cases y <;> rfl
theorem x_inTv {o : Option Bool} {y : D} {os : List (Option Bool)} (e : seqOf h y = some (os.map tv)) : px .in_ [tv o, y] h Q = Q (.bl (decide (o ∈ os))) h := by
  rw [x_in e]
  · congr 2
    rw [List.any_map]
    induction os with
    | nil => rfl
    | cons p os ih =>
      rw [List.any_cons]
      have ih' : (os.any ((fun z => feq z (tv o)) ∘ tv)) = decide (o ∈ os) := by
        clear ih e
        induction os with
        | nil => rfl
        | cons p os ih => rw [List.any_cons, ih, Function.comp, feq_tv]; simp
      rw [ih', Function.comp, feq_tv]; simp
  · refine ⟨by cases o <;> rfl, ?_, fun z => ?_, fun z => ?_⟩
    · rw [List.all_map]; exact List.all_eq_true.mpr fun o _ => by cases o <;> rfl
    · have := z.2
      rw [List.any_map] at this
      obtain ⟨o, _, w⟩ := List.any_eq_true.mp this
      cases o <;> cases w
    · have := z.1
      cases o <;> cases this
theorem cleans_tv {n : Nat} : ∀ os : List (Option Bool), D.cleans n (os.map tv)
  | [] => trivial
  | o :: os => by simp only [List.map_cons, D.cleans]; exact ⟨by cases o <;> trivial, cleans_tv os⟩
@[simp] theorem isNon_tv {o : Option Bool} : isNonD (tv o) = decide (o = none) := by cases o <;> rfl
@[simp] theorem isBl_tv {o : Option Bool} {b : Bool} : isBlD b (tv o) = decide (o = some b) := by
  cases o with
  | none => rfl
  | some c => cases b <;> cases c <;> rfl
@[simp ↓] theorem m_tv {o : Option Bool} : mat (tv o) h Q = Q (tv o) h := by cases o <;> rfl
/-! equality of lists of numbers, of a tuple with the empty one -/
theorem pds_ints : ∀ ns : List Int, D.pds (ns.map D.int) = ns.map PyData.int
  | [] => rfl
  | n :: ns => by simp only [List.map_cons, D.pds, D.pd, pds_ints ns]
theorem pures_ints : ∀ ns : List Int, D.pures (ns.map D.int) = true
  | [] => rfl
  | n :: ns => by simp only [List.map_cons, D.pures, D.pure, pures_ints ns, Bool.and_self]
theorem can_ints : ∀ ns : List Int, PyData.canLayAll0 (ns.map PyData.int) = true
  | [] => rfl
  | n :: ns => by simp only [List.map_cons, PyData.canLayAll0, PyData.canLay0, can_ints ns, Bool.and_self]
theorem depth_ints : ∀ ns : List Int, PyData.depthAll (ns.map PyData.int) = 0
  | [] => rfl
  | n :: ns => by simp only [List.map_cons, PyData.depthAll, PyData.depth, depth_ints ns]; rfl
theorem eqv_ints : ∀ ns ms : List Int, PyData.eqvAll (ns.map PyData.int) (ms.map PyData.int) = decide (ns = ms)
  | [], [] => rfl
  | [], _ :: _ => by simp [PyData.eqvAll]
  | _ :: _, [] => by simp [PyData.eqvAll]
  | n :: ns, m :: ms => by
    simp only [List.map_cons, PyData.eqvAll, PyData.eqv, eqv_ints ns ms]
    by_cases h1 : n = m
    · subst h1; simp
    · simp [h1]
theorem shaped_list {ns : List Int} : SeqAt.shaped (.list (ns.map PyData.int)) = true := by
  simp [SeqAt.shaped, PyData.canLay0, can_ints, PyData.depth, depth_ints]
theorem shaped_tuple {ns : List Int} : SeqAt.shaped (.tuple (ns.map PyData.int)) = true := by
  simp [SeqAt.shaped, PyData.canLay0, can_ints, PyData.depth, depth_ints]
theorem snap_intsL {x : D} {ns : List Int} (e : lstOf h x = some (ns.map D.int)) : snap h x = some (.list (ns.map PyData.int)) := by
  have hp : x.pure = false := by cases x <;> first | (cases e; done) | rfl | skip
                                 all_goals (simp [lstOf] at e)
  unfold snap
  rw [hp, e]
  simp only [pures_ints, pds_ints]; rfl
theorem snap_intsT {ns : List Int} : snap h (.tup (ns.map D.int)) = some (.tuple (ns.map PyData.int)) := by
  unfold snap
  have hp : D.pure (.tup (ns.map D.int)) = true := by simp only [D.pure, pures_ints]
  rw [hp]
  simp only [D.pd, pds_ints]; rfl
theorem x_eqIL {x y : D} {ns ms : List Int} (e1 : lstOf h x = some (ns.map D.int)) (e2 : lstOf h y = some (ms.map D.int)) : px .eq [x, y] h Q = Q (.bl (decide (ns = ms))) h := by
  have e3 : ∀ R : Bool → Hd → Prop, eqW x y h R = R (decide (ns = ms)) h := by
    intro R
    have s1 := snap_intsL e1
    have s2 := snap_intsL e2
    cases x <;> first | (cases e1; done) | skip
    all_goals (simp only [eqW, s1, s2, shaped_list, PyData.eqv, eqv_ints, true_and])
  simp only [px_eq, wpP, e3, bo]
theorem eqW_IT {ns ms : List Int} (R : Bool → Hd → Prop) : eqW (.tup (ns.map D.int)) (.tup (ms.map D.int)) h R = R (decide (ns = ms)) h := by
  simp only [eqW, snap_intsT, shaped_tuple, PyData.eqv, eqv_ints, true_and]
theorem x_eqIT {ns ms : List Int} : px .eq [.tup (ns.map D.int), .tup (ms.map D.int)] h Q = Q (.bl (decide (ns = ms))) h := by simp only [px_eq, wpP, eqW_IT, bo]
theorem x_neIT {ns ms : List Int} : px .ne [.tup (ns.map D.int), .tup (ms.map D.int)] h Q = Q (.bl (!decide (ns = ms))) h := by simp only [px_eq, wpP, eqW_IT, bon]
theorem x_neIT0 {ns : List Int} : px .ne [.tup (ns.map D.int), .tup []] h Q = Q (.bl (!decide (ns = []))) h := x_neIT (ms := [])
end
/-! comprehensions -/
theorem comp_on {α : Type} {ok : Hd → Prop} {p : Pat} {elt : TEd} {τ : Sd} {Q : List D → Hd → Prop} {h : Hd} (f g : α → D) {as : List α} (hl : as.length ≤ sizeLine) (hok : ok h)
    (step : ∀ a ∈ as, ∀ (k : D → Hd → Prop), k (g a) h → bindW p (f a) τ fun τ' => elt τ' h fun y h2 => mat y h2 k)
    (q : Q (as.map g) h) : compW ok p yesT elt τ Q (as.map f) [] h := by
  have key : ∀ (as : List α) (acc : List D), as.length + acc.length ≤ sizeLine → (∀ a ∈ as, ∀ (k : D → Hd → Prop), k (g a) h → bindW p (f a) τ fun τ' => elt τ' h fun y h2 => mat y h2 k) → Q (acc ++ as.map g) h →
      compW ok p yesT elt τ Q (as.map f) acc h := by
    intro as
    induction as with
    | nil => intro acc _ _ q; simp only [List.map_nil, compW]; exact ⟨hok, by simpa using q⟩
    | cons a as ih =>
      intro acc hl step q
      rw [List.length_cons] at hl
      simp only [List.map_cons, compW, yesT, if_true]
      refine ⟨hok, step a List.mem_cons_self _ ⟨by omega, ih _ (by rw [List.length_append]; simp; omega) (fun b hb => step b (List.mem_cons_of_mem _ hb)) (by simpa using q)⟩⟩
  exact key as [] (by simpa using hl) step q
theorem comp_onf {α : Type} {ok : Hd → Prop} {p : Pat} {cond : TTd} {elt : TEd} {τ : Sd} {Q : List D → Hd → Prop} {h : Hd} (f g : α → D) (c : α → Bool) {as : List α} (hl : as.length ≤ sizeLine) (hok : ok h)
    (step : ∀ a ∈ as, ∀ (k : D → Hd → Prop) (s : Hd → Prop), (if c a = true then k (g a) h else s h) → bindW p (f a) τ fun τ' => cond τ' h fun b h1 => if b = true then elt τ' h1 fun y h2 => mat y h2 k else s h1)
    (q : Q ((as.filter c).map g) h) : compW ok p cond elt τ Q (as.map f) [] h := by
  have key : ∀ (as : List α) (acc : List D), as.length + acc.length ≤ sizeLine → (∀ a ∈ as, ∀ (k : D → Hd → Prop) (s : Hd → Prop), (if c a = true then k (g a) h else s h) → bindW p (f a) τ fun τ' => cond τ' h fun b h1 => if b = true then elt τ' h1 fun y h2 => mat y h2 k else s h1) →
      Q (acc ++ (as.filter c).map g) h → compW ok p cond elt τ Q (as.map f) acc h := by
    intro as
    induction as with
    | nil => intro acc _ _ q; simp only [List.map_nil, compW]; exact ⟨hok, by simpa using q⟩
    | cons a as ih =>
      intro acc hl step q
      rw [List.length_cons] at hl
      simp only [List.map_cons, compW]
      refine ⟨hok, step a List.mem_cons_self _ _ ?_⟩
      have st := fun b (hb : b ∈ as) => step b (List.mem_cons_of_mem _ hb)
      split
      · rename_i hc
        exact ⟨by omega, ih _ (by rw [List.length_append]; simp; omega) st (by simpa [hc] using q)⟩
      · rename_i hc
        exact ih _ (by omega) st (by simpa [hc] using q)
  exact key as [] (by simpa using hl) step q
/-- a comprehension that changes the heap -/
theorem comp_inv {ok : Hd → Prop} {p : Pat} {cond : TTd} {elt : TEd} {τ : Sd} {Q : List D → Hd → Prop} {h : Hd} (I : Nat → List D → Hd → Prop) {xs : List D} (hl : xs.length ≤ sizeLine) (h0 : I 0 [] h)
    (step : ∀ (i : Nat) (x : D) (acc : List D) (h : Hd) (k : D → Hd → Prop) (s : Hd → Prop), xs[i]? = some x → I i acc h → (∀ y h', I (i + 1) (acc ++ [y]) h' → k y h') → (∀ h', I (i + 1) acc h' → s h') →
      ok h ∧ bindW p x τ fun τ' => cond τ' h fun b h1 => if b = true then elt τ' h1 fun y h2 => mat y h2 k else s h1)
    (done : ∀ acc h, I xs.length acc h → ok h ∧ Q acc h) : compW ok p cond elt τ Q xs [] h := by
  have key : ∀ (m i : Nat) (acc : List D) (h : Hd), i + m = xs.length → acc.length ≤ i → I i acc h → compW ok p cond elt τ Q (xs.drop i) acc h := by
    intro m
    induction m with
    | zero =>
      intro i acc h e _ q
      have e : i = xs.length := by omega
      subst e
      rw [List.drop_length]
      simp only [compW]
      exact done acc h q
    | succ m ih =>
      intro i acc h e ha q
      have hi : i < xs.length := by omega
      rw [List.drop_eq_getElem_cons hi]
      simp only [compW]
      exact step i _ acc h _ _ (List.getElem?_eq_getElem hi) q (fun y h' z => ⟨by omega, ih (i + 1) _ h' (by omega) (by simpa using ha) z⟩) (fun h' z => ih (i + 1) _ h' (by omega) (by omega) z)
  exact key xs.length 0 [] h (by omega) (Nat.le_refl _) h0
theorem rangeD_map (lo : Int) (n : Nat) : rangeD lo n = (List.range n).map fun (i : Nat) => D.int (lo + (i : Int)) := rfl
/-! places -/
@[simp] theorem atI_zero {x : D} {xs : List D} : atI (x :: xs) 0 = some x := by simp [atI, ixN]
@[simp] theorem atI_one {x y : D} {xs : List D} : atI (x :: y :: xs) 1 = some y := by
  unfold atI ixN
  rw [if_pos (by omega), if_pos (by simp; omega)]; rfl
@[simp] theorem atI_two {x y z : D} {xs : List D} : atI (x :: y :: z :: xs) 2 = some z := by
  unfold atI ixN
  rw [if_pos (by omega), if_pos (by simp; omega)]; rfl
@[simp] theorem atI_three {x y z u : D} {xs : List D} : atI (x :: y :: z :: u :: xs) 3 = some u := by
  unfold atI ixN
  rw [if_pos (by omega), if_pos (by simp; omega)]; rfl
theorem atI_map {α : Type} {f : α → D} {as : List α} {i : Int} {a : α} (h0 : 0 ≤ i) (e : as[i.toNat]? = some a) : atI (as.map f) i = some (f a) := by
  have hi := (List.getElem?_eq_some_iff.mp e).1
  unfold atI ixN
  rw [if_pos h0, if_pos (by rw [List.length_map]; omega)]
  simp [e]
theorem atI_map_nat {α : Type} {f : α → D} {as : List α} {i : Nat} {a : α} (e : as[i]? = some a) : atI (as.map f) (i : Int) = some (f a) := atI_map (by omega) (by simpa using e)
end Py

namespace K31
open PySem PySem.Spec PyProof.Rows L2 Py
def top (i : Nat) : Stmt := PySem.Challenge.pw_sayswhy_k31_heights_rings_and_ways.main.body.getD i (.Pass ⟨0, 0, 0, 0⟩)
def b_lowered : CS :=
  (.seq (.asg (.nm 3) (.prim .list (.acons (.var 1) .anil)))
  (.seq (.asg (.nm 4) (.cst .non))
  (.seq (.forr (.nm 5) (.r1 (.prim .len (.acons (.var 0) .anil)))
    (.seq (.asg (.tp [6, 7, 8]) (.prim .idx (.acons (.var 0) (.acons (.var 5) .anil))))
    (.seq (.ite (.and_ (.prim .isnot (.acons (.prim .idx (.acons (.var 3) (.acons (.var 7) .anil))) (.acons (.cst .non) .anil))) (.or_ (.prim .is_ (.acons (.prim .idx (.acons (.var 3) (.acons (.var 6) .anil))) (.acons (.cst .non) .anil))) (.prim .lt (.acons (.prim .add (.acons (.prim .idx (.acons (.var 3) (.acons (.var 7) .anil))) (.acons (.var 8) .anil))) (.acons (.prim .idx (.acons (.var 3) (.acons (.var 6) .anil))) .anil)))))
      (.seq (.setIdx (.var 3) (.var 6) (.prim .add (.acons (.prim .idx (.acons (.var 3) (.acons (.var 7) .anil))) (.acons (.var 8) .anil))))
      (.seq (.setIdx (.var 2) (.var 6) (.var 5))
      (.seq (.asg (.nm 4) (.var 6))
      .nil)))
      .nil)
    .nil)))
  (.seq (.ret (.tup (.acons (.var 3) (.acons (.var 4) .anil))))
  .nil))))
abbrev d_lowered : FD := ⟨"lowered", ["rows", "heights", "came"], ["rows", "heights", "came", "found", "last", "number", "x", "y", "c"], top 1, b_lowered⟩
def b_settled_heights : CS :=
  (.seq (.asgs [3, 4] (.acons (.prim .list (.acons (.var 2) .anil)) (.acons (.prim .dnew .anil) .anil)))
  (.seq (.asg (.tp [3, 5]) (.call 0 (.acons (.var 1) (.acons (.var 3) (.acons (.var 4) .anil)))))
  (.seq (.asg (.nm 6) (.cst (.int 1)))
  (.seq (.whil (.and_ (.prim .isnot (.acons (.var 5) (.acons (.cst .non) .anil))) (.prim .le (.acons (.var 6) (.acons (.var 0) .anil))))
    (.seq (.asg (.tp [3, 5]) (.call 0 (.acons (.var 1) (.acons (.var 3) (.acons (.var 4) .anil)))))
    (.seq (.aug 6 .add (.cst (.int 1)))
    .nil)))
  (.seq (.ret (.tup (.acons (.var 3) (.acons (.var 4) (.acons (.var 5) .anil)))))
  .nil)))))
abbrev d_settled_heights : FD := ⟨"settled_heights", ["n", "rows", "first"], ["n", "rows", "first", "heights", "came", "last", "times"], top 2, b_settled_heights⟩
def b_heights_for : CS :=
  (.seq (.asg (.tp [2, 3, 4]) (.call 1 (.acons (.var 0) (.acons (.var 1) (.acons (.prim .mul (.acons (.lst (.acons (.cst (.int 0)) .anil)) (.acons (.var 0) .anil))) .anil)))))
  (.seq (.ret (.ife (.prim .is_ (.acons (.var 4) (.acons (.cst .non) .anil))) (.prim .tuple (.acons (.var 2) .anil)) (.cst .non)))
  .nil))
abbrev d_heights_for : FD := ⟨"heights_for", ["n", "rows"], ["n", "rows", "heights", "came", "last"], top 3, b_heights_for⟩
def b_keeps_row : CS :=
  (.seq (.asg (.tp [2, 3, 4]) (.var 1))
  (.seq (.ret (.prim .le (.acons (.prim .sub (.acons (.prim .idx (.acons (.var 0) (.acons (.var 2) .anil))) (.acons (.prim .idx (.acons (.var 0) (.acons (.var 3) .anil))) .anil))) (.acons (.var 4) .anil))))
  .nil))
abbrev d_keeps_row : FD := ⟨"keeps_row", ["heights", "row"], ["heights", "row", "x", "y", "c"], top 4, b_keeps_row⟩
def b_judge_heights : CS :=
  (.seq (.ret (.and_ (.prim .eq (.acons (.prim .len (.acons (.var 2) .anil)) (.acons (.var 0) .anil))) (.prim .all (.acons (.comp (.nm 3) (.var 1) none .anil (.call 3 (.acons (.var 2) (.acons (.var 3) .anil)))) .anil))))
  .nil)
abbrev d_judge_heights : FD := ⟨"judge_heights", ["n", "rows", "heights"], ["n", "rows", "heights", "row"], top 5, b_judge_heights⟩
def b_ring_from : CS :=
  (.seq (.asg (.nm 3) (.var 2))
  (.seq (.forr (.nm 4) (.r1 (.prim .dlen (.acons (.var 1) .anil)))
    (.seq (.asg (.nm 3) (.prim .idx (.acons (.prim .idx (.acons (.var 0) (.acons (.prim .dget (.acons (.var 1) (.acons (.var 3) .anil))) .anil))) (.acons (.cst (.int 1)) .anil))))
    .nil))
  (.seq (.asg (.nm 5) (.lst (.acons (.prim .dget (.acons (.var 1) (.acons (.var 3) .anil))) .anil)))
  (.seq (.asg (.nm 6) (.prim .idx (.acons (.prim .idx (.acons (.var 0) (.acons (.prim .dget (.acons (.var 1) (.acons (.var 3) .anil))) .anil))) (.acons (.cst (.int 1)) .anil))))
  (.seq (.whil (.prim .ne (.acons (.var 6) (.acons (.var 3) .anil)))
    (.seq (.expr (.meth .append (.var 5) (.acons (.prim .dget (.acons (.var 1) (.acons (.var 6) .anil))) .anil)))
    (.seq (.asg (.nm 6) (.prim .idx (.acons (.prim .idx (.acons (.var 0) (.acons (.prim .dget (.acons (.var 1) (.acons (.var 6) .anil))) .anil))) (.acons (.cst (.int 1)) .anil))))
    .nil)))
  (.seq (.ret (.prim .tuple (.acons (.var 5) .anil)))
  .nil))))))
abbrev d_ring_from : FD := ⟨"ring_from", ["rows", "came", "x"], ["rows", "came", "x", "here", "step", "ring", "there"], top 6, b_ring_from⟩
def b_ring_of : CS :=
  (.seq (.asg (.tp [2, 3, 4]) (.call 1 (.acons (.var 0) (.acons (.var 1) (.acons (.prim .mul (.acons (.lst (.acons (.cst (.int 0)) .anil)) (.acons (.var 0) .anil))) .anil)))))
  (.seq (.ret (.ife (.prim .isnot (.acons (.var 4) (.acons (.cst .non) .anil))) (.call 5 (.acons (.var 1) (.acons (.var 3) (.acons (.var 4) .anil)))) (.cst .non)))
  .nil))
abbrev d_ring_of : FD := ⟨"ring_of", ["n", "rows"], ["n", "rows", "heights", "came", "last"], top 7, b_ring_of⟩
def b_follows_on : CS :=
  (.seq (.ret (.prim .all (.acons (.comp (.nm 2) (.r1 (.prim .sub (.acons (.prim .len (.acons (.var 1) .anil)) (.acons (.cst (.int 1)) .anil)))) none .anil (.prim .eq (.acons (.prim .idx (.acons (.prim .idx (.acons (.var 0) (.acons (.prim .idx (.acons (.var 1) (.acons (.var 2) .anil))) .anil))) (.acons (.cst (.int 1)) .anil))) (.acons (.prim .idx (.acons (.prim .idx (.acons (.var 0) (.acons (.prim .idx (.acons (.var 1) (.acons (.prim .add (.acons (.var 2) (.acons (.cst (.int 1)) .anil))) .anil))) .anil))) (.acons (.cst (.int 0)) .anil))) .anil)))) .anil)))
  .nil)
abbrev d_follows_on : FD := ⟨"follows_on", ["rows", "way"], ["rows", "way", "at"], top 8, b_follows_on⟩
def b_sum_along : CS :=
  (.seq (.ret (.prim .sum (.acons (.comp (.nm 2) (.var 1) none .anil (.prim .idx (.acons (.prim .idx (.acons (.var 0) (.acons (.var 2) .anil))) (.acons (.cst (.int 2)) .anil)))) .anil)))
  .nil)
abbrev d_sum_along : FD := ⟨"sum_along", ["rows", "way"], ["rows", "way", "number"], top 9, b_sum_along⟩
def b_judge_ring : CS :=
  (.seq (.ite (.or_ (.prim .eq (.acons (.prim .len (.acons (.var 2) .anil)) (.acons (.cst (.int 0)) .anil))) (.or_ (.prim .ne (.acons (.prim .lenSet (.acons (.var 2) .anil)) (.acons (.prim .len (.acons (.var 2) .anil)) .anil))) (.not_ (.prim .all (.acons (.comp (.nm 3) (.var 2) none .anil (.chain .le .lt (.cst (.int 0)) (.var 3) (.prim .len (.acons (.var 1) .anil)))) .anil)))))
    (.seq (.ret (.cst (.bl false)))
    .nil)
    .nil)
  (.seq (.ite (.or_ (.not_ (.call 7 (.acons (.var 1) (.acons (.var 2) .anil)))) (.prim .ne (.acons (.prim .idx (.acons (.prim .idx (.acons (.var 1) (.acons (.prim .idx (.acons (.var 2) (.acons (.prim .neg (.acons (.cst (.int 1)) .anil)) .anil))) .anil))) (.acons (.cst (.int 1)) .anil))) (.acons (.prim .idx (.acons (.prim .idx (.acons (.var 1) (.acons (.prim .idx (.acons (.var 2) (.acons (.cst (.int 0)) .anil))) .anil))) (.acons (.cst (.int 0)) .anil))) .anil))))
    (.seq (.ret (.cst (.bl false)))
    .nil)
    .nil)
  (.seq (.ret (.prim .lt (.acons (.call 8 (.acons (.var 1) (.acons (.var 2) .anil))) (.acons (.cst (.int 0)) .anil))))
  .nil)))
abbrev d_judge_ring : FD := ⟨"judge_ring", ["n", "rows", "ring"], ["n", "rows", "ring", "number"], top 10, b_judge_ring⟩
def b_bounded_from : CS :=
  (.seq (.asg (.nm 3) (.prim .mul (.acons (.lst (.acons (.cst .non) .anil)) (.acons (.var 0) .anil))))
  (.seq (.setIdx (.var 3) (.var 2) (.cst (.int 0)))
  (.seq (.asg (.tp [4, 5, 6]) (.call 1 (.acons (.var 0) (.acons (.var 1) (.acons (.var 3) .anil)))))
  (.seq (.ret (.tup (.acons (.var 4) (.acons (.var 5) .anil))))
  .nil))))
abbrev d_bounded_from : FD := ⟨"bounded_from", ["n", "rows", "y"], ["n", "rows", "y", "first", "heights", "came", "last"], top 11, b_bounded_from⟩
def b_most_difference : CS :=
  (.seq (.ret (.prim .idx (.acons (.prim .idx (.acons (.call 10 (.acons (.var 0) (.acons (.var 1) (.acons (.var 3) .anil)))) (.acons (.cst (.int 0)) .anil))) (.acons (.var 2) .anil))))
  .nil)
abbrev d_most_difference : FD := ⟨"most_difference", ["n", "rows", "x", "y"], ["n", "rows", "x", "y"], top 12, b_most_difference⟩
def b_why_at_most : CS :=
  (.seq (.asg (.tp [4, 5]) (.call 10 (.acons (.var 0) (.acons (.var 1) (.acons (.var 3) .anil)))))
  (.seq (.ite (.prim .is_ (.acons (.prim .idx (.acons (.var 4) (.acons (.var 2) .anil))) (.acons (.cst .non) .anil)))
    (.seq (.ret (.cst .non))
    .nil)
    .nil)
  (.seq (.asg (.nm 6) (.tup .anil))
  (.seq (.asg (.nm 7) (.var 2))
  (.seq (.whil (.prim .ne (.acons (.var 7) (.acons (.var 3) .anil)))
    (.seq (.aug 6 .add (.tup (.acons (.prim .dget (.acons (.var 5) (.acons (.var 7) .anil))) .anil)))
    (.seq (.asg (.nm 7) (.prim .idx (.acons (.prim .idx (.acons (.var 1) (.acons (.prim .dget (.acons (.var 5) (.acons (.var 7) .anil))) .anil))) (.acons (.cst (.int 1)) .anil))))
    .nil)))
  (.seq (.ret (.var 6))
  .nil))))))
abbrev d_why_at_most : FD := ⟨"why_at_most", ["n", "rows", "x", "y"], ["n", "rows", "x", "y", "heights", "came", "way", "here"], top 13, b_why_at_most⟩
def b_is_needless : CS :=
  (.seq (.asg (.tp [3, 4, 5]) (.prim .idx (.acons (.var 1) (.acons (.var 2) .anil))))
  (.seq (.asg (.nm 6) (.call 11 (.acons (.var 0) (.acons (.prim .add (.acons (.prim .slHi (.acons (.var 1) (.acons (.var 2) .anil))) (.acons (.prim .slLo (.acons (.var 1) (.acons (.prim .add (.acons (.var 2) (.acons (.cst (.int 1)) .anil))) .anil))) .anil))) (.acons (.var 3) (.acons (.var 4) .anil))))))
  (.seq (.ret (.and_ (.prim .isnot (.acons (.var 6) (.acons (.cst .non) .anil))) (.prim .le (.acons (.var 6) (.acons (.var 5) .anil)))))
  .nil)))
abbrev d_is_needless : FD := ⟨"is_needless", ["n", "rows", "number"], ["n", "rows", "number", "x", "y", "c", "most"], top 14, b_is_needless⟩
def b_needless_rows : CS :=
  (.seq (.ret (.prim .tuple (.acons (.comp (.nm 2) (.r1 (.prim .len (.acons (.var 1) .anil))) (some ()) (.call 13 (.acons (.var 0) (.acons (.var 1) (.acons (.var 2) .anil)))) (.var 2)) .anil)))
  .nil)
abbrev d_needless_rows : FD := ⟨"needless_rows", ["n", "rows"], ["n", "rows", "number"], top 15, b_needless_rows⟩
def b__law_draws : CS :=
  (.seq (.asg (.nm 2) (.comp (.nm 3) (.var 0) none .anil (.prim .int1 (.acons (.var 3) .anil))))
  (.seq (.ite (.prim .eq (.acons (.prim .len (.acons (.var 2) .anil)) (.acons (.cst (.int 0)) .anil)))
    (.seq (.expr (.meth .append (.var 2) (.acons (.cst (.int 0)) .anil)))
    .nil)
    .nil)
  (.seq (.asg (.nm 4) (.prim .list (.acons (.var 2) .anil)))
  (.seq (.asg (.nm 5) (.lst .anil))
  (.seq (.forr (.nm 6) (.r1 (.var 1))
    (.seq (.asg (.nm 7) (.prim .mod (.acons (.var 6) (.acons (.prim .len (.acons (.var 2) .anil)) .anil))))
    (.seq (.ite (.and_ (.prim .ge (.acons (.prim .idx (.acons (.var 2) (.acons (.var 7) .anil))) (.acons (.prim .pow (.acons (.cst (.int 10)) (.acons (.cst (.int 18)) .anil))) .anil))) (.prim .gt (.acons (.prim .idx (.acons (.var 4) (.acons (.var 7) .anil))) (.acons (.cst (.int 0)) .anil))))
      (.seq (.expr (.meth .append (.var 5) (.acons (.prim .mod (.acons (.prim .int1 (.acons (.prim .idx (.acons (.var 4) (.acons (.var 7) .anil))) .anil)) (.acons (.cst (.int 1000)) .anil))) .anil)))
      (.seq (.setIdx (.var 4) (.var 7) (.prim .fdiv (.acons (.prim .idx (.acons (.var 4) (.acons (.var 7) .anil))) (.acons (.cst (.int 1000)) .anil))))
      .nil))
      (.seq (.asg (.nm 8) (.prim .mod (.acons (.prim .int1 (.acons (.prim .add (.acons (.prim .add (.acons (.prim .mul (.acons (.prim .idx (.acons (.var 2) (.acons (.var 7) .anil))) (.acons (.cst (.int 48271)) .anil))) (.acons (.prim .mul (.acons (.var 6) (.acons (.cst (.int 69621)) .anil))) .anil))) (.acons (.cst (.int 11)) .anil))) .anil)) (.acons (.cst (.int 2147483647)) .anil))))
      (.seq (.expr (.meth .append (.var 5) (.acons (.prim .mod (.acons (.prim .int1 (.acons (.prim .add (.acons (.prim .add (.acons (.prim .mul (.acons (.var 8) (.acons (.var 8) .anil))) (.acons (.prim .mul (.acons (.cst (.int 3)) (.acons (.var 8) .anil))) .anil))) (.acons (.var 6) .anil))) .anil)) (.acons (.cst (.int 1000003)) .anil))) .anil)))
      .nil)))
    .nil)))
  (.seq (.expr (.prim .reverse (.acons (.var 5) .anil)))
  (.seq (.ret (.var 5))
  .nil)))))))
abbrev d__law_draws : FD := ⟨"_law_draws", ["script", "many"], ["script", "many", "cells", "cell", "rest", "drawn", "k", "at", "once"], top 17, b__law_draws⟩
def b__law_take : CS :=
  (.seq (.ite (.prim .eq (.acons (.prim .len (.acons (.var 0) .anil)) (.acons (.cst (.int 0)) .anil)))
    (.seq (.ret (.cst (.int 0)))
    .nil)
    .nil)
  (.seq (.ret (.prim .mod (.acons (.prim .int1 (.acons (.prim .pop (.acons (.var 0) .anil)) .anil)) (.acons (.var 1) .anil))))
  .nil))
abbrev d__law_take : FD := ⟨"_law_take", ["draws", "many"], ["draws", "many"], top 18, b__law_take⟩
def b__law_cell : CS :=
  (.seq (.ite (.prim .eq (.acons (.prim .len (.acons (.var 0) .anil)) (.acons (.cst (.int 0)) .anil)))
    (.seq (.ret (.cst (.int 0)))
    .nil)
    .nil)
  (.seq (.asg (.nm 2) (.prim .int1 (.acons (.prim .idx (.acons (.var 0) (.acons (.call 16 (.acons (.var 1) (.acons (.prim .len (.acons (.var 0) .anil)) .anil))) .anil))) .anil)))
  (.seq (.ret (.prim .mul (.acons (.prim .mod (.acons (.prim .abs (.acons (.var 2) .anil)) (.acons (.prim .pow (.acons (.cst (.int 10)) (.acons (.cst (.int 60)) .anil))) .anil))) (.acons (.prim .idx (.acons (.lst (.acons (.cst (.int 1)) (.acons (.prim .neg (.acons (.cst (.int 1)) .anil)) .anil))) (.acons (.prim .int1 (.acons (.prim .lt (.acons (.var 2) (.acons (.cst (.int 0)) .anil))) .anil)) .anil))) .anil))))
  .nil)))
abbrev d__law_cell : FD := ⟨"_law_cell", ["script", "draws"], ["script", "draws", "cell"], top 19, b__law_cell⟩
def b__law_same : CS :=
  (.seq (.ite (.prim .is_ (.acons (.var 1) (.acons (.cst .non) .anil)))
    (.seq (.ret (.prim .is_ (.acons (.var 0) (.acons (.cst .non) .anil))))
    .nil)
    .nil)
  (.seq (.ite (.prim (.inst "bool") (.acons (.var 1) .anil))
    (.seq (.ret (.and_ (.prim (.inst "bool") (.acons (.var 0) .anil)) (.prim .eq (.acons (.var 0) (.acons (.var 1) .anil)))))
    .nil)
    .nil)
  (.seq (.ite (.prim (.inst "int") (.acons (.var 1) .anil))
    (.seq (.ret (.and_ (.prim (.inst "int") (.acons (.var 0) .anil)) (.and_ (.not_ (.prim (.inst "bool") (.acons (.var 0) .anil))) (.prim .eq (.acons (.var 0) (.acons (.var 1) .anil))))))
    .nil)
    .nil)
  (.seq (.ite (.prim (.inst "str") (.acons (.var 1) .anil))
    (.seq (.ret (.and_ (.prim (.inst "str") (.acons (.var 0) .anil)) (.prim .eq (.acons (.var 0) (.acons (.var 1) .anil)))))
    .nil)
    .nil)
  (.seq (.ite (.or_ (.not_ (.prim (.inst "tuple") (.acons (.var 0) .anil))) (.prim .ne (.acons (.prim .len (.acons (.var 0) .anil)) (.acons (.prim .len (.acons (.var 1) .anil)) .anil))))
    (.seq (.ret (.cst (.bl false)))
    .nil)
    .nil)
  (.seq (.forr (.nm 2) (.r1 (.prim .len (.acons (.var 1) .anil)))
    (.seq (.ite (.not_ (.call 18 (.acons (.prim .idx (.acons (.var 0) (.acons (.var 2) .anil))) (.acons (.prim .idx (.acons (.var 1) (.acons (.var 2) .anil))) .anil))))
      (.seq (.ret (.cst (.bl false)))
      .nil)
      .nil)
    .nil))
  (.seq (.ret (.cst (.bl true)))
  .nil)))))))
abbrev d__law_same : FD := ⟨"_law_same", ["actual", "due"], ["actual", "due", "k"], top 20, b__law_same⟩
def b__law_rows : CS :=
  (.seq (.asg (.nm 3) (.lst .anil))
  (.seq (.forr (.nm 4) (.r1 (.prim .mul (.acons (.call 16 (.acons (.var 0) (.acons (.prim .add (.acons (.var 2) (.acons (.cst (.int 1)) .anil))) .anil))) (.acons (.prim .int1 (.acons (.prim .gt (.acons (.var 1) (.acons (.cst (.int 0)) .anil))) .anil)) .anil))))
    (.seq (.expr (.meth .append (.var 3) (.acons (.tup (.acons (.call 16 (.acons (.var 0) (.acons (.var 1) .anil))) (.acons (.call 16 (.acons (.var 0) (.acons (.var 1) .anil))) (.acons (.prim .sub (.acons (.call 16 (.acons (.var 0) (.acons (.cst (.int 10)) .anil))) (.acons (.cst (.int 3)) .anil))) .anil)))) .anil)))
    .nil))
  (.seq (.ret (.prim .tuple (.acons (.var 3) .anil)))
  .nil)))
abbrev d__law_rows : FD := ⟨"_law_rows", ["draws", "n", "most"], ["draws", "n", "most", "found", "k"], top 21, b__law_rows⟩
def b__law_bounds : CS :=
  (.seq (.asg (.nm 2) (.comp (.nm 4) (.r1 (.var 0)) none .anil (.comp (.nm 3) (.r1 (.var 0)) none .anil (.prim .idx (.acons (.lst (.acons (.prim .pow (.acons (.cst (.int 10)) (.acons (.cst (.int 40)) .anil))) (.acons (.cst (.int 0)) .anil))) (.acons (.prim .int1 (.acons (.prim .eq (.acons (.var 4) (.acons (.var 3) .anil))) .anil)) .anil))))))
  (.seq (.forr (.tp [4, 3, 5]) (.var 1)
    (.seq (.setIdx (.prim .idx (.acons (.var 2) (.acons (.var 4) .anil))) (.var 3) (.prim .min2 (.acons (.prim .idx (.acons (.prim .idx (.acons (.var 2) (.acons (.var 4) .anil))) (.acons (.var 3) .anil))) (.acons (.var 5) .anil))))
    .nil))
  (.seq (.forr (.nm 6) (.r1 (.var 0))
    (.seq (.asg (.nm 2) (.comp (.nm 4) (.r1 (.var 0)) none .anil (.comp (.nm 3) (.r1 (.var 0)) none .anil (.prim .min2 (.acons (.prim .idx (.acons (.prim .idx (.acons (.var 2) (.acons (.var 4) .anil))) (.acons (.var 3) .anil))) (.acons (.prim .add (.acons (.prim .idx (.acons (.prim .idx (.acons (.var 2) (.acons (.var 4) .anil))) (.acons (.var 6) .anil))) (.acons (.prim .idx (.acons (.prim .idx (.acons (.var 2) (.acons (.var 6) .anil))) (.acons (.var 3) .anil))) .anil))) .anil))))))
    .nil))
  (.seq (.ret (.var 2))
  .nil))))
abbrev d__law_bounds : FD := ⟨"_law_bounds", ["n", "rows"], ["n", "rows", "far", "y", "x", "c", "by"], top 22, b__law_bounds⟩
def b__law_can : CS :=
  (.seq (.ret (.prim .eq (.acons (.prim .len (.acons (.comp (.nm 1) (.r1 (.prim .len (.acons (.var 0) .anil))) (some ()) (.prim .lt (.acons (.prim .idx (.acons (.prim .idx (.acons (.var 0) (.acons (.var 1) .anil))) (.acons (.var 1) .anil))) (.acons (.cst (.int 0)) .anil))) (.var 1)) .anil)) (.acons (.cst (.int 0)) .anil))))
  .nil)
abbrev d__law_can : FD := ⟨"_law_can", ["far"], ["far", "at"], top 23, b__law_can⟩
def b__law_keeps : CS :=
  (.seq (.ret (.prim .eq (.acons (.prim .len (.acons (.comp (.nm 2) (.var 0) (some ()) (.prim .gt (.acons (.prim .sub (.acons (.prim .idx (.acons (.var 1) (.acons (.prim .idx (.acons (.var 2) (.acons (.cst (.int 0)) .anil))) .anil))) (.acons (.prim .idx (.acons (.var 1) (.acons (.prim .idx (.acons (.var 2) (.acons (.cst (.int 1)) .anil))) .anil))) .anil))) (.acons (.prim .idx (.acons (.var 2) (.acons (.cst (.int 2)) .anil))) .anil))) (.var 2)) .anil)) (.acons (.cst (.int 0)) .anil))))
  .nil)
abbrev d__law_keeps : FD := ⟨"_law_keeps", ["rows", "heights"], ["rows", "heights", "row"], top 24, b__law_keeps⟩
def b__law_is_way : CS :=
  (.seq (.asg (.nm 4) (.var 2))
  (.seq (.forr (.nm 5) (.var 1)
    (.seq (.ite (.or_ (.prim .notin (.acons (.var 5) (.acons (.prim .lrng (.acons (.prim .len (.acons (.var 0) .anil)) .anil)) .anil))) (.prim .ne (.acons (.prim .idx (.acons (.prim .idx (.acons (.var 0) (.acons (.var 5) .anil))) (.acons (.cst (.int 0)) .anil))) (.acons (.var 4) .anil))))
      (.seq (.ret (.cst (.bl false)))
      .nil)
      .nil)
    (.seq (.asg (.nm 4) (.prim .idx (.acons (.prim .idx (.acons (.var 0) (.acons (.var 5) .anil))) (.acons (.cst (.int 1)) .anil))))
    .nil)))
  (.seq (.ret (.prim .eq (.acons (.var 4) (.acons (.var 3) .anil))))
  .nil)))
abbrev d__law_is_way : FD := ⟨"_law_is_way", ["rows", "way", "x", "y"], ["rows", "way", "x", "y", "here", "own"], top 25, b__law_is_way⟩
def b__law_is_ring : CS :=
  (.seq (.ite (.or_ (.prim .eq (.acons (.prim .len (.acons (.var 1) .anil)) (.acons (.cst (.int 0)) .anil))) (.or_ (.prim .ne (.acons (.prim .lenSet (.acons (.var 1) .anil)) (.acons (.prim .len (.acons (.var 1) .anil)) .anil))) (.prim .notin (.acons (.prim .idx (.acons (.var 1) (.acons (.cst (.int 0)) .anil))) (.acons (.prim .lrng (.acons (.prim .len (.acons (.var 0) .anil)) .anil)) .anil)))))
    (.seq (.ret (.cst (.bl false)))
    .nil)
    .nil)
  (.seq (.asg (.nm 2) (.prim .idx (.acons (.prim .idx (.acons (.var 0) (.acons (.prim .idx (.acons (.var 1) (.acons (.cst (.int 0)) .anil))) .anil))) (.acons (.cst (.int 0)) .anil))))
  (.seq (.ret (.and_ (.call 23 (.acons (.var 0) (.acons (.var 1) (.acons (.var 2) (.acons (.var 2) .anil))))) (.prim .lt (.acons (.prim .sum (.acons (.comp (.nm 3) (.var 1) none .anil (.prim .idx (.acons (.prim .idx (.acons (.var 0) (.acons (.var 3) .anil))) (.acons (.cst (.int 2)) .anil)))) .anil)) (.acons (.cst (.int 0)) .anil)))))
  .nil)))
abbrev d__law_is_ring : FD := ⟨"_law_is_ring", ["rows", "ring"], ["rows", "ring", "begin", "own"], top 26, b__law_is_ring⟩
def b__law_are_judged : CS :=
  (.seq (.asg (.nm 4) (.lst (.acons (.var 3) (.acons (.prim .rev (.acons (.var 3) .anil)) (.acons (.prim .slLo (.acons (.var 3) (.acons (.cst (.int 1)) .anil))) (.acons (.prim .add (.acons (.var 3) (.acons (.var 3) .anil))) (.acons (.prim .add (.acons (.var 3) (.acons (.tup (.acons (.prim .len (.acons (.var 2) .anil)) .anil)) .anil))) (.acons (.tup (.acons (.prim .neg (.acons (.cst (.int 1)) .anil)) .anil)) .anil))))))))
  (.seq (.forr (.nm 5) (.r1 (.prim .mul (.acons (.cst (.int 4)) (.acons (.prim .int1 (.acons (.prim .gt (.acons (.prim .len (.acons (.var 2) .anil)) (.acons (.cst (.int 0)) .anil))) .anil)) .anil))))
    (.seq (.expr (.meth .append (.var 4) (.acons (.prim .tuple (.acons (.comp (.nm 6) (.r1 (.prim .add (.acons (.cst (.int 1)) (.acons (.call 16 (.acons (.var 0) (.acons (.cst (.int 3)) .anil))) .anil)))) none .anil (.call 16 (.acons (.var 0) (.acons (.prim .len (.acons (.var 2) .anil)) .anil)))) .anil)) .anil)))
    .nil))
  (.seq (.ite (.prim .gt (.acons (.prim .len (.acons (.comp (.nm 6) (.var 4) (some ()) (.not_ (.call 18 (.acons (.call 9 (.acons (.var 1) (.acons (.var 2) (.acons (.var 6) .anil)))) (.acons (.call 24 (.acons (.var 2) (.acons (.var 6) .anil))) .anil)))) (.var 6)) .anil)) (.acons (.cst (.int 0)) .anil)))
    (.seq (.ret (.cst (.bl false)))
    .nil)
    .nil)
  (.seq (.forr (.nm 5) (.r1 (.cst (.int 3)))
    (.seq (.asg (.nm 7) (.prim .tuple (.acons (.comp (.nm 8) (.r1 (.var 1)) none .anil (.prim .sub (.acons (.call 16 (.acons (.var 0) (.acons (.cst (.int 9)) .anil))) (.acons (.cst (.int 6)) .anil)))) .anil)))
    (.seq (.ite (.or_ (.not_ (.call 18 (.acons (.call 4 (.acons (.var 1) (.acons (.var 2) (.acons (.var 7) .anil)))) (.acons (.call 22 (.acons (.var 2) (.acons (.var 7) .anil))) .anil)))) (.prim .isnot (.acons (.call 4 (.acons (.var 1) (.acons (.var 2) (.acons (.prim .add (.acons (.var 7) (.acons (.tup (.acons (.cst (.int 0)) .anil)) .anil))) .anil)))) (.acons (.cst (.bl false)) .anil))))
      (.seq (.ret (.cst (.bl false)))
      .nil)
      .nil)
    .nil)))
  (.seq (.ret (.cst (.bl true)))
  .nil)))))
abbrev d__law_are_judged : FD := ⟨"_law_are_judged", ["draws", "n", "rows", "ring"], ["draws", "n", "rows", "ring", "rings", "k", "own", "heights", "at"], top 27, b__law_are_judged⟩
def b__law_are_told : CS :=
  (.seq (.asg (.nm 3) (.call 20 (.acons (.var 1) (.acons (.var 2) .anil))))
  (.seq (.asgs [4, 5] (.acons (.call 2 (.acons (.var 1) (.acons (.var 2) .anil))) (.acons (.call 6 (.acons (.var 1) (.acons (.var 2) .anil))) .anil)))
  (.seq (.ite (.not_ (.call 21 (.acons (.var 3) .anil)))
    (.seq (.ret (.and_ (.prim .is_ (.acons (.var 4) (.acons (.cst .non) .anil))) (.and_ (.prim (.inst "tuple") (.acons (.var 5) .anil)) (.and_ (.call 24 (.acons (.var 2) (.acons (.var 5) .anil))) (.call 25 (.acons (.var 0) (.acons (.var 1) (.acons (.var 2) (.acons (.var 5) .anil)))))))))
    .nil)
    .nil)
  (.seq (.asg (.nm 6) (.prim .tuple (.acons (.comp (.nm 8) (.r1 (.var 1)) none .anil (.prim .minL (.acons (.prim .add (.acons (.lst (.acons (.cst (.int 0)) .anil)) (.acons (.comp (.nm 7) (.r1 (.var 1)) none .anil (.prim .idx (.acons (.prim .idx (.acons (.var 3) (.acons (.var 8) .anil))) (.acons (.var 7) .anil)))) .anil))) .anil))) .anil)))
  (.seq (.ite (.or_ (.prim .isnot (.acons (.var 5) (.acons (.cst .non) .anil))) (.or_ (.not_ (.call 18 (.acons (.var 4) (.acons (.var 6) .anil)))) (.or_ (.not_ (.call 22 (.acons (.var 2) (.acons (.var 6) .anil)))) (.not_ (.call 25 (.acons (.var 0) (.acons (.var 1) (.acons (.var 2) (.acons (.tup .anil) .anil)))))))))
    (.seq (.ret (.cst (.bl false)))
    .nil)
    .nil)
  (.seq (.forr (.nm 8) (.r1 (.var 1))
    (.seq (.asg (.nm 9) (.prim .add (.acons (.prim .add (.acons (.prim .slHi (.acons (.var 6) (.acons (.var 8) .anil))) (.acons (.tup (.acons (.prim .add (.acons (.prim .idx (.acons (.var 6) (.acons (.var 8) .anil))) (.acons (.cst (.int 1)) .anil))) .anil)) .anil))) (.acons (.prim .slLo (.acons (.var 6) (.acons (.prim .add (.acons (.var 8) (.acons (.cst (.int 1)) .anil))) .anil))) .anil))))
    (.seq (.ite (.not_ (.call 18 (.acons (.call 4 (.acons (.var 1) (.acons (.var 2) (.acons (.var 9) .anil)))) (.acons (.call 22 (.acons (.var 2) (.acons (.var 9) .anil))) .anil))))
      (.seq (.ret (.cst (.bl false)))
      .nil)
      .nil)
    (.seq (.forr (.nm 7) (.r1 (.var 1))
      (.seq (.asgs [10, 11] (.acons (.call 11 (.acons (.var 1) (.acons (.var 2) (.acons (.var 8) (.acons (.var 7) .anil))))) (.acons (.call 12 (.acons (.var 1) (.acons (.var 2) (.acons (.var 8) (.acons (.var 7) .anil))))) .anil)))
      (.seq (.ite (.prim .gt (.acons (.prim .idx (.acons (.prim .idx (.acons (.var 3) (.acons (.var 8) .anil))) (.acons (.var 7) .anil))) (.acons (.prim .pow (.acons (.cst (.int 10)) (.acons (.cst (.int 35)) .anil))) .anil)))
        (.seq (.ite (.or_ (.prim .isnot (.acons (.var 10) (.acons (.cst .non) .anil))) (.prim .isnot (.acons (.var 11) (.acons (.cst .non) .anil))))
          (.seq (.ret (.cst (.bl false)))
          .nil)
          .nil)
        .nil)
        (.seq (.ite (.or_ (.not_ (.call 18 (.acons (.var 10) (.acons (.prim .idx (.acons (.prim .idx (.acons (.var 3) (.acons (.var 8) .anil))) (.acons (.var 7) .anil))) .anil)))) (.or_ (.not_ (.prim (.inst "tuple") (.acons (.var 11) .anil))) (.or_ (.not_ (.call 23 (.acons (.var 2) (.acons (.var 11) (.acons (.var 8) (.acons (.var 7) .anil)))))) (.or_ (.prim .ne (.acons (.prim .sum (.acons (.comp (.nm 12) (.var 11) none .anil (.prim .idx (.acons (.prim .idx (.acons (.var 2) (.acons (.var 12) .anil))) (.acons (.cst (.int 2)) .anil)))) .anil)) (.acons (.var 10) .anil))) (.and_ (.prim .eq (.acons (.var 8) (.acons (.var 7) .anil))) (.prim .ne (.acons (.var 11) (.acons (.tup .anil) .anil))))))))
          (.seq (.ret (.cst (.bl false)))
          .nil)
          .nil)
        .nil))
      .nil)))
    .nil))))
  (.seq (.asg (.nm 13) (.lst .anil))
  (.seq (.forr (.nm 14) (.r1 (.prim .len (.acons (.var 2) .anil)))
    (.seq (.ite (.prim .le (.acons (.prim .idx (.acons (.prim .idx (.acons (.call 20 (.acons (.var 1) (.acons (.prim .add (.acons (.prim .slHi (.acons (.var 2) (.acons (.var 14) .anil))) (.acons (.prim .slLo (.acons (.var 2) (.acons (.prim .add (.acons (.var 14) (.acons (.cst (.int 1)) .anil))) .anil))) .anil))) .anil))) (.acons (.prim .idx (.acons (.prim .idx (.acons (.var 2) (.acons (.var 14) .anil))) (.acons (.cst (.int 0)) .anil))) .anil))) (.acons (.prim .idx (.acons (.prim .idx (.acons (.var 2) (.acons (.var 14) .anil))) (.acons (.cst (.int 1)) .anil))) .anil))) (.acons (.prim .idx (.acons (.prim .idx (.acons (.var 2) (.acons (.var 14) .anil))) (.acons (.cst (.int 2)) .anil))) .anil)))
      (.seq (.expr (.meth .append (.var 13) (.acons (.var 14) .anil)))
      .nil)
      .nil)
    .nil))
  (.seq (.ret (.call 18 (.acons (.call 14 (.acons (.var 1) (.acons (.var 2) .anil))) (.acons (.prim .tuple (.acons (.var 13) .anil)) .anil))))
  .nil)))))))))
abbrev d__law_are_told : FD := ⟨"_law_are_told", ["draws", "n", "rows"], ["draws", "n", "rows", "far", "told", "ring", "due", "y", "x", "higher", "most", "way", "own", "needless", "at"], top 28, b__law_are_told⟩
def b_law : CS :=
  (.seq (.asg (.nm 1) (.call 15 (.acons (.var 0) (.acons (.cst (.int 200)) .anil))))
  (.seq (.asg (.nm 2) (.call 16 (.acons (.var 1) (.acons (.cst (.int 7)) .anil))))
  (.seq (.asg (.nm 3) (.call 19 (.acons (.var 1) (.acons (.var 2) (.acons (.cst (.int 9)) .anil)))))
  (.seq (.asg (.nm 4) (.prim .add (.acons (.cst (.int 1)) (.acons (.prim .mod (.acons (.prim .abs (.acons (.call 17 (.acons (.var 0) (.acons (.var 1) .anil))) .anil)) (.acons (.prim .pow (.acons (.cst (.int 10)) (.acons (.cst (.int 20)) .anil))) .anil))) .anil))))
  (.seq (.asg (.nm 5) (.prim .tuple (.acons (.comp (.tp [6, 7, 8]) (.var 3) none .anil (.tup (.acons (.var 6) (.acons (.var 7) (.acons (.prim .mul (.acons (.var 8) (.acons (.var 4) .anil))) .anil))))) .anil)))
  (.seq (.asg (.nm 9) (.tup (.acons (.tup (.acons (.cst (.int 0)) (.acons (.cst (.int 1)) (.acons (.cst (.int 2)) .anil)))) (.acons (.tup (.acons (.cst (.int 1)) (.acons (.cst (.int 2)) (.acons (.prim .neg (.acons (.cst (.int 1)) .anil)) .anil)))) (.acons (.tup (.acons (.cst (.int 0)) (.acons (.cst (.int 2)) (.acons (.cst (.int 3)) .anil)))) (.acons (.tup (.acons (.cst (.int 2)) (.acons (.cst (.int 3)) (.acons (.cst (.int 0)) .anil)))) (.acons (.tup (.acons (.cst (.int 3)) (.acons (.cst (.int 0)) (.acons (.cst (.int 4)) .anil)))) .anil)))))))
  (.seq (.asg (.nm 10) (.tup (.acons (.tup (.acons (.cst (.int 0)) (.acons (.cst (.int 1)) (.acons (.cst (.int 2)) .anil)))) (.acons (.tup (.acons (.cst (.int 0)) (.acons (.cst (.int 2)) (.acons (.prim .neg (.acons (.cst (.int 1)) .anil)) .anil)))) (.acons (.tup (.acons (.cst (.int 1)) (.acons (.cst (.int 1)) (.acons (.prim .neg (.acons (.cst (.int 1)) .anil)) .anil)))) .anil)))))
  (.seq (.forr (.tp [11, 12]) (.lst (.acons (.tup (.acons (.var 2) (.acons (.var 3) .anil))) (.acons (.tup (.acons (.var 2) (.acons (.var 5) .anil))) (.acons (.tup (.acons (.var 2) (.acons (.prim .slHi (.acons (.var 3) (.acons (.cst (.int 3)) .anil))) .anil))) (.acons (.tup (.acons (.cst (.int 4)) (.acons (.var 9) .anil))) (.acons (.tup (.acons (.cst (.int 3)) (.acons (.var 10) .anil))) (.acons (.tup (.acons (.cst (.int 4)) (.acons (.prim .add (.acons (.prim .slHi (.acons (.var 9) (.acons (.cst (.int 4)) .anil))) (.acons (.tup (.acons (.tup (.acons (.cst (.int 3)) (.acons (.cst (.int 0)) (.acons (.prim .neg (.acons (.cst (.int 2)) .anil)) .anil)))) .anil)) .anil))) .anil))) (.acons (.tup (.acons (.cst (.int 0)) (.acons (.tup .anil) .anil))) (.acons (.tup (.acons (.cst (.int 2)) (.acons (.tup (.acons (.tup (.acons (.cst (.int 0)) (.acons (.cst (.int 0)) (.acons (.cst (.int 0)) .anil)))) (.acons (.tup (.acons (.cst (.int 1)) (.acons (.cst (.int 1)) (.acons (.cst (.int 3)) .anil)))) .anil))) .anil))) (.acons (.tup (.acons (.cst (.int 3)) (.acons (.tup (.acons (.tup (.acons (.cst (.int 0)) (.acons (.cst (.int 1)) (.acons (.prim .neg (.acons (.cst (.int 5)) .anil)) .anil)))) (.acons (.tup (.acons (.cst (.int 1)) (.acons (.cst (.int 0)) (.acons (.cst (.int 5)) .anil)))) (.acons (.tup (.acons (.cst (.int 2)) (.acons (.cst (.int 1)) (.acons (.cst (.int 100)) .anil)))) .anil)))) .anil))) .anil))))))))))
    (.seq (.ite (.not_ (.call 26 (.acons (.var 1) (.acons (.var 11) (.acons (.var 12) .anil)))))
      (.seq (.ret (.cst (.bl false)))
      .nil)
      .nil)
    .nil))
  (.seq (.ite (.or_ (.not_ (.call 18 (.acons (.call 2 (.acons (.cst (.int 4)) (.acons (.var 9) .anil))) (.acons (.tup (.acons (.cst (.int 0)) (.acons (.prim .neg (.acons (.cst (.int 1)) .anil)) (.acons (.cst (.int 0)) (.acons (.cst (.int 0)) .anil))))) .anil)))) (.or_ (.not_ (.call 18 (.acons (.call 11 (.acons (.cst (.int 4)) (.acons (.var 9) (.acons (.cst (.int 0)) (.acons (.cst (.int 3)) .anil))))) (.acons (.cst (.int 1)) .anil)))) (.not_ (.call 18 (.acons (.call 12 (.acons (.cst (.int 4)) (.acons (.var 9) (.acons (.cst (.int 0)) (.acons (.cst (.int 3)) .anil))))) (.acons (.tup (.acons (.cst (.int 0)) (.acons (.cst (.int 1)) (.acons (.cst (.int 3)) .anil)))) .anil))))))
    (.seq (.ret (.cst (.bl false)))
    .nil)
    .nil)
  (.seq (.ite (.not_ (.call 18 (.acons (.call 14 (.acons (.cst (.int 4)) (.acons (.var 9) .anil))) (.acons (.tup (.acons (.cst (.int 2)) .anil)) .anil))))
    (.seq (.ret (.cst (.bl false)))
    .nil)
    .nil)
  (.seq (.ite (.or_ (.not_ (.call 18 (.acons (.call 6 (.acons (.cst (.int 3)) (.acons (.var 10) .anil))) (.acons (.tup (.acons (.cst (.int 2)) .anil)) .anil)))) (.or_ (.prim .isnot (.acons (.call 2 (.acons (.cst (.int 3)) (.acons (.var 10) .anil))) (.acons (.cst .non) .anil))) (.not_ (.call 18 (.acons (.call 9 (.acons (.cst (.int 4)) (.acons (.var 9) (.acons (.tup (.acons (.cst (.int 0)) (.acons (.cst (.int 1)) (.acons (.cst (.int 3)) (.acons (.cst (.int 4)) .anil))))) .anil)))) (.acons (.cst (.bl false)) .anil))))))
    (.seq (.ret (.cst (.bl false)))
    .nil)
    .nil)
  (.seq (.ite (.not_ (.call 18 (.acons (.call 9 (.acons (.cst (.int 3)) (.acons (.tup (.acons (.tup (.acons (.cst (.int 0)) (.acons (.cst (.int 1)) (.acons (.prim .neg (.acons (.cst (.int 2)) .anil)) .anil)))) (.acons (.tup (.acons (.cst (.int 1)) (.acons (.cst (.int 2)) (.acons (.cst (.int 1)) .anil)))) (.acons (.tup (.acons (.cst (.int 2)) (.acons (.cst (.int 0)) (.acons (.cst (.int 0)) .anil)))) .anil)))) (.acons (.tup (.acons (.cst (.int 1)) (.acons (.cst (.int 2)) (.acons (.cst (.int 0)) .anil)))) .anil)))) (.acons (.cst (.bl true)) .anil))))
    (.seq (.ret (.cst (.bl false)))
    .nil)
    .nil)
  (.seq (.ite (.or_ (.not_ (.call 18 (.acons (.call 9 (.acons (.cst (.int 2)) (.acons (.tup (.acons (.tup (.acons (.cst (.int 0)) (.acons (.cst (.int 1)) (.acons (.prim .neg (.acons (.cst (.int 2)) .anil)) .anil)))) (.acons (.tup (.acons (.cst (.int 1)) (.acons (.cst (.int 0)) (.acons (.cst (.int 3)) .anil)))) .anil))) (.acons (.tup (.acons (.cst (.int 0)) (.acons (.cst (.int 1)) (.acons (.cst (.int 0)) .anil)))) .anil)))) (.acons (.cst (.bl false)) .anil)))) (.not_ (.call 18 (.acons (.call 9 (.acons (.cst (.int 2)) (.acons (.tup (.acons (.tup (.acons (.cst (.int 0)) (.acons (.cst (.int 1)) (.acons (.prim .neg (.acons (.cst (.int 2)) .anil)) .anil)))) .anil)) (.acons (.tup (.acons (.cst (.int 0)) .anil)) .anil)))) (.acons (.cst (.bl false)) .anil)))))
    (.seq (.ret (.cst (.bl false)))
    .nil)
    .nil)
  (.seq (.ite (.not_ (.call 18 (.acons (.call 9 (.acons (.cst (.int 2)) (.acons (.tup (.acons (.tup (.acons (.cst (.int 0)) (.acons (.cst (.int 1)) (.acons (.prim .neg (.acons (.cst (.int 2)) .anil)) .anil)))) (.acons (.tup (.acons (.cst (.int 1)) (.acons (.cst (.int 0)) (.acons (.cst (.int 2)) .anil)))) .anil))) (.acons (.tup (.acons (.cst (.int 0)) (.acons (.cst (.int 1)) .anil))) .anil)))) (.acons (.cst (.bl false)) .anil))))
    (.seq (.ret (.cst (.bl false)))
    .nil)
    .nil)
  (.seq (.ite (.or_ (.prim .isnot (.acons (.call 11 (.acons (.cst (.int 4)) (.acons (.prim .slHi (.acons (.var 9) (.acons (.cst (.int 2)) .anil))) (.acons (.cst (.int 2)) (.acons (.cst (.int 0)) .anil))))) (.acons (.cst .non) .anil))) (.not_ (.call 18 (.acons (.call 4 (.acons (.cst (.int 2)) (.acons (.tup (.acons (.tup (.acons (.cst (.int 0)) (.acons (.cst (.int 1)) (.acons (.cst (.int 3)) .anil)))) .anil)) (.acons (.tup (.acons (.cst (.int 3)) (.acons (.cst (.int 0)) .anil))) .anil)))) (.acons (.cst (.bl true)) .anil)))))
    (.seq (.ret (.cst (.bl false)))
    .nil)
    .nil)
  (.seq (.ret (.and_ (.call 18 (.acons (.call 2 (.acons (.cst (.int 2)) (.acons (.tup (.acons (.tup (.acons (.cst (.int 0)) (.acons (.cst (.int 1)) (.acons (.prim .neg (.acons (.cst (.int 3)) .anil)) .anil)))) .anil)) .anil))) (.acons (.tup (.acons (.prim .neg (.acons (.cst (.int 3)) .anil)) (.acons (.cst (.int 0)) .anil))) .anil))) (.call 18 (.acons (.call 14 (.acons (.cst (.int 2)) (.acons (.tup (.acons (.tup (.acons (.cst (.int 0)) (.acons (.cst (.int 1)) (.acons (.cst (.int 4)) .anil)))) (.acons (.tup (.acons (.cst (.int 0)) (.acons (.cst (.int 1)) (.acons (.cst (.int 4)) .anil)))) .anil))) .anil))) (.acons (.tup (.acons (.cst (.int 0)) (.acons (.cst (.int 1)) .anil))) .anil)))))
  .nil))))))))))))))))
abbrev d_law : FD := ⟨"law", ["script"], ["script", "draws", "n", "rows", "scale", "wide", "x", "y", "c", "few", "late", "size", "some"], top 29, b_law⟩
def gl : List (Str × D) := []
def F : List FD := [d_lowered, d_settled_heights, d_heights_for, d_keeps_row, d_judge_heights, d_ring_from, d_ring_of, d_follows_on, d_sum_along, d_judge_ring, d_bounded_from, d_most_difference, d_why_at_most, d_is_needless, d_needless_rows, d__law_draws, d__law_take, d__law_cell, d__law_same, d__law_rows, d__law_bounds, d__law_can, d__law_keeps, d__law_is_way, d__law_is_ring, d__law_are_judged, d__law_are_told, d_law]
def T : Tab := ⟨["lowered", "settled_heights", "heights_for", "keeps_row", "judge_heights", "ring_from", "ring_of", "follows_on", "sum_along", "judge_ring", "bounded_from", "most_difference", "why_at_most", "is_needless", "needless_rows", "_law_draws", "_law_take", "_law_cell", "_law_same", "_law_rows", "_law_bounds", "_law_can", "_law_keeps", "_law_is_way", "_law_is_ring", "_law_are_judged", "_law_are_told", "law"], gl, ["list", "range", "len", "tuple", "all", "sum", "set", "int", "abs", "isinstance", "bool", "str", "min"], []⟩

end K31

namespace K31
/-! ### ways by rows -/
abbrev Row := Nat × Nat × Int
inductive Wy (rows : List Row) : Nat → Nat → Nat → Int → Prop
  | nil (x : Nat) : Wy rows x x 0 0
  | cons {x z y l : Nat} {c s : Int} : (x, z, c) ∈ rows → Wy rows z y l s → Wy rows x y (l + 1) (c + s)
section
variable {rows : List Row}
theorem Wy.trans {x z y l m : Nat} {s r : Int} (a : Wy rows x z l s) (b : Wy rows z y m r) : Wy rows x y (l + m) (s + r) := by
  induction a with
  | nil x => rw [Nat.zero_add, Int.zero_add]; exact b
  | cons h _ ih => rw [Nat.add_right_comm, Int.add_assoc]; exact .cons h (ih b)
theorem Wy.bd {C : Int} (hC : ∀ r ∈ rows, -C ≤ r.2.2 ∧ r.2.2 ≤ C) {x y l : Nat} {s : Int} (a : Wy rows x y l s) : -(l * C) ≤ s ∧ s ≤ l * C := by
  induction a with
  | nil x => simp
  | cons h _ ih =>
    have := hC _ h
    simp only at this
    rw [Int.natCast_add, Int.add_mul]
    simp only [Int.natCast_one, Int.one_mul]
    omega
/-! pointers -/
inductive Pt (rows : List Row) (cm : Nat → Option Nat) : Nat → Nat → Nat → Int → Prop
  | nil (x : Nat) : Pt rows cm x x 0 0
  | cons {x z y l k : Nat} {c s : Int} : cm x = some k → rows[k]? = some (x, z, c) → Pt rows cm z y l s → Pt rows cm x y (l + 1) (c + s)
theorem Pt.wy {cm : Nat → Option Nat} {x y l : Nat} {s : Int} (a : Pt rows cm x y l s) : Wy rows x y l s := by
  induction a with
  | nil x => exact .nil x
  | cons h e _ ih => exact .cons (List.mem_of_getElem? e) ih
def sat (h : Nat → Option Int) (r : Row) : Prop := ∀ v, h r.2.1 = some v → ∃ u, h r.1 = some u ∧ u ≤ v + r.2.2
theorem sat_way {h : Nat → Option Int} (hs : ∀ r ∈ rows, sat h r) {x y l : Nat} {s : Int} (a : Wy rows x y l s) {v : Int} (hv : h y = some v) : ∃ u, h x = some u ∧ u ≤ s + v := by
  induction a with
  | nil x => exact ⟨v, hv, by omega⟩
  | cons h' _ ih =>
    obtain ⟨u, hu, le⟩ := ih hv
    obtain ⟨u2, hu2, le2⟩ := hs _ h' u hu
    exact ⟨u2, hu2, by simp only at le2; omega⟩
structure J (rows : List Row) (h0 h : Nat → Option Int) (cm : Nat → Option Nat) (t : Nat → Nat) (j i N : Nat) : Prop where
  A : ∀ z k, cm z = some k → ∃ y c v u, rows[k]? = some (z, y, c) ∧ h y = some v ∧ h z = some u ∧ v + c ≤ u
  B : ∀ z l s, Pt rows cm z z (l + 1) s → s < 0
  C : ∀ z k y c, cm z = some k → rows[k]? = some (z, y, c) → t z ≤ t y + 1
  T1 : ∀ z, cm z = none → t z = 0
  T2 : ∀ z, t z ≤ j
  D : ∀ (i' x y : Nat) (c : Int), rows[i']? = some (x, y, c) → ((i' < i ∧ t y + 1 ≤ j) ∨ t y + 2 ≤ j) → sat h (x, y, c)
  E : ∀ z, cm z = none → h z = h0 z
  G : ∀ z u, h z = some u → ∃ w l s v, Wy rows z w l s ∧ h0 w = some v ∧ u = s + v ∧ l ≤ N
  M : ∀ z v, h0 z = some v → ∃ u, h z = some u ∧ u ≤ v
def relax (h : Nat → Option Int) (r : Row) : Option Int :=
  match h r.2.1 with
  | none => none
  | some v => match h r.1 with
    | none => some (v + r.2.2)
    | some u => if v + r.2.2 < u then some (v + r.2.2) else none
theorem J.start {h0 : Nat → Option Int} : J rows h0 h0 (fun _ => none) (fun _ => 0) 1 0 0 where
  A := fun z k e => nomatch e
  B := fun z l s p => by cases p with | cons e _ _ => cases e
  C := fun z k y c e => nomatch e
  T1 := fun _ _ => rfl
  T2 := fun _ => Nat.zero_le _
  D := fun i' x y c _ h => by rcases h with ⟨h, _⟩ | h <;> omega
  E := fun _ _ => rfl
  G := fun z u e => ⟨z, 0, 0, u, .nil z, e, by omega, Nat.le_refl _⟩
  M := fun z v e => ⟨v, e, Int.le_refl _⟩
theorem J.next {h0 h : Nat → Option Int} {cm : Nat → Option Nat} {t : Nat → Nat} {j N : Nat} (q : J rows h0 h cm t j rows.length N) : J rows h0 h cm t (j + 1) 0 N where
  A := q.A
  B := q.B
  C := q.C
  T1 := q.T1
  T2 := fun z => Nat.le_succ_of_le (q.T2 z)
  D := fun i' x y c e h => q.D i' x y c e (.inl ⟨(List.getElem?_eq_some_iff.mp e).1, by rcases h with ⟨h, _⟩ | h <;> omega⟩)
  E := q.E
  G := q.G
  M := q.M
theorem J.stay {h0 h : Nat → Option Int} {cm : Nat → Option Nat} {t : Nat → Nat} {j i N : Nat} {r : Row} (q : J rows h0 h cm t j i N) (er : rows[i]? = some r) (e : relax h r = none) : J rows h0 h cm t j (i + 1) (N + 1) where
  A := q.A
  B := q.B
  C := q.C
  T1 := q.T1
  T2 := q.T2
  D := fun i' x y c e' h' => by
    by_cases hi : i' = i
    · subst hi
      rw [er] at e'
      cases e'
      intro v hv
      simp only at hv
      unfold relax at e
      simp only [hv] at e
      cases hx : h x with
      | none => rw [hx] at e; cases e
      | some u =>
        rw [hx] at e
        simp only at e
        refine ⟨u, rfl, ?_⟩
        split at e
        · cases e
        · show u ≤ v + c; omega
    · exact q.D i' x y c e' (by omega)
  E := q.E
  G := fun z u hz => by
    obtain ⟨w, l, s, v, a, b, c, d⟩ := q.G z u hz
    exact ⟨w, l, s, v, a, b, c, by omega⟩
  M := q.M
def up {α : Type} (f : Nat → α) (x : Nat) (a : α) : Nat → α := fun z => if z = x then a else f z
theorem up_same {α : Type} {f : Nat → α} {x : Nat} {a : α} : up f x a x = a := if_pos rfl
theorem up_ne {α : Type} {f : Nat → α} {x z : Nat} {a : α} (h : z ≠ x) : up f x a z = f z := if_neg h
/-- the pointers behind an update, by the heights ahead of it -/
theorem pt_pot {g : Nat → Option Int} {cm : Nat → Option Nat} {x i y : Nat} {c : Int} (er : rows[i]? = some (x, y, c))
    (old : ∀ z k y' c', z ≠ x → cm z = some k → rows[k]? = some (z, y', c') → ∃ v u, g y' = some v ∧ g z = some u ∧ v + c' ≤ u)
    (new : ∃ v u, g y = some v ∧ g x = some u ∧ v + c < u) {z w l : Nat} {s : Int} (a : Pt rows (up cm x (some i)) z w l s) :
    (Pt rows cm z w l s ∧ ∀ v, g w = some v → ∃ u, g z = some u ∧ v + s ≤ u) ∨ (∀ v, g w = some v → ∃ u, g z = some u ∧ v + s < u) := by
  induction a with
  | nil z => exact .inl ⟨.nil z, fun v hv => ⟨v, hv, by omega⟩⟩
  | @cons z p w l k c' s e e2 _ ih =>
    by_cases hz : z = x
    · subst hz
      rw [up_same] at e
      cases e
      rw [er] at e2
      cases e2
      obtain ⟨v1, u1, g1, g2, lt⟩ := new
      refine .inr fun v hv => ?_
      have : ∃ u, g y = some u ∧ v + s ≤ u := by
        rcases ih with ⟨_, ih⟩ | ih
        · exact ih v hv
        · obtain ⟨u, hu, l⟩ := ih v hv
          exact ⟨u, hu, by omega⟩
      obtain ⟨u, hu, le⟩ := this
      rw [g1] at hu
      cases hu
      exact ⟨u1, g2, by omega⟩
    · rw [up_ne hz] at e
      obtain ⟨v1, u1, g1, g2, le1⟩ := old z k p c' hz e e2
      rcases ih with ⟨ip, ih⟩ | ih
      · refine .inl ⟨.cons e e2 ip, fun v hv => ?_⟩
        obtain ⟨u, hu, le⟩ := ih v hv
        rw [g1] at hu
        cases hu
        exact ⟨u1, g2, by omega⟩
      · refine .inr fun v hv => ?_
        obtain ⟨u, hu, le⟩ := ih v hv
        rw [g1] at hu
        cases hu
        exact ⟨u1, g2, by omega⟩
theorem relax_some {h : Nat → Option Int} {x y : Nat} {c u' : Int} (e : relax h (x, y, c) = some u') : ∃ v, h y = some v ∧ u' = v + c ∧ ∀ u, h x = some u → u' < u := by
  unfold relax at e
  simp only at e
  cases hy : h y with
  | none => rw [hy] at e; cases e
  | some v =>
    rw [hy] at e
    simp only at e
    cases hx : h x with
    | none => rw [hx] at e; cases e; exact ⟨v, rfl, rfl, fun u z => nomatch z⟩
    | some u =>
      rw [hx] at e
      simp only at e
      split at e
      · cases e; exact ⟨v, rfl, rfl, fun u z => by cases z; assumption⟩
      · cases e
theorem J.move {h0 h : Nat → Option Int} {cm : Nat → Option Nat} {t : Nat → Nat} {j i N x y : Nat} {c u' : Int} (q : J rows h0 h cm t j i N) (er : rows[i]? = some (x, y, c)) (e : relax h (x, y, c) = some u') :
    J rows h0 (up h x (some u')) (up cm x (some i)) (up t x j) j (i + 1) (N + 1) := by
  obtain ⟨v, hy, eu, lt⟩ := relax_some e
  have hty : j ≤ t y + 1 := by
    refine Nat.le_of_not_lt fun z => ?_
    obtain ⟨u, hu, le⟩ := q.D i x y c er (.inr (by omega)) v hy
    have := lt u hu
    simp only at le
    omega
  have tle : ∀ z, t z ≤ up t x j z := fun z => by
    by_cases hz : z = x
    · subst hz; rw [up_same]; exact q.T2 _
    · rw [up_ne hz]; exact Nat.le_refl _
  refine ⟨?_, ?_, ?_, ?_, ?_, ?_, ?_, ?_, ?_⟩
  · intro z k ek
    by_cases hz : z = x
    · subst hz
      rw [up_same] at ek
      cases ek
      by_cases hyx : y = z
      · subst hyx
        refine ⟨y, c, u', u', er, up_same, up_same, ?_⟩
        have := lt v hy
        omega
      · exact ⟨y, c, v, u', er, by rw [up_ne hyx]; exact hy, up_same, by omega⟩
    · rw [up_ne hz] at ek
      obtain ⟨y', c', v', u'', e1, e2, e3, e4⟩ := q.A z k ek
      by_cases hyx : y' = x
      · subst hyx
        refine ⟨y', c', u', u'', e1, up_same, by rw [up_ne hz]; exact e3, ?_⟩
        have := lt v' e2
        omega
      · exact ⟨y', c', v', u'', e1, by rw [up_ne hyx]; exact e2, by rw [up_ne hz]; exact e3, e4⟩
  · intro z l s p
    cases hx : h x with
    | some ux =>
      have hlt := lt ux hx
      have := pt_pot (g := h) er (fun z k y' c' hz ek e2 => by
        obtain ⟨y2, c2, v2, u2, f1, f2, f3, f4⟩ := q.A z k ek
        rw [e2] at f1
        cases f1
        exact ⟨v2, u2, f2, f3, f4⟩) ⟨v, ux, hy, hx, by omega⟩ p
      rcases this with ⟨ip, _⟩ | st
      · exact q.B z l s ip
      · have hz : ∃ a, h z = some a := by
          cases p with
          | cons ek e2 _ =>
            by_cases hzx : z = x
            · exact ⟨ux, by rw [hzx]; exact hx⟩
            · rw [up_ne hzx] at ek
              obtain ⟨_, _, _, u2, _, _, f3, _⟩ := q.A z _ ek
              exact ⟨u2, f3⟩
        obtain ⟨a, ha⟩ := hz
        obtain ⟨b, hb, lt2⟩ := st a ha
        rw [ha] at hb
        cases hb
        omega
    | none =>
      -- x stood nowhere: no pointer leads to it
      have nt : ∀ {z w l : Nat} {s : Int}, Pt rows (up cm x (some i)) z w l s → z ≠ x → Pt rows cm z w l s ∧ (w ≠ x) := by
        intro z w l s p
        induction p with
        | nil z => exact fun hz => ⟨.nil z, hz⟩
        | @cons z p w l k c' s ek e2 _ ih =>
          intro hz
          rw [up_ne hz] at ek
          obtain ⟨y2, c2, v2, u2, f1, f2, f3, f4⟩ := q.A z k ek
          rw [e2] at f1
          cases f1
          have hp : p ≠ x := fun w => by rw [w, hx] at f2; cases f2
          obtain ⟨a, b⟩ := ih hp
          exact ⟨.cons ek e2 a, b⟩
      by_cases hz : z = x
      · subst hz
        cases p with
        | @cons _ p _ _ k c' s ek e2 p2 =>
          rw [up_same] at ek
          cases ek
          rw [er] at e2
          cases e2
          have hyx : y ≠ z := fun w => by rw [w, hx] at hy; cases hy
          exact absurd rfl (nt p2 hyx).2
      · exact q.B z l s (nt p hz).1
  · intro z k y' c' ek e2
    by_cases hz : z = x
    · subst hz
      rw [up_same] at ek
      cases ek
      rw [er] at e2
      cases e2
      rw [up_same]
      have := tle y
      omega
    · rw [up_ne hz] at ek
      rw [up_ne hz]
      have := q.C z k y' c' ek e2
      have := tle y'
      omega
  · intro z ek
    by_cases hz : z = x
    · subst hz; rw [up_same] at ek; cases ek
    · rw [up_ne hz] at ek ⊢; exact q.T1 z ek
  · intro z
    by_cases hz : z = x
    · subst hz; rw [up_same]; exact Nat.le_refl _
    · rw [up_ne hz]; exact q.T2 z
  · intro i' x' y' c' e' hc v' hv'
    simp only at hv'
    have hyx : y' ≠ x := by
      intro w
      subst w
      rw [up_same] at hc
      omega
    rw [up_ne hyx] at hc hv'
    show ∃ u, up h x (some u') x' = some u ∧ u ≤ v' + c'
    by_cases hi : i' = i
    · subst hi
      rw [er] at e'
      cases e'
      rw [hy] at hv'
      cases hv'
      exact ⟨u', up_same, by omega⟩
    · obtain ⟨u, hu, le⟩ := q.D i' x' y' c' e' (by omega) v' hv'
      simp only at hu le
      by_cases hx : x' = x
      · subst hx
        have := lt u hu
        exact ⟨u', up_same, by omega⟩
      · exact ⟨u, by rw [up_ne hx]; exact hu, le⟩
  · intro z ek
    by_cases hz : z = x
    · subst hz; rw [up_same] at ek; cases ek
    · rw [up_ne hz] at ek ⊢; exact q.E z ek
  · intro z u hu
    by_cases hz : z = x
    · subst hz
      rw [up_same] at hu
      cases hu
      obtain ⟨w, l, s, v0, a, b, d, f⟩ := q.G y v hy
      exact ⟨w, l + 1, c + s, v0, .cons (List.mem_of_getElem? er) a, b, by omega, by omega⟩
    · rw [up_ne hz] at hu
      obtain ⟨w, l, s, v0, a, b, d, f⟩ := q.G z u hu
      exact ⟨w, l, s, v0, a, b, d, by omega⟩
  · intro z v0 hv0
    obtain ⟨u, hu, le⟩ := q.M z v0 hv0
    by_cases hz : z = x
    · subst hz
      have := lt u hu
      exact ⟨u', up_same, by omega⟩
    · exact ⟨u, by rw [up_ne hz]; exact hu, le⟩
end
end K31

namespace K31
/-! ### the lists -/
structure SS where
  hs : List (Option Int)
  cs : List (Nat × Nat)
  last : Option Nat
def hv (hs : List (Option Int)) (z : Nat) : Option Int := hs.getD z none
def lk (cs : List (Nat × Nat)) (z : Nat) : Option Nat := (cs.find? fun p => decide (p.1 = z)).map (·.2)
def put (cs : List (Nat × Nat)) (x k : Nat) : List (Nat × Nat) := if (cs.any fun p => decide (p.1 = x)) = true then cs.map (fun p => if p.1 = x then (x, k) else p) else cs ++ [(x, k)]
def stp (k : Nat) (r : Row) (s : SS) : SS := match relax (hv s.hs) r with
  | none => s
  | some v => ⟨s.hs.set r.1 (some v), put s.cs r.1 k, some r.1⟩
def pass : List Row → Nat → SS → SS
  | [], _, s => s
  | r :: rs, k, s => pass rs (k + 1) (stp k r s)
def low (rows : List Row) (s : SS) : SS := pass rows 0 ⟨s.hs, s.cs, none⟩
def settle (rows : List Row) : Nat → SS → SS
  | 0, s => s
  | m + 1, s => if s.last = none then s else settle rows m (low rows s)
def settled (n : Nat) (rows : List Row) (hs : List (Option Int)) : SS := settle rows n (low rows ⟨hs, [], none⟩)
theorem lk_cons {p : Nat × Nat} {cs : List (Nat × Nat)} {z : Nat} : lk (p :: cs) z = if p.1 = z then some p.2 else lk cs z := by
  unfold lk
  rw [List.find?_cons]
  by_cases h : p.1 = z
  · simp [h]
  · simp [h]
theorem lk_none {cs : List (Nat × Nat)} {z : Nat} : lk cs z = none ↔ ∀ p ∈ cs, p.1 ≠ z := by
  unfold lk
  simp
theorem lk_map {cs : List (Nat × Nat)} {x k z : Nat} : lk (cs.map fun p => if p.1 = x then (x, k) else p) z = if z = x then (lk cs x).map (fun _ => k) else lk cs z := by
  induction cs with
  | nil => simp [lk]
  | cons p cs ih =>
    rw [List.map_cons, lk_cons, lk_cons, lk_cons, ih]
    by_cases h1 : p.1 = x
    · by_cases h2 : z = x
      · subst h2; simp [h1]
      · have h3 : ¬ x = z := fun w => h2 w.symm
        have h4 : ¬ p.1 = z := fun w => h3 (h1 ▸ w)
        simp [h1, h2, h3]
    · by_cases h2 : z = x
      · subst h2; simp [h1]
      · by_cases h3 : p.1 = z
        · simp [h1, h2, h3]
        · simp [h1, h2, h3]
theorem lk_app {cs : List (Nat × Nat)} {x k z : Nat} (hn : ∀ p ∈ cs, p.1 ≠ x) : lk (cs ++ [(x, k)]) z = if z = x then some k else lk cs z := by
  induction cs with
  | nil =>
    rw [List.nil_append, lk_cons]
    by_cases h : z = x
    · simp [h]
    · have : ¬ x = z := fun w => h w.symm
      simp [h, this]
  | cons p cs ih =>
    rw [List.cons_append, lk_cons, lk_cons, ih fun q hq => hn q (List.mem_cons_of_mem _ hq)]
    have hp := hn p List.mem_cons_self
    by_cases h : z = x
    · subst h; simp [hp]
    · simp [h]
theorem lk_put {cs : List (Nat × Nat)} {x k z : Nat} : lk (put cs x k) z = up (lk cs) x (some k) z := by
  unfold put up
  by_cases ha : (cs.any fun p => decide (p.1 = x)) = true
  · rw [if_pos ha, lk_map]
    by_cases h : z = x
    · rw [if_pos h, if_pos h]
      cases e : lk cs x with
      | none =>
        rw [lk_none] at e
        obtain ⟨p, hp, w⟩ := List.any_eq_true.mp ha
        exact absurd (of_decide_eq_true w) (e p hp)
      | some v => rfl
    · rw [if_neg h, if_neg h]
  · rw [if_neg ha, lk_app]
    intro p hp w
    exact ha (List.any_eq_true.mpr ⟨p, hp, decide_eq_true w⟩)
structure Wf (n : Nat) (s : SS) : Prop where
  len : s.hs.length = n
  nd : (s.cs.map (·.1)).Nodup
  lt : ∀ p ∈ s.cs, p.1 < n
theorem put_keys {cs : List (Nat × Nat)} {x k : Nat} : (put cs x k).map (·.1) = if (cs.any fun p => decide (p.1 = x)) = true then cs.map (·.1) else cs.map (·.1) ++ [x] := by
  unfold put
  split
  · rw [List.map_map]
    refine List.map_congr_left fun p _ => ?_
    simp only [Function.comp]
    split
    · rename_i h; exact h.symm
    · rfl
  · rw [List.map_append]; rfl
theorem Wf.stp {n k : Nat} {r : Row} {s : SS} (w : Wf n s) (hr : r.1 < n) : Wf n (stp k r s) := by
  unfold K31.stp
  split
  · exact w
  · refine ⟨by rw [List.length_set]; exact w.len, ?_, ?_⟩
    · show ((put s.cs r.1 k).map (·.1)).Nodup
      rw [put_keys]
      split
      · exact w.nd
      · rename_i ha
        rw [List.nodup_append]
        refine ⟨w.nd, by simp, fun a ha1 b hb => ?_⟩
        simp at hb
        subst hb
        intro e
        subst e
        obtain ⟨p, hp, e⟩ := List.mem_map.mp ha1
        exact ha (List.any_eq_true.mpr ⟨p, hp, decide_eq_true e⟩)
    · show ∀ p ∈ put s.cs r.1 k, p.1 < n
      intro p hp
      have hk : p.1 ∈ (put s.cs r.1 k).map (·.1) := List.mem_map.mpr ⟨p, hp, rfl⟩
      rw [put_keys] at hk
      have old : p.1 ∈ s.cs.map (·.1) → p.1 < n := fun h => by
        obtain ⟨q, hq, e⟩ := List.mem_map.mp h
        rw [← e]; exact w.lt q hq
      split at hk
      · exact old hk
      · rcases List.mem_append.mp hk with h | h
        · exact old h
        · simp at h; rw [h]; exact hr
theorem hv_set {hs : List (Option Int)} {x : Nat} {u : Int} (h : x < hs.length) : hv (hs.set x (some u)) = up (hv hs) x (some u) := by
  funext z
  unfold hv up
  rw [List.getD, List.getElem?_set]
  by_cases e : z = x
  · subst e; simp [h]
  · have : ¬ x = z := fun w => e w.symm
    simp [e, this, List.getD]
def JS (rows : List Row) (h0 : Nat → Option Int) (s : SS) (j i N : Nat) : Prop := ∃ t, J rows h0 (hv s.hs) (lk s.cs) t j i N ∧ (s.last = none → ∀ z, t z + 1 ≤ j) ∧ ∀ x, s.last = some x → t x = j
section
variable {rows : List Row} {h0 : Nat → Option Int}
theorem JS.stp {n j i N : Nat} {r : Row} {s : SS} (q : JS rows h0 s j i N) (w : Wf n s) (er : rows[i]? = some r) (hr : r.1 < n) : JS rows h0 (stp i r s) j (i + 1) (N + 1) := by
  obtain ⟨t, J1, l1, l2⟩ := q
  unfold K31.stp
  cases e : relax (hv s.hs) r with
  | none => exact ⟨t, J1.stay er e, l1, l2⟩
  | some v =>
    obtain ⟨x, y, c⟩ := r
    refine ⟨up t x j, ?_, (fun z => nomatch z), fun z ez => ?_⟩
    · have := J1.move er e
      have e1 : hv (s.hs.set x (some v)) = up (hv s.hs) x (some v) := hv_set (by rw [w.len]; exact hr)
      have e2 : lk (put s.cs x i) = up (lk s.cs) x (some i) := funext fun z => lk_put
      show J rows h0 (hv (s.hs.set x (some v))) (lk (put s.cs x i)) _ _ _ _
      rw [e1, e2]
      exact this
    · cases ez; exact up_same
theorem JS.pass {n j N : Nat} : ∀ (rs : List Row) (i : Nat) (s : SS) (N : Nat), JS rows h0 s j i N → Wf n s → rows.drop i = rs → (∀ r ∈ rows, r.1 < n) → JS rows h0 (pass rs i s) j rows.length (N + rs.length) ∧ Wf n (pass rs i s)
  | [], i, s, N, q, w, e, hr => by
    have : rows.length ≤ i := List.drop_eq_nil_iff.mp e
    obtain ⟨t, J1, l⟩ := q
    refine ⟨⟨t, { J1 with D := fun i' x y c e' h => J1.D i' x y c e' ?_ }, l⟩, w⟩
    have := (List.getElem?_eq_some_iff.mp e').1
    omega
  | r :: rs, i, s, N, q, w, e, hr => by
    have hi : i < rows.length := by
      refine Nat.lt_of_not_le fun z => ?_
      rw [List.drop_of_length_le z] at e
      cases e
    rw [List.drop_eq_getElem_cons hi] at e
    have e1 := (List.cons.inj e).1
    have e2 := (List.cons.inj e).2
    have er : rows[i]? = some r := by rw [List.getElem?_eq_getElem hi, e1]
    have hr1 : r.1 < n := hr r (List.mem_of_getElem? er)
    have := JS.pass (n := n) (N := N) rs (i + 1) _ (N + 1) (q.stp w er hr1) (w.stp hr1) e2 hr
    rw [List.length_cons]
    have e3 : N + (rs.length + 1) = N + 1 + rs.length := by omega
    rw [e3]
    exact this
theorem JS.low {n j N : Nat} {s : SS} (q : JS rows h0 s j rows.length N) (w : Wf n s) (hr : ∀ r ∈ rows, r.1 < n) : JS rows h0 (low rows s) (j + 1) rows.length (N + rows.length) ∧ Wf n (low rows s) := by
  obtain ⟨t, J1, _⟩ := q
  exact JS.pass (n := n) (N := N) rows 0 ⟨s.hs, s.cs, none⟩ N ⟨t, J1.next, fun _ z => Nat.succ_le_succ (J1.T2 z), fun _ e => nomatch e⟩ ⟨w.len, w.nd, w.lt⟩ rfl hr
theorem JS.settle {n : Nat} : ∀ (m j N : Nat) (s : SS), JS rows h0 s j rows.length N → Wf n s → (∀ r ∈ rows, r.1 < n) →
    ∃ j' N', JS rows h0 (settle rows m s) j' rows.length N' ∧ Wf n (settle rows m s) ∧ N' ≤ N + m * rows.length ∧ ((settle rows m s).last = none ∨ j' = j + m)
  | 0, j, N, s, q, w, hr => ⟨j, N, q, w, by omega, .inr rfl⟩
  | m + 1, j, N, s, q, w, hr => by
    unfold K31.settle
    split
    · rename_i e
      exact ⟨j, N, q, w, by omega, .inl e⟩
    · obtain ⟨q2, w2⟩ := q.low w hr
      obtain ⟨j', N', a, b, c, d⟩ := JS.settle m (j + 1) (N + rows.length) _ q2 w2 hr
      refine ⟨j', N', a, b, ?_, ?_⟩
      · rw [Nat.add_mul]; omega
      · rcases d with d | d
        · exact .inl d
        · exact .inr (by omega)
theorem settled_ok {n : Nat} {hs : List (Option Int)} (hl : hs.length = n) (hr : ∀ r ∈ rows, r.1 < n) :
    ∃ t j N, J rows (hv hs) (hv (settled n rows hs).hs) (lk (settled n rows hs).cs) t j rows.length N ∧ Wf n (settled n rows hs) ∧ N ≤ (n + 1) * rows.length ∧
      ((settled n rows hs).last = none → ∀ r ∈ rows, sat (hv (settled n rows hs).hs) r) ∧ ∀ x, (settled n rows hs).last = some x → t x = n + 1 := by
  have st : JS rows (hv hs) (K31.low rows ⟨hs, [], none⟩) 1 rows.length (0 + rows.length) ∧ Wf n (K31.low rows ⟨hs, [], none⟩) :=
    JS.pass (n := n) (N := 0) rows 0 ⟨hs, [], none⟩ 0 ⟨fun _ => 0, J.start, fun _ _ => Nat.le_refl _, fun _ e => nomatch e⟩ ⟨hl, List.nodup_nil, fun p h => nomatch h⟩ rfl hr
  obtain ⟨j, N, ⟨t, q, l1, l2⟩, w, hN, hj⟩ := JS.settle n 1 (0 + rows.length) _ st.1 st.2 hr
  refine ⟨t, j, N, q, w, ?_, fun e r hm => ?_, fun x e => ?_⟩
  · rw [Nat.add_mul]; omega
  · obtain ⟨i, hi, rfl⟩ := List.getElem_of_mem hm
    have := q.D i rows[i].1 rows[i].2.1 rows[i].2.2 (List.getElem?_eq_getElem hi) (.inl ⟨hi, l1 e _⟩)
    exact this
  · have e2 : (K31.settle rows n (K31.low rows ⟨hs, [], none⟩)).last = some x := e
    rcases hj with hj | hj
    · rw [hj] at e2; cases e2
    · rw [l2 x e2]; omega
end
end K31

namespace K31
/-! ### walks by pointers -/
def rowAt (rows : List Row) (k : Nat) : Row := rows.getD k (0, 0, 0)
section
variable (rows : List Row) (cs : List (Nat × Nat))
def key (z : Nat) : Nat := (lk cs z).getD 0
def nx (z : Nat) : Nat := (rowAt rows (key cs z)).2.1
def wk : Nat → Nat → Nat
  | 0, z => z
  | i + 1, z => wk i (nx rows cs z)
def keys : Nat → Nat → List Nat
  | 0, _ => []
  | m + 1, z => key cs z :: keys m (nx rows cs z)
def sumK (ks : List Nat) : Int := (ks.map fun k => (rowAt rows k).2.2).sum
def dm (z : Nat) : Prop := (lk cs z).isSome = true
end
/-- the law's walk along a way: where it ends -/
def endOf (rows : List Row) : List Int → Int → Option Int
  | [], h => some h
  | o :: os, h => if (0 ≤ o ∧ o < rows.length) ∧ ((rowAt rows o.toNat).1 : Int) = h then endOf rows os ((rowAt rows o.toNat).2.1 : Int) else none
def sumW (rows : List Row) (way : List Int) : Int := (way.map fun o => (rowAt rows o.toNat).2.2).sum
def toZ (ks : List Nat) : List Int := ks.map fun (k : Nat) => ((k : Nat) : Int)
theorem sumW_toZ {rows : List Row} (ks : List Nat) : sumW rows (toZ ks) = sumK rows ks := by
  unfold sumW sumK toZ
  rw [List.map_map]; rfl
theorem nodup_len : ∀ {a b : List Nat}, a.Nodup → (∀ x ∈ a, x ∈ b) → a.length ≤ b.length
  | [], b, _, _ => Nat.zero_le _
  | x :: a, b, nd, h => by
    have hx := h x List.mem_cons_self
    rw [List.nodup_cons] at nd
    have := nodup_len (a := a) (b := b.erase x) nd.2 fun y hy => by
      have hne : y ≠ x := fun e => nd.1 (e ▸ hy)
      exact (List.mem_erase_of_ne hne).mpr (h y (List.mem_cons_of_mem _ hy))
    rw [List.length_erase_of_mem hx] at this
    have hp : 0 < b.length := List.length_pos_of_mem hx
    rw [List.length_cons]
    omega
theorem pigeon (f : Nat → Nat) (l : List Nat) (h : ∀ i, i ≤ l.length → f i ∈ l) : ∃ a b, a < b ∧ b ≤ l.length ∧ f a = f b := by
  refine Classical.byContradiction fun hn => ?_
  have nd : ((List.range (l.length + 1)).map f).Nodup := by
    unfold List.Nodup
    rw [List.pairwise_map]
    refine List.Pairwise.imp_of_mem (R := (· < ·)) (fun {a b} ha hb lt e => ?_) List.pairwise_lt_range
    rw [List.mem_range] at hb
    exact hn ⟨a, b, lt, by omega, e⟩
  have := nodup_len nd fun x hx => by
    obtain ⟨i, hi, rfl⟩ := List.mem_map.mp hx
    rw [List.mem_range] at hi
    exact h i (by omega)
  rw [List.length_map, List.length_range] at this
  omega
theorem least {P : Nat → Prop} : ∀ d, P d → ∃ m, P m ∧ m ≤ d ∧ ∀ i, i < m → ¬ P i := by
  intro d
  induction d using Nat.strongRecOn with
  | _ d ih =>
    intro h
    by_cases he : ∃ i, i < d ∧ P i
    · obtain ⟨i, hi, hp⟩ := he
      obtain ⟨m, a, b, c⟩ := ih i hi hp
      exact ⟨m, a, by omega, c⟩
    · exact ⟨d, h, Nat.le_refl _, fun i hi hp => he ⟨i, hi, hp⟩⟩
section
variable {rows : List Row} {cs : List (Nat × Nat)}
theorem keys_succ (m z : Nat) : keys rows cs (m + 1) z = key cs z :: keys rows cs m (nx rows cs z) := rfl
theorem wk_add (i j z : Nat) : wk rows cs (i + j) z = wk rows cs j (wk rows cs i z) := by
  induction i generalizing z with
  | zero => rw [Nat.zero_add]; rfl
  | succ i ih => rw [Nat.add_right_comm]; exact ih (nx rows cs z)
theorem wk_succ (i z : Nat) : wk rows cs (i + 1) z = nx rows cs (wk rows cs i z) := wk_add i 1 z
theorem keys_get : ∀ (m z i : Nat), i < m → (keys rows cs m z)[i]? = some (key cs (wk rows cs i z))
  | 0, z, i, h => by omega
  | m + 1, z, 0, h => rfl
  | m + 1, z, i + 1, h => by
    show (keys rows cs m (nx rows cs z))[i]? = _
    exact keys_get m _ i (by omega)
theorem keys_snoc : ∀ (m z : Nat), keys rows cs (m + 1) z = keys rows cs m z ++ [key cs (wk rows cs m z)]
  | 0, z => rfl
  | m + 1, z => by
    rw [keys_succ, keys_snoc m (nx rows cs z)]; rfl
theorem keys_len : ∀ (m z : Nat), (keys rows cs m z).length = m
  | 0, z => rfl
  | m + 1, z => by unfold keys; rw [List.length_cons, keys_len m]
variable {h0 h : Nat → Option Int} {t : Nat → Nat} {j i N : Nat}
/-- what a pointer is -/
theorem J.ptr (q : J rows h0 h (lk cs) t j i N) {z : Nat} (hd : dm cs z) : ∃ y c v u, lk cs z = some (key cs z) ∧ rows[key cs z]? = some (z, y, c) ∧ rowAt rows (key cs z) = (z, y, c) ∧ nx rows cs z = y ∧ h y = some v ∧ h z = some u ∧ v + c ≤ u ∧ t z ≤ t y + 1 := by
  obtain ⟨k, ek⟩ := Option.isSome_iff_exists.mp hd
  obtain ⟨y, c, v, u, e1, e2, e3, e4⟩ := q.A z k ek
  have kk : key cs z = k := by unfold key; rw [ek]; rfl
  have er : rowAt rows (key cs z) = (z, y, c) := by unfold rowAt; rw [kk, List.getD, e1]; rfl
  refine ⟨y, c, v, u, by rw [kk]; exact ek, by rw [kk]; exact e1, er, by unfold nx; rw [er], e2, e3, e4, q.C z k y c ek e1⟩
theorem J.path (q : J rows h0 h (lk cs) t j i N) : ∀ (m z : Nat), (∀ a, a < m → dm cs (wk rows cs a z)) → Pt rows (lk cs) z (wk rows cs m z) m (sumK rows (keys rows cs m z))
  | 0, z, _ => .nil z
  | m + 1, z, hd => by
    obtain ⟨y, c, v, u, e0, e1, e2, e3, _⟩ := q.ptr (hd 0 (by omega))
    have ih := J.path q m (nx rows cs z) fun a ha => hd (a + 1) (by omega)
    have es : sumK rows (keys rows cs (m + 1) z) = c + sumK rows (keys rows cs m (nx rows cs z)) := by
      have e2' : rowAt rows (key cs z) = (z, y, c) := e2
      unfold sumK
      rw [keys_succ, List.map_cons, List.sum_cons, e2']
    rw [es]
    have e3' : nx rows cs z = y := e3
    exact .cons e0 e1 (by rw [← e3']; exact ih)
theorem J.ends (q : J rows h0 h (lk cs) t j i N) : ∀ (m z : Nat), (∀ a, a < m → dm cs (wk rows cs a z)) → endOf rows (toZ (keys rows cs m z)) (z : Int) = some ((wk rows cs m z : Nat) : Int)
  | 0, z, _ => rfl
  | m + 1, z, hd => by
    obtain ⟨y, c, v, u, e0, e1, e2, e3, _⟩ := q.ptr (hd 0 (by omega))
    have ih := J.ends q m (nx rows cs z) fun a ha => hd (a + 1) (by omega)
    have e1' : rows[key cs z]? = some (z, y, c) := e1
    have e2' : rowAt rows (key cs z) = (z, y, c) := e2
    have hk : key cs z < rows.length := (List.getElem?_eq_some_iff.mp e1').1
    show endOf rows (((key cs z : Nat) : Int) :: toZ (keys rows cs m (nx rows cs z))) (z : Int) = _
    unfold endOf
    rw [Int.toNat_natCast, e2', if_pos ⟨⟨by omega, by omega⟩, rfl⟩]
    have e3' : nx rows cs z = y := e3
    show endOf rows _ (y : Int) = _
    rw [← e3']
    exact ih
/-- a closed walk by pointers has a negative sum -/
theorem J.closed (q : J rows h0 h (lk cs) t j i N) {z m : Nat} (hm : 1 ≤ m) (hd : ∀ a, a < m → dm cs (wk rows cs a z)) (e : wk rows cs m z = z) : sumK rows (keys rows cs m z) < 0 := by
  obtain ⟨m', rfl⟩ : ∃ m', m = m' + 1 := ⟨m - 1, by omega⟩
  have p := q.path (m' + 1) z hd
  rw [e] at p
  exact q.B z m' _ p
theorem dm_lt {n : Nat} {s : SS} (w : Wf n s) {z : Nat} (hd : dm s.cs z) : z < n ∧ z ∈ s.cs.map (·.1) := by
  obtain ⟨k, ek⟩ := Option.isSome_iff_exists.mp hd
  unfold lk at ek
  obtain ⟨p, hp, _⟩ := Option.map_eq_some_iff.mp ek
  have h1 := List.mem_of_find?_eq_some hp
  have h2 := List.find?_some hp
  simp at h2
  exact ⟨h2 ▸ w.lt p h1, List.mem_map.mpr ⟨p, h1, h2⟩⟩
/-- where an update stood in the last pass, pointers lead on for n steps -/
theorem J.far (q : J rows h0 h (lk cs) t j i N) {n x : Nat} (hx : t x = n + 1) : ∀ a, a ≤ n → dm cs (wk rows cs a x) ∧ n + 1 ≤ t (wk rows cs a x) + a := by
  have dom : ∀ z, 1 ≤ t z → dm cs z := fun z hz => by
    unfold dm
    cases e : lk cs z with
    | none => have := q.T1 z e; omega
    | some k => rfl
  intro a
  induction a with
  | zero => exact fun _ => ⟨dom x (by omega), by show n + 1 ≤ t x + 0; omega⟩
  | succ a ih =>
    intro ha
    obtain ⟨d, le⟩ := ih (by omega)
    obtain ⟨y, c, v, u, _, _, _, e3, _, _, _, tt⟩ := q.ptr d
    rw [wk_succ, e3]
    exact ⟨dom y (by omega), by omega⟩
theorem cs_len {n : Nat} {s : SS} (w : Wf n s) : s.cs.length ≤ n := by
  have := nodup_len (b := List.range n) w.nd fun x hx => by
    obtain ⟨p, hp, rfl⟩ := List.mem_map.mp hx
    exact List.mem_range.mpr (w.lt p hp)
  rw [List.length_map, List.length_range] at this
  exact this
/-- the ring -/
theorem ring_at {n : Nat} {s : SS} (w : Wf n s) (q : J rows h0 h (lk s.cs) t j i N) {x : Nat} (hx : t x = n + 1) :
    (∀ a, dm s.cs (wk rows s.cs a x)) ∧ ∃ m, 1 ≤ m ∧ wk rows s.cs m (wk rows s.cs s.cs.length x) = wk rows s.cs s.cs.length x ∧ (∀ a, 1 ≤ a → a < m → wk rows s.cs a (wk rows s.cs s.cs.length x) ≠ wk rows s.cs s.cs.length x) ∧ m ≤ n := by
  have hL := cs_len w
  have fr := q.far hx
  obtain ⟨a, b, hab, hb, e⟩ := pigeon (fun a => wk rows s.cs a x) (s.cs.map (·.1)) fun a ha => (dm_lt w (fr a (by rw [List.length_map] at ha; omega)).1).2
  rw [List.length_map] at hb
  try simp only at e
  refine ⟨fun c => ?_, ?_⟩
  · induction c using Nat.strongRecOn with
    | _ c ih =>
      by_cases hc : c ≤ n
      · exact (fr c hc).1
      · have e1 : wk rows s.cs c x = wk rows s.cs (c - b + a) x := by
          have : c = b + (c - b) := by omega
          rw [this, wk_add, ← e, ← wk_add]
          congr 1
          omega
        rw [e1]
        exact ih _ (by omega)
  · have per : wk rows s.cs (b - a) (wk rows s.cs s.cs.length x) = wk rows s.cs s.cs.length x := by
      rw [← wk_add]
      have e1 : s.cs.length + (b - a) = b + (s.cs.length - a) := by omega
      rw [e1, wk_add, ← e, ← wk_add]
      congr 1
      omega
    obtain ⟨m, hm, hmd, hl⟩ := least (P := fun m => 1 ≤ m ∧ wk rows s.cs m (wk rows s.cs s.cs.length x) = wk rows s.cs s.cs.length x) (b - a) ⟨by omega, per⟩
    exact ⟨m, hm.1, hm.2, fun c h1 h2 h3 => hl c h2 ⟨h1, h3⟩, by omega⟩
def noNeg (rows : List Row) : Prop := ∀ x l s, Wy rows x x l s → 0 ≤ s
theorem last_none {n : Nat} {s : SS} (w : Wf n s) (q : J rows h0 h (lk s.cs) t j i N) (nn : noNeg rows) (hl : ∀ x, s.last = some x → t x = n + 1) : s.last = none := by
  cases e : s.last with
  | none => rfl
  | some x =>
    obtain ⟨hd, m, h1, h2, _⟩ := ring_at w q (hl x e)
    have p := q.path m (wk rows s.cs s.cs.length x) fun a _ => by rw [← wk_add]; exact hd _
    rw [h2] at p
    have := q.closed h1 (fun a _ => by rw [← wk_add]; exact hd _) h2
    have := nn _ _ _ p.wy
    omega
/-! what the law asks of a ring -/
def isWay (rows : List Row) (way : List Int) (x y : Int) : Bool := decide (endOf rows way x = some y)
def inR (rows : List Row) (o : Int) : Bool := decide (0 ≤ o ∧ o < rows.length)
def isRing (rows : List Row) (ring : List Int) : Bool := match ring with
  | [] => false
  | o :: _ => decide ring.Nodup && (inR rows o && (isWay rows ring (rowAt rows o.toNat).1 (rowAt rows o.toNat).1 && decide (sumW rows ring < 0)))
theorem ring_good (q : J rows h0 h (lk cs) t j i N) {z m : Nat} (hm : 1 ≤ m) (hd : ∀ a, dm cs (wk rows cs a z)) (e : wk rows cs m z = z) (hl : ∀ a, 1 ≤ a → a < m → wk rows cs a z ≠ z) : isRing rows (toZ (keys rows cs m z)) = true := by
  have e1 := q.ends m z fun a _ => hd a
  have e2 := q.closed hm (fun a _ => hd a) e
  rw [← sumW_toZ] at e2
  rw [e] at e1
  have nd : (toZ (keys rows cs m z)).Nodup := by
    unfold List.Nodup
    rw [List.pairwise_iff_getElem]
    intro a b ha hb hab he
    unfold toZ at ha hb he
    rw [List.length_map, keys_len] at ha hb
    rw [List.getElem_map, List.getElem_map] at he
    have k1 := keys_get (rows := rows) (cs := cs) m z a ha
    have k2 := keys_get (rows := rows) (cs := cs) m z b hb
    rw [List.getElem?_eq_getElem (by rw [keys_len]; exact ha)] at k1
    rw [List.getElem?_eq_getElem (by rw [keys_len]; exact hb)] at k2
    have ek : key cs (wk rows cs a z) = key cs (wk rows cs b z) := by
      have h1 := Option.some.inj k1
      have h2 := Option.some.inj k2
      rw [← h1, ← h2]
      omega
    obtain ⟨_, _, _, _, _, _, r1, _⟩ := q.ptr (hd a)
    obtain ⟨_, _, _, _, _, _, r2, _⟩ := q.ptr (hd b)
    rw [ek, r2] at r1
    have ew : wk rows cs b z = wk rows cs a z := (Prod.mk.inj r1).1
    refine hl (m - b + a) (by omega) (by omega) ?_
    rw [Nat.add_comm, wk_add, ← ew, ← wk_add]
    have : b + (m - b) = m := by omega
    rw [this]
    exact e
  obtain ⟨m', rfl⟩ : ∃ m', m = m' + 1 := ⟨m - 1, by omega⟩
  obtain ⟨y, c, v, u, _, p1, p2, _⟩ := q.ptr (hd 0)
  have p1 : rows[key cs z]? = some (z, y, c) := p1
  have p2 : rowAt rows (key cs z) = (z, y, c) := p2
  have hk : key cs z < rows.length := (List.getElem?_eq_some_iff.mp p1).1
  show (decide (toZ (keys rows cs (m' + 1) z)).Nodup && (inR rows ((key cs z : Nat) : Int) && (isWay rows (toZ (keys rows cs (m' + 1) z)) (rowAt rows ((key cs z : Nat) : Int).toNat).1 (rowAt rows ((key cs z : Nat) : Int).toNat).1 && decide (sumW rows (toZ (keys rows cs (m' + 1) z)) < 0)))) = true
  rw [Int.toNat_natCast, p2]
  simp only [Bool.and_eq_true, decide_eq_true_eq, inR, isWay]
  exact ⟨nd, ⟨by omega, by omega⟩, e1, e2⟩
/-! ways from one number -/
def from_ (y : Nat) : Nat → Option Int := fun z => if z = y then some 0 else none
theorem from_some {y w : Nat} {v : Int} (e : from_ y w = some v) : w = y ∧ v = 0 := by
  unfold from_ at e
  split at e
  · rename_i h; cases e; exact ⟨h, rfl⟩
  · cases e
theorem from_zero {y0 : Nat} (q : J rows (from_ y0) h (lk cs) t j i N) (nn : noNeg rows) : h y0 = some 0 := by
  obtain ⟨u, hu, le⟩ := q.M y0 0 (if_pos rfl)
  obtain ⟨w, l, s, v, a, b, c, d⟩ := q.G y0 u hu
  obtain ⟨rfl, rfl⟩ := from_some b
  have := nn _ _ _ a
  have : u = 0 := by omega
  rw [hu, this]
theorem why_good {y n : Nat} {s : SS} (w : Wf n s) (q : J rows (from_ y) h (lk s.cs) t j i N) (nn : noNeg rows) (fx : ∀ r ∈ rows, sat h r) {x : Nat} {u : Int} (hx : h x = some u) :
    ∃ m, wk rows s.cs m x = y ∧ (∀ a, a < m → wk rows s.cs a x ≠ y ∧ dm s.cs (wk rows s.cs a x)) ∧ sumK rows (keys rows s.cs m x) = u := by
  have hy := from_zero q nn
  have dom : ∀ z, z ≠ y → (h z).isSome = true → dm s.cs z := fun z hz hs => by
    unfold dm
    cases e : lk s.cs z with
    | none =>
      rw [q.E z e] at hs
      unfold from_ at hs
      rw [if_neg hz] at hs
      cases hs
    | some k => rfl
  have go : ∀ a, (∀ b, b < a → wk rows s.cs b x ≠ y) → (h (wk rows s.cs a x)).isSome = true := by
    intro a
    induction a with
    | zero => intro _; show (h x).isSome = true; rw [hx]; rfl
    | succ a ih =>
      intro hb
      have h1 := ih fun b hb' => hb b (by omega)
      obtain ⟨_, _, v, _, _, _, _, e3, e4, _⟩ := q.ptr (dom _ (hb a (by omega)) h1)
      rw [wk_succ, e3, e4]; rfl
  have ex : ∃ a, wk rows s.cs a x = y := by
    refine Classical.byContradiction fun hn => ?_
    have all : ∀ a, dm s.cs (wk rows s.cs a x) := fun a => dom _ (fun e => hn ⟨a, e⟩) (go a fun b _ e => hn ⟨b, e⟩)
    obtain ⟨a, b, hab, hb, e⟩ := pigeon (fun a => wk rows s.cs a x) (List.range n) fun a _ => List.mem_range.mpr (dm_lt w (all a)).1
    try simp only at e
    have hd : ∀ c, c < b - a → dm s.cs (wk rows s.cs c (wk rows s.cs a x)) := fun c _ => by rw [← wk_add]; exact all _
    have he : wk rows s.cs (b - a) (wk rows s.cs a x) = wk rows s.cs a x := by
      rw [← wk_add]
      have : a + (b - a) = b := by omega
      rw [this, e]
    have p := q.path (b - a) _ hd
    rw [he] at p
    have := q.closed (by omega) hd he
    have := nn _ _ _ p.wy
    omega
  obtain ⟨a0, e0⟩ := ex
  obtain ⟨m, hm, _, hl⟩ := least (P := fun a => wk rows s.cs a x = y) a0 e0
  refine ⟨m, hm, fun a ha => ⟨hl a ha, dom _ (hl a ha) (go a fun b hb => hl b (by omega))⟩, ?_⟩
  have tel : ∀ (m x : Nat) (u : Int), h x = some u → wk rows s.cs m x = y → (∀ a, a < m → dm s.cs (wk rows s.cs a x)) → sumK rows (keys rows s.cs m x) = u := by
    intro m
    induction m with
    | zero =>
      intro x u hx e _
      have e : x = y := e
      subst e
      rw [hy] at hx
      cases hx; rfl
    | succ m ih =>
      intro x u hx e hd
      obtain ⟨y', c, v, u', e0, e1, e2, e3, e4, e5, e6, _⟩ := q.ptr (hd 0 (by omega))
      have e1 : rows[key s.cs x]? = some (x, y', c) := e1
      have e2 : rowAt rows (key s.cs x) = (x, y', c) := e2
      have e3 : nx rows s.cs x = y' := e3
      have e5 : h x = some u' := e5
      rw [hx] at e5
      cases e5
      obtain ⟨u2, f1, f2⟩ := fx _ (List.mem_of_getElem? e1) v e4
      simp only at f1 f2
      rw [hx] at f1
      cases f1
      have := ih (nx rows s.cs x) v (by rw [e3]; exact e4) e fun a ha => hd (a + 1) (by omega)
      unfold sumK at this ⊢
      rw [keys_succ, List.map_cons, List.sum_cons, this, e2]
      simp only
      omega
  exact tel m x u hx hm fun a ha => dom _ (hl a ha) (go a fun b hb => hl b (by omega))
end
end K31

namespace K31
/-! ### bounds by more and more numbers -/
def mn (i j : Int) : Int := if j < i then j else i
theorem mn_le1 (i j : Int) : mn i j ≤ i := by unfold mn; split <;> omega
theorem mn_le2 (i j : Int) : mn i j ≤ j := by unfold mn; split <;> omega
theorem mn_or (i j : Int) : mn i j = i ∨ mn i j = j := by unfold mn; split <;> simp
def FAR : Int := 10000000000000000000000000000000000000000
def m0 (x y : Nat) : Int := if x = y then 0 else FAR
def mrow (M : Nat → Nat → Int) (r : Row) : Nat → Nat → Int := fun x y => if x = r.1 ∧ y = r.2.1 then mn (M x y) r.2.2 else M x y
def m1 (rows : List Row) : Nat → Nat → Int := rows.foldl mrow m0
def rnd (M : Nat → Nat → Int) (k : Nat) : Nat → Nat → Int := fun x y => mn (M x y) (M x k + M k y)
def fw (rows : List Row) : Nat → Nat → Nat → Int
  | 0 => m1 rows
  | k + 1 => rnd (fw rows k) k
inductive Xw (rows : List Row) : Nat → Nat → Nat → Nat → Int → Prop
  | nil (x : Nat) : Xw rows x x 0 0 0
  | row {x z y l f : Nat} {c s : Int} : (x, z, c) ∈ rows → Xw rows z y l f s → Xw rows x y (l + 1) f (c + s)
  | far {x z y l f : Nat} {s : Int} : Xw rows z y l f s → Xw rows x y (l + 1) (f + 1) s
section
variable {rows : List Row}
theorem Xw.trans {x z y l m f g : Nat} {s r : Int} (a : Xw rows x z l f s) (b : Xw rows z y m g r) : Xw rows x y (l + m) (f + g) (s + r) := by
  induction a with
  | nil x => rw [Nat.zero_add, Nat.zero_add, Int.zero_add]; exact b
  | row h _ ih => rw [Nat.add_right_comm, Int.add_assoc]; exact .row h (ih b)
  | far _ ih => rw [Nat.add_right_comm, Nat.add_right_comm (n := _) (m := 1)]; exact .far (ih b)
theorem Xw.bd {C : Int} (hC : ∀ r ∈ rows, -C ≤ r.2.2 ∧ r.2.2 ≤ C) (h0 : 0 ≤ C) {x y l f : Nat} {s : Int} (a : Xw rows x y l f s) : -(l * C) ≤ s ∧ s ≤ l * C := by
  induction a with
  | nil x => simp
  | row h _ ih =>
    have := hC _ h
    simp only at this
    rw [Int.natCast_add, Int.add_mul]
    simp only [Int.natCast_one, Int.one_mul]
    omega
  | far _ ih =>
    rw [Int.natCast_add, Int.add_mul]
    simp only [Int.natCast_one, Int.one_mul]
    omega
theorem Xw.wy {x y l f : Nat} {s : Int} (a : Xw rows x y l f s) (hf : f = 0) : Wy rows x y l s := by
  induction a with
  | nil x => exact .nil x
  | row h _ ih => exact .cons h (ih hf)
  | far _ _ => omega
def att (rows : List Row) (L : Nat) (M : Nat → Nat → Int) : Prop := ∀ x y, ∃ l f s, Xw rows x y l f s ∧ l ≤ L ∧ M x y = s + f * FAR
theorem att_m1 : att rows 1 (m1 rows) := by
  have key : ∀ (rs : List Row) (M : Nat → Nat → Int), (∀ r ∈ rs, r ∈ rows) → att rows 1 M → att rows 1 (rs.foldl mrow M) := by
    intro rs
    induction rs with
    | nil => exact fun M _ h => h
    | cons r rs ih =>
      intro M hs h
      refine ih _ (fun q hq => hs q (List.mem_cons_of_mem _ hq)) fun x y => ?_
      unfold mrow
      split
      · rename_i e
        obtain ⟨rfl, rfl⟩ := e
        rcases mn_or (M r.1 r.2.1) r.2.2 with e | e
        · rw [e]; exact h _ _
        · rw [e]
          exact ⟨1, 0, r.2.2 + 0, .row (hs r List.mem_cons_self) (.nil _), Nat.le_refl _, by simp⟩
      · exact h x y
  refine key rows m0 (fun _ h => h) fun x y => ?_
  unfold m0
  split
  · rename_i e
    subst e
    exact ⟨0, 0, 0, .nil _, by omega, by simp⟩
  · exact ⟨1, 1, 0, .far (.nil _), Nat.le_refl _, by simp⟩
theorem att_fw : ∀ k, att rows (2 ^ k) (fw rows k)
  | 0 => att_m1
  | k + 1 => fun x y => by
    have ih := att_fw k
    have e2 : 2 ^ (k + 1) = 2 ^ k + 2 ^ k := by rw [Nat.pow_succ]; omega
    show ∃ l f s, Xw rows x y l f s ∧ l ≤ 2 ^ (k + 1) ∧ mn (fw rows k x y) (fw rows k x k + fw rows k k y) = s + f * FAR
    rcases mn_or (fw rows k x y) (fw rows k x k + fw rows k k y) with e | e
    · obtain ⟨l, f, s, a, b, c⟩ := ih x y
      rw [e]
      exact ⟨l, f, s, a, by omega, c⟩
    · obtain ⟨l, f, s, a, b, c⟩ := ih x k
      obtain ⟨l', f', s', a', b', c'⟩ := ih k y
      rw [e]
      refine ⟨l + l', f + f', s + s', a.trans a', by omega, ?_⟩
      rw [c, c', Int.natCast_add, Int.add_mul]
      omega
/-- a way with all numbers between its ends below k -/
inductive Wk (rows : List Row) (k : Nat) : Nat → Nat → Nat → Int → Prop
  | nil (x : Nat) : Wk rows k x x 0 0
  | one {x y : Nat} {c : Int} : (x, y, c) ∈ rows → Wk rows k x y 1 c
  | cons {x z y l : Nat} {c s : Int} : (x, z, c) ∈ rows → z < k → Wk rows k z y l s → Wk rows k x y (l + 1) (c + s)
theorem m1_facts : (∀ x, m1 rows x x ≤ 0) ∧ ∀ x y c, (x, y, c) ∈ rows → m1 rows x y ≤ c := by
  have le : ∀ (M : Nat → Nat → Int) (r : Row) (x y : Nat), mrow M r x y ≤ M x y := fun M r x y => by
    unfold mrow
    split
    · exact mn_le1 _ _
    · omega
  have key : ∀ (rs : List Row) (M : Nat → Nat → Int), (∀ x y, rs.foldl mrow M x y ≤ M x y) ∧ ∀ x y c, (x, y, c) ∈ rs → rs.foldl mrow M x y ≤ c := by
    intro rs
    induction rs with
    | nil => exact fun M => ⟨fun x y => Int.le_refl _, fun x y c h => nomatch h⟩
    | cons r rs ih =>
      intro M
      obtain ⟨a, b⟩ := ih (mrow M r)
      refine ⟨fun x y => Int.le_trans (a x y) (le M r x y), fun x y c h => ?_⟩
      rcases List.mem_cons.mp h with e | h
      · subst e
        refine Int.le_trans (a x y) ?_
        unfold mrow
        rw [if_pos ⟨rfl, rfl⟩]
        exact mn_le2 _ _
      · exact b x y c h
  refine ⟨fun x => ?_, (key rows m0).2⟩
  have := (key rows m0).1 x x
  unfold m0 at this
  rw [if_pos rfl] at this
  exact this
theorem Wk.split {k : Nat} {x y l : Nat} {s : Int} (a : Wk rows (k + 1) x y l s) : Wk rows k x y l s ∨ ∃ l1 l2 s1 s2, Wk rows k x k l1 s1 ∧ Wk rows (k + 1) k y l2 s2 ∧ l2 < l ∧ s = s1 + s2 := by
  induction a with
  | nil x => exact .inl (.nil x)
  | one h => exact .inl (.one h)
  | @cons x z y l c s h hz w ih =>
    by_cases e : z = k
    · subst e
      exact .inr ⟨1, l, c, s, .one h, w, by omega, rfl⟩
    · have hk : z < k := by omega
      rcases ih with ih | ⟨l1, l2, s1, s2, a, b, d, e⟩
      · exact .inl (.cons h hk ih)
      · exact .inr ⟨l1 + 1, l2, c + s1, s2, .cons h hk a, b, by omega, by omega⟩
theorem fw_low : ∀ (k : Nat), (∀ a, a < k → 0 ≤ fw rows a a a) → ∀ (x y l : Nat) (s : Int), Wk rows k x y l s → fw rows k x y ≤ s
  | 0, _, x, y, l, s, w => by
    cases w with
    | nil => exact m1_facts.1 x
    | one h => exact m1_facts.2 x y s h
    | cons h hz _ => omega
  | k + 1, hd, x, y, l, s, w => by
    have ih := fw_low k fun a ha => hd a (by omega)
    have st : ∀ (l : Nat) (y : Nat) (s : Int), Wk rows (k + 1) k y l s → fw rows k k y ≤ s := by
      intro l
      induction l using Nat.strongRecOn with
      | _ l ih2 =>
        intro y s w
        rcases w.split with w | ⟨l1, l2, s1, s2, a, b, d, e⟩
        · exact ih k y l s w
        · have h1 := ih k k l1 s1 a
          have h2 := ih2 l2 d y s2 b
          have := hd k (by omega)
          omega
    show mn (fw rows k x y) (fw rows k x k + fw rows k k y) ≤ s
    rcases w.split with w | ⟨l1, l2, s1, s2, a, b, d, e⟩
    · exact Int.le_trans (mn_le1 _ _) (ih x y l s w)
    · have h1 := ih x k l1 s1 a
      have h2 := st l2 y s2 b
      have := mn_le2 (fw rows k x y) (fw rows k x k + fw rows k k y)
      omega
theorem fw_mono {x y : Nat} : ∀ {k m : Nat}, k ≤ m → fw rows m x y ≤ fw rows k x y := by
  intro k m h
  induction m with
  | zero => have : k = 0 := by omega
            subst this; exact Int.le_refl _
  | succ m ih =>
    by_cases e : k = m + 1
    · subst e; exact Int.le_refl _
    · exact Int.le_trans (mn_le1 _ _) (ih (by omega))
def rok (n : Nat) (rows : List Row) : Prop := ∀ r ∈ rows, r.1 < n ∧ r.2.1 < n
theorem Wy.wk {n : Nat} (hr : rok n rows) {x y l : Nat} {s : Int} (a : Wy rows x y l s) : Wk rows n x y l s := by
  induction a with
  | nil x => exact .nil x
  | cons h _ ih => exact .cons h (hr _ h).2 ih
theorem fw_le {n : Nat} (hr : rok n rows) (hd : ∀ x, x < n → 0 ≤ fw rows n x x) {x y l : Nat} {s : Int} (a : Wy rows x y l s) : fw rows n x y ≤ s :=
  fw_low n (fun a ha => Int.le_trans (hd a ha) (fw_mono (by omega))) x y l s (a.wk hr)
/-- sizes -/
def CB : Int := 10000000000000000000000
def small (rows : List Row) : Prop := ∀ r ∈ rows, -CB ≤ r.2.2 ∧ r.2.2 ≤ CB
theorem pow6 {n : Nat} (h : n ≤ 6) : 2 ^ n ≤ 64 := by
  have := Nat.pow_le_pow_right (n := 2) (by omega) h
  simpa using this
theorem fw_at {n : Nat} (hn : n ≤ 6) (sm : small rows) (x y : Nat) : (∃ l, Wy rows x y l (fw rows n x y) ∧ fw rows n x y ≤ 64 * CB) ∨ FAR - 64 * CB ≤ fw rows n x y := by
  obtain ⟨l, f, s, a, b, c⟩ := att_fw (rows := rows) n x y
  have b2 := pow6 hn
  have bd := a.bd sm (by decide)
  have hl : (l : Int) ≤ 64 := by omega
  have hlC : (l : Int) * CB ≤ 64 * CB := Int.mul_le_mul_of_nonneg_right hl (by decide)
  by_cases hf : f = 0
  · subst hf
    left
    have e : fw rows n x y = s := by rw [c]; simp
    rw [e]
    exact ⟨l, a.wy rfl, by omega⟩
  · right
    have h1 : (1 : Int) ≤ f := by omega
    have h2 : 1 * FAR ≤ (f : Int) * FAR := Int.mul_le_mul_of_nonneg_right h1 (by decide)
    rw [c]
    omega
theorem can_iff {n : Nat} (hn : n ≤ 6) (hr : rok n rows) (sm : small rows) : (∀ x, x < n → 0 ≤ fw rows n x x) ↔ noNeg rows := by
  constructor
  · intro hd x l s a
    by_cases hx : x < n
    · exact Int.le_trans (hd x hx) (fw_le hr hd a)
    · cases a with
      | nil => exact Int.le_refl _
      | cons h _ => exact absurd (hr _ h).1 hx
  · intro nn x _
    rcases fw_at hn sm x x with ⟨l, a, _⟩ | h
    · exact nn _ _ _ a
    · refine Int.le_trans ?_ h; decide
variable {h : Nat → Option Int} {t : Nat → Nat} {j i N n : Nat} {cm : Nat → Option Nat}
theorem wy_small (sm : small rows) {x y l : Nat} {s : Int} (a : Wy rows x y l s) (hl : l ≤ 100) : s ≤ 100 * CB := by
  have bd := a.bd sm
  have h1 : (l : Int) ≤ 100 := by omega
  have : (l : Int) * CB ≤ 100 * CB := Int.mul_le_mul_of_nonneg_right h1 (by decide)
  omega
def BIG : Int := 100000000000000000000000000000000000
theorem bnd_some {y x : Nat} {u : Int} (hn : n ≤ 6) (hr : rok n rows) (sm : small rows) (nn : noNeg rows) (q : J rows (from_ y) h cm t j i N) (hy : h y = some 0) (fx : ∀ r ∈ rows, sat h r) (hN : N ≤ 100) (hx : h x = some u) : fw rows n x y = u ∧ u ≤ BIG := by
  have hd := (can_iff hn hr sm).mpr nn
  obtain ⟨w, l, s, v, a, b, c, d⟩ := q.G x u hx
  obtain ⟨rfl, rfl⟩ := from_some b
  have eu : u = s := by omega
  subst eu
  have l1 := fw_le hr hd a
  have l2 := wy_small sm a (by omega)
  have l3 : 100 * CB ≤ BIG := by decide
  refine ⟨?_, by omega⟩
  rcases fw_at hn sm x w with ⟨l', a', _⟩ | h'
  · obtain ⟨u', hu', le⟩ := sat_way fx a' hy
    rw [hx] at hu'
    cases hu'
    omega
  · have l4 : BIG < FAR - 64 * CB := by decide
    omega
theorem bnd_none {y x : Nat} (hn : n ≤ 6) (sm : small rows) (hy : h y = some 0) (fx : ∀ r ∈ rows, sat h r) (hx : h x = none) : BIG < fw rows n x y := by
  rcases fw_at hn sm x y with ⟨l', a', _⟩ | h'
  · obtain ⟨u', hu', le⟩ := sat_way fx a' hy
    rw [hx] at hu'
    cases hu'
  · have l4 : BIG < FAR - 64 * CB := by decide
    omega
def zero_ (n : Nat) : Nat → Option Int := fun z => if z < n then some 0 else none
theorem zero_some {n w : Nat} {v : Int} (e : zero_ n w = some v) : w < n ∧ v = 0 := by
  unfold zero_ at e
  split at e
  · rename_i h; cases e; exact ⟨h, rfl⟩
  · cases e
/-- the heights are the least of 0 and the bounds -/
theorem height_le {x y : Nat} {u : Int} (hn : n ≤ 6) (sm : small rows) (q : J rows (zero_ n) h cm t j i N) (fx : ∀ r ∈ rows, sat h r) (hx : h x = some u) (hxn : x < n) : u ≤ 0 ∧ (y < n → u ≤ fw rows n x y) := by
  have z : u ≤ 0 := by
    obtain ⟨u', hu', le⟩ := q.M x 0 (if_pos hxn)
    rw [hx] at hu'
    cases hu'
    exact le
  refine ⟨z, fun hy => ?_⟩
  rcases fw_at hn sm x y with ⟨l', a', _⟩ | h'
  · obtain ⟨v, hv, le⟩ := q.M y 0 (if_pos hy)
    obtain ⟨u', hu', le2⟩ := sat_way fx a' hv
    rw [hx] at hu'
    cases hu'
    omega
  · have l4 : 0 ≤ FAR - 64 * CB := by decide
    omega
theorem height_at {x : Nat} {u : Int} (hr : rok n rows) (hd : ∀ x, x < n → 0 ≤ fw rows n x x) (q : J rows (zero_ n) h cm t j i N) (hx : h x = some u) : ∃ y, y < n ∧ fw rows n x y ≤ u := by
  obtain ⟨w, l, s, v, a, b, c, d⟩ := q.G x u hx
  obtain ⟨hw, rfl⟩ := zero_some b
  have := fw_le hr hd a
  exact ⟨w, hw, by omega⟩
end
end K31

namespace K31
open PySem PySem.Spec PyProof.Rows L2 Py
/-! ### values -/
def rowD (r : Row) : D := .tup [.int r.1, .int r.2.1, .int r.2.2]
def ov : Option Int → D
  | none => .non
  | some i => .int i
def onD : Option Nat → D
  | none => .non
  | some i => .int i
def kD (p : Nat × Nat) : D := .int (p.1 : Int)
def vD (p : Nat × Nat) : D := .int (p.2 : Int)
def dctC (cs : List (Nat × Nat)) : DO := .dct false (cs.map kD) (cs.map vD)
@[simp ↓] theorem m_row {r : Row} {h : Hd} {Q : PD} : mat (rowD r) h Q = Q (rowD r) h := rfl
@[simp ↓] theorem m_ov {o : Option Int} {h : Hd} {Q : PD} : mat (ov o) h Q = Q (ov o) h := by cases o <;> rfl
@[simp ↓] theorem m_onD {o : Option Nat} {h : Hd} {Q : PD} : mat (onD o) h Q = Q (onD o) h := by cases o <;> rfl
@[simp] theorem isNon_ov {o : Option Int} : isNonD (ov o) = decide (o = none) := by cases o <;> rfl
@[simp] theorem isNon_onD {o : Option Nat} : isNonD (onD o) = decide (o = none) := by cases o <;> rfl
theorem dGet_cs {x : Nat} : ∀ cs : List (Nat × Nat), dGet (cs.map kD) (cs.map vD) (.inl (x : Int)) = (lk cs x).map fun k => D.int (k : Int)
  | [] => rfl
  | p :: cs => by
    rw [List.map_cons, List.map_cons, lk_cons]
    have ih := dGet_cs (x := x) cs
    simp only [dGet, kD, dkey, Option.some.injEq, Sum.inl.injEq, vD]
    by_cases h : p.1 = x
    · rw [if_pos (by omega), if_pos h]; rfl
    · rw [if_neg (by omega), if_neg h]; exact ih
theorem dHas_cs {x : Nat} (cs : List (Nat × Nat)) : dHas (cs.map kD) (.inl (x : Int)) = cs.any fun p => decide (p.1 = x) := by
  unfold dHas
  rw [List.any_map]
  congr 1
  funext p
  simp only [Function.comp, kD, dkey, Option.some.injEq, Sum.inl.injEq]
  exact decide_eq_decide.mpr (by omega)
theorem dPut_cs {x k : Nat} (cs : List (Nat × Nat)) : dPut (cs.map kD) (cs.map vD) (.inl (x : Int)) (.int (k : Int)) = ((put cs x k).map kD, (put cs x k).map vD) := by
  unfold dPut put
  rw [dHas_cs]
  by_cases ha : (cs.any fun p => decide (p.1 = x)) = true
  · rw [if_pos ha, if_pos ha]
    refine Prod.ext ?_ ?_
    · show cs.map kD = _
      rw [List.map_map]
      refine List.map_congr_left fun p _ => ?_
      simp only [Function.comp]
      split
      · rename_i e; unfold kD; rw [e]
      · rfl
    · show List.zipWith _ (cs.map kD) (cs.map vD) = _
      rw [List.map_map]
      clear ha
      induction cs with
      | nil => rfl
      | cons p cs ih =>
        simp only [List.map_cons, List.zipWith_cons_cons, ih, Function.comp]
        congr 1
        simp only [kD, dkey, Option.some.injEq, Sum.inl.injEq]
        by_cases e : p.1 = x
        · rw [if_pos (by omega), if_pos e]; rfl
        · rw [if_neg (by omega), if_neg e]
  · rw [if_neg ha, if_neg ha, List.map_append, List.map_append]; rfl
/-! heaps that go on -/
def Fr (h h' : Hd) (b : Nat) : Prop := h.length ≤ h'.length ∧ ∀ i, i < h.length → i ≠ b → h'[i]? = h[i]?
def Ex (h h' : Hd) : Prop := h.length ≤ h'.length ∧ ∀ i, i < h.length → h'[i]? = h[i]?
theorem Ex.refl {h : Hd} : Ex h h := ⟨Nat.le_refl _, fun _ _ => rfl⟩
theorem Ex.app {h h' l : Hd} (e : Ex h h') : Ex h (h' ++ l) := ⟨by have := e.1; simp; omega, fun i hi => by rw [List.getElem?_append_left (by have := e.1; omega)]; exact e.2 i hi⟩
theorem Ex.set {h h' : Hd} {a : Nat} {o : DO} (e : Ex h h') (ha : h.length ≤ a) : Ex h (h'.set a o) := ⟨by simpa using e.1, fun i hi => by rw [List.getElem?_set_ne (by omega)]; exact e.2 i hi⟩
theorem Ex.fr {h h' h2 : Hd} {b : Nat} (e : Ex h h') (f : Fr h' h2 b) (hb : h.length ≤ b) : Ex h h2 := ⟨Nat.le_trans e.1 f.1, fun i hi => by rw [f.2 i (by have := e.1; omega) (by omega)]; exact e.2 i hi⟩
theorem Ex.trans {h h' h2 : Hd} (e : Ex h h') (f : Ex h' h2) : Ex h h2 := ⟨Nat.le_trans e.1 f.1, fun i hi => by rw [f.2 i (by have := e.1; omega)]; exact e.2 i hi⟩
theorem Ex.look {h h' : Hd} {a : Nat} {o : DO} (e : Ex h h') (ha : h[a]? = some o) : h'[a]? = some o := by
  rw [e.2 a (List.getElem?_eq_some_iff.mp ha).1]; exact ha
theorem Ex.take {h h' : Hd} (e : Ex h h') : h'.take h.length = h := by
  refine List.ext_getElem? fun i => ?_
  by_cases hi : i < h.length
  · rw [List.getElem?_take_of_lt hi]; exact e.2 i hi
  · rw [List.getElem?_eq_none (by rw [List.length_take]; omega), List.getElem?_eq_none (by omega)]
theorem gc_ex {h h' : Hd} {v : D} {Q : PD} (e : Ex h h') (c : v.clean h.length) (q : Q v h) : Gc h v h' Q := by
  refine .inr (.inl ⟨c, ⟨e.1, fun i o hi eo => .inl ?_⟩, by rw [e.take]; exact q⟩)
  rw [← e.2 i hi]; exact eo
theorem Fr.refl {h : Hd} {b : Nat} : Fr h h b := ⟨Nat.le_refl _, fun _ _ _ => rfl⟩
theorem Fr.app {h h' l : Hd} {b : Nat} (e : Fr h h' b) : Fr h (h' ++ l) b := ⟨by have := e.1; simp; omega, fun i hi hb => by rw [List.getElem?_append_left (by have := e.1; omega)]; exact e.2 i hi hb⟩
theorem Fr.set {h h' : Hd} {a b : Nat} {o : DO} (e : Fr h h' b) (ha : h.length ≤ a ∨ a = b) : Fr h (h'.set a o) b := ⟨by simpa using e.1, fun i hi hb => by rw [List.getElem?_set_ne (by omega)]; exact e.2 i hi hb⟩
theorem ixN_nat {n x : Nat} (h : x < n) : ixN n (x : Int) = some x := by
  unfold ixN
  rw [if_pos (by omega), if_pos (by omega)]
  simp
theorem at_ov {hs : List (Option Int)} {x : Nat} (h : x < hs.length) : atI (hs.map ov) (x : Int) = some (ov (hv hs x)) := atI_map_nat (by unfold hv; rw [List.getD, List.getElem?_eq_getElem h]; rfl)
theorem at_row {rows : List Row} {k : Nat} {r : Row} (h : rows[k]? = some r) : atI (rows.map rowD) (k : Int) = some (rowD r) := atI_map_nat h
theorem lowered_spec {d n a b : Nat} {rows : List Row} {hs : List (Option Int)} {cs : List (Nat × Nat)} {h : Hd} {Q : PD} (hr : rok n rows) (hl : rows.length ≤ 1000) (hn : hs.length = n) (hw : Wf n ⟨hs, cs, none⟩) (hn2 : n ≤ 1000) (ea : h[a]? = some (.lst (hs.map ov))) (eb : h[b]? = some (dctC cs))
    (q : ∀ h', Fr h h' b → h.length < h'.length → h'[b]? = some (dctC (low rows ⟨hs, cs, none⟩).cs) → h'[h.length]? = some (.lst ((low rows ⟨hs, cs, none⟩).hs.map ov)) → Q (.tup [.loc h.length, onD (low rows ⟨hs, cs, none⟩).last]) h') :
    wpCall gl F (d+1) 0 [.tup (rows.map rowD), .loc a, .loc b] h Q := by
  have hz : sizeLine > 200000 := by decide
  have hb : b < h.length := (List.getElem?_eq_some_iff.mp eb).1
  refine call_of (c := d_lowered) rfl rfl ?_
  simp [startD, b_lowered, ea]
  refine nxt_of ?_
  simp
  refine nxt_of ?_
  simp
  refine ⟨by omega, ?_⟩
  refine for_range (fun i τ h' => ∃ (s : SS) (t5 t6 t7 t8 : Option D), τ = [some (.tup (rows.map rowD)), some (.loc a), some (.loc b), some (.loc h.length), some (onD s.last), t5, t6, t7, t8] ∧ Wf n s ∧ pass (rows.drop i) i s = low rows ⟨hs, cs, none⟩ ∧
    Fr h h' b ∧ h.length < h'.length ∧ h'[b]? = some (dctC s.cs) ∧ h'[h.length]? = some (.lst (s.hs.map ov)))
    ⟨⟨hs, cs, none⟩, _, _, _, _, rfl, hw, rfl, Fr.refl.app, by simp, look_app eb, by simp⟩ (fun _ => trivial) ?_ ?_
  · rintro i τ h' k hi ⟨s, t5, t6, t7, t8, rfl, w, hp, fr, hlt, kb, kl⟩ hk
    have er : rows[i]? = some rows[i] := List.getElem?_eq_getElem hi
    obtain ⟨r1, r2⟩ := hr _ (List.getElem_mem hi)
    have hpp : pass (rows.drop (i + 1)) (i + 1) (stp i rows[i] s) = low rows ⟨hs, cs, none⟩ := by
      rw [← hp, List.drop_eq_getElem_cons hi]; rfl
    have ws := w.stp (k := i) r1
    generalize rows[i] = r at er r1 r2 hpp ws
    obtain ⟨x, y, c⟩ := r
    simp only at r1 r2
    have ax := at_ov (hs := s.hs) (x := x) (by rw [w.len]; exact r1)
    have ay := at_ov (hs := s.hs) (x := y) (by rw [w.len]; exact r2)
    simp [at_row er, rowD]
    refine nxt_of ?_
    simp [kl, ay, ax]
    have stay : relax (hv s.hs) (x, y, c) = none → k [some (.tup (rows.map rowD)), some (.loc a), some (.loc b), some (.loc h.length), some (onD s.last), some (.int i), some (.int x), some (.int y), some (.int c)] h' := fun e => by
      refine hk _ _ ⟨s, _, _, _, _, rfl, w, ?_, fr, hlt, kb, kl⟩
      have : stp i (x, y, c) s = s := by unfold stp; rw [e]
      rw [this] at hpp
      exact hpp
    have xl : x < s.hs.length := by rw [w.len]; exact r1
    cases hy : hv s.hs y with
    | none =>
      simp
      exact stay (by unfold relax; simp only [hy])
    | some v =>
      rw [hy] at ay
      simp
      have move : ∀ Z : Endd, Z.nx = k → relax (hv s.hs) (x, y, c) = some (v + c) → nxt (wpCall gl F d) gl (.seq (.setIdx (.var 3) (.var 6) (.prim .add (.acons (.prim .idx (.acons (.var 3) (.acons (.var 7) .anil))) (.acons (.var 8) .anil))))
          (.seq (.setIdx (.var 2) (.var 6) (.var 5)) (.seq (.asg (.nm 4) (.var 6)) .nil))) Z
          [some (.tup (rows.map rowD)), some (.loc a), some (.loc b), some (.loc h.length), some (onD s.last), some (.int i), some (.int x), some (.int y), some (.int c)] h' := by
        intro Z hZ e
        refine nxt_of ?_
        have cl2 := cs_len w
        simp [kl, ay, ov, ixN_nat xl]
        refine nxt_of ?_
        have kb2 : (h'.set h.length (.lst ((s.hs.map ov).set x (.int (v + c)))))[b]? = some (dctC s.cs) := by rw [List.getElem?_set_ne (by omega)]; exact kb
        simp [kb2, dctC, dPut_cs]
        refine ⟨by omega, ?_⟩
        refine nxt_of ?_
        simp [hZ]
        have est : stp i (x, y, c) s = ⟨s.hs.set x (some (v + c)), put s.cs x i, some x⟩ := by unfold stp; rw [e]
        rw [est] at hpp ws
        refine hk _ _ ⟨_, _, _, _, _, rfl, ws, hpp, (fr.set (.inl (Nat.le_refl _))).set (.inr rfl), by simpa using hlt, ?_, ?_⟩
        · rw [List.getElem?_set_self (by simp; omega)]; rfl
        · rw [List.getElem?_set_ne (by omega), List.getElem?_set_self hlt, List.map_set]; rfl
      cases hx : hv s.hs x with
      | none =>
        simp
        exact move _ rfl (by unfold relax; simp only [hy, hx])
      | some u =>
        rw [hx] at ax
        simp [ov, kl, ax]
        by_cases lt : v + c < u
        · simp [lt]
          exact move _ rfl (by unfold relax; simp only [hy, hx, if_pos lt])
        · simp [lt]
          exact stay (by unfold relax; simp only [hy, hx, if_neg lt])
  · rintro τ h' ⟨s, t5, t6, t7, t8, rfl, w, hp, fr, hlt, kb, kl⟩
    rw [List.drop_length] at hp
    have hp : s = low rows ⟨hs, cs, none⟩ := hp
    refine nxt_of ?_
    simp
    rw [hp] at kb kl ⊢
    exact ⟨by omega, gc_same (q h' fr hlt kb kl)⟩
end K31

namespace K31
open PySem PySem.Spec PyProof.Rows L2 Py
theorem settle_none {rows : List Row} {s : SS} (e : s.last = none) : ∀ m, settle rows m s = s
  | 0 => rfl
  | m + 1 => by unfold settle; rw [if_pos e]
theorem Wf.low {rows : List Row} {n : Nat} {s : SS} (w : Wf n s) (hr : rok n rows) : Wf n (low rows s) := by
  have key : ∀ (rs : List Row) (i : Nat) (s : SS), Wf n s → (∀ r ∈ rs, r.1 < n) → Wf n (pass rs i s) := by
    intro rs
    induction rs with
    | nil => exact fun i s w _ => w
    | cons r rs ih => exact fun i s w h => ih _ _ (w.stp (h r List.mem_cons_self)) fun q hq => h q (List.mem_cons_of_mem _ hq)
  exact key rows 0 _ ⟨w.len, w.nd, w.lt⟩ fun r hr' => (hr r hr').1
theorem settled_spec {d n a : Nat} {rows : List Row} {hs : List (Option Int)} {h : Hd} {Q : PD} (hr : rok n rows) (hl : rows.length ≤ 1000) (hn : hs.length = n) (hn2 : n ≤ 1000) (ea : h[a]? = some (.lst (hs.map ov)))
    (q : ∀ h' i j, Ex h h' → h'[i]? = some (.lst ((settled n rows hs).hs.map ov)) → h'[j]? = some (dctC (settled n rows hs).cs) → Q (.tup [.loc i, .loc j, onD (settled n rows hs).last]) h') :
    wpCall gl F (d+2) 1 [.int n, .tup (rows.map rowD), .loc a] h Q := by
  have hz : sizeLine > 200000 := by decide
  have w0 : Wf n ⟨hs, [], none⟩ := ⟨hn, List.nodup_nil, fun p h => nomatch h⟩
  refine call_of (c := d_settled_heights) rfl rfl ?_
  simp [startD, b_settled_heights, ea]
  refine ⟨by omega, ?_⟩
  refine nxt_of ?_
  simp
  refine lowered_spec (a := h.length) (b := h.length + 1) (hs := hs) (cs := []) hr hl hn w0 hn2 (by simp) (by simp [dctC]) fun h1 fr hlt kb kl => ?_
  have e1 : Ex h h1 := (Ex.refl.app (l := [.lst (hs.map ov), .dct false [] []])).fr fr (by omega)
  have hl1 : h.length + 1 < h1.length := by have := fr.1; simp at this; omega
  simp
  refine nxt_of ?_
  simp
  refine nxt_of ?_
  simp
  have wl := w0.low (rows := rows) hr
  simp only [List.length_append, List.length_cons, List.length_nil] at kl
  refine ⟨fun m τ h' => ∃ (s : SS) (i tm : Nat), τ = [some (.int n), some (.tup (rows.map rowD)), some (.loc a), some (.loc i), some (.loc (h.length + 1)), some (onD s.last), some (.int tm)] ∧ m = n + 1 - tm ∧ 1 ≤ tm ∧ tm ≤ n + 1 ∧ Wf n s ∧ settle rows (n + 1 - tm) s = settled n rows hs ∧
    Ex h h' ∧ h.length + 1 < h'.length ∧ h'[h.length + 1]? = some (dctC s.cs) ∧ h'[i]? = some (.lst (s.hs.map ov)), ⟨n, low rows ⟨hs, [], none⟩, _, 1, rfl, by omega, by omega, by omega, wl, rfl, e1, hl1, kb, kl⟩, ?_⟩
  rintro m τ h' ⟨s, i, tm, rfl, rfl, t1, t2, w, es, ex, hlt', kb', kl'⟩
  simp
  by_cases hlast : s.last = none
  · simp [hlast]
    refine nxt_of ?_
    simp
    rw [settle_none hlast] at es
    rw [← es] at q
    have := q h' i (h.length + 1) ex kl' kb'
    rw [hlast] at this
    exact ⟨by omega, gc_same this⟩
  · simp [hlast]
    by_cases htm : tm ≤ n
    · have ht : (tm : Int) ≤ n := by omega
      simp [htm]
      obtain ⟨m', hm'⟩ : ∃ m', n + 1 - tm = m' + 1 := ⟨n - tm, by omega⟩
      rw [hm'] at es
      unfold settle at es
      rw [if_neg hlast] at es
      refine lowered_spec (a := i) (b := h.length + 1) (hs := s.hs) (cs := s.cs) hr hl w.len ⟨w.len, w.nd, w.lt⟩ hn2 kl' kb' fun h2 fr2 hlt2 kb2 kl2 => ?_
      simp
      refine nxt_of ?_
      simp
      refine ⟨m', by omega, low rows ⟨s.hs, s.cs, none⟩, h'.length, tm + 1, ⟨rfl, rfl, by omega⟩, by omega, by omega, by omega, Wf.low (s := ⟨s.hs, s.cs, none⟩) ⟨w.len, w.nd, w.lt⟩ hr, ?_, ex.fr fr2 (by omega), (by have := fr2.1; omega), kb2, kl2⟩
      have : n + 1 - (tm + 1) = m' := by omega
      rw [this]
      exact es
    · have ht : ¬ (tm : Int) ≤ n := by omega
      simp [htm]
      refine nxt_of ?_
      simp
      have : n + 1 - tm = 0 := by omega
      rw [this] at es
      have es : s = settled n rows hs := es
      rw [← es] at q
      exact ⟨by omega, gc_same (q h' i (h.length + 1) ex kl' kb')⟩
theorem cleans_ov {n : Nat} : ∀ hs : List (Option Int), D.cleans n (hs.map ov)
  | [] => trivial
  | o :: hs => ⟨by cases o <;> trivial, cleans_ov hs⟩
def zeros (n : Nat) : List (Option Int) := List.replicate n (some 0)
theorem zeros_len (n : Nat) : (zeros n).length = n := List.length_replicate
theorem hv_zeros {n : Nat} : hv (zeros n) = zero_ n := by
  funext z
  unfold hv zeros zero_
  rw [List.getD, List.getElem?_replicate]
  split <;> rfl
theorem zeros_D (n : Nat) : List.replicate n (D.int 0) = (zeros n).map ov := by unfold zeros; rw [List.map_replicate]; rfl
theorem heights_spec {d n : Nat} {rows : List Row} {h : Hd} {Q : PD} (hr : rok n rows) (hl : rows.length ≤ 1000) (hn2 : n ≤ 1000) (q : Q (if (settled n rows (zeros n)).last = none then .tup ((settled n rows (zeros n)).hs.map ov) else .non) h) :
    wpCall gl F (d+3) 2 [.int n, .tup (rows.map rowD)] h Q := by
  have hz : sizeLine > 200000 := by decide
  refine call_of (c := d_heights_for) rfl rfl ?_
  simp [startD, b_heights_for, zeros_D]
  refine ⟨by omega, by omega, by omega, ?_⟩
  refine settled_spec (hs := zeros n) hr hl (zeros_len n) hn2 (by simp) fun h' i j ex ki kj => ?_
  have ex : Ex h h' := Ex.refl.app.trans ex
  simp
  refine nxt_of ?_
  simp
  by_cases e : (settled n rows (zeros n)).last = none
  · rw [if_pos e] at q
    simp [e, ki]
    exact gc_ex ex (cleans_ov _) q
  · rw [if_neg e] at q
    simp [e]
    exact gc_ex ex trivial q
end K31

namespace K31
open PySem PySem.Spec PyProof.Rows L2 Py
theorem toZ_D (ks : List Nat) : (toZ ks).map D.int = ks.map fun (k : Nat) => D.int (k : Int) := by unfold toZ; rw [List.map_map]; rfl
def rowf (rows : List Row) (cs : List (Nat × Nat)) : Prop := ∀ z, dm cs z → ∃ x c, lk cs z = some (key cs z) ∧ rows[key cs z]? = some (x, nx rows cs z, c)
theorem J.rowf {rows : List Row} {cs : List (Nat × Nat)} {h0 h : Nat → Option Int} {t : Nat → Nat} {j i N : Nat} (q : J rows h0 h (lk cs) t j i N) : rowf rows cs := fun z hd => by
  obtain ⟨y, c, v, u, e0, e1, e2, e3, _⟩ := q.ptr hd
  exact ⟨z, c, e0, by rw [e3]; exact e1⟩
theorem ring_from_spec {d b x m : Nat} {rows : List Row} {cs : List (Nat × Nat)} {h : Hd} {Q : PD} (eb : h[b]? = some (dctC cs)) (rf : rowf rows cs) (hd : ∀ a, dm cs (wk rows cs a x)) (hm : 1 ≤ m)
    (e : wk rows cs m (wk rows cs cs.length x) = wk rows cs cs.length x) (mi : ∀ a, 1 ≤ a → a < m → wk rows cs a (wk rows cs cs.length x) ≠ wk rows cs cs.length x) (hcl : cs.length ≤ 1000) (hm2 : m ≤ 1000)
    (q : Q (.tup ((toZ (keys rows cs m (wk rows cs cs.length x))).map D.int)) h) : wpCall gl F (d+1) 5 [.tup (rows.map rowD), .loc b, .int x] h Q := by
  have hz : sizeLine > 200000 := by decide
  refine call_of (c := d_ring_from) rfl rfl ?_
  simp [startD, b_ring_from]
  refine nxt_of ?_
  simp [eb, dctC]
  refine ⟨by omega, ?_⟩
  refine for_range (fun i τ h' => h' = h ∧ ∃ t4, τ = [some (.tup (rows.map rowD)), some (.loc b), some (.int x), some (.int (wk rows cs i x : Nat)), t4, none, none]) ⟨rfl, _, rfl⟩ (fun _ => trivial) ?_ ?_
  · rintro i τ h' k hi ⟨rfl, t4, rfl⟩ hk
    obtain ⟨x', c, e0, e1⟩ := rf _ (hd i)
    simp [eb, dctC, dGet_cs, e0, at_row e1, rowD]
    refine hk _ _ ⟨rfl, some (.int i), ?_⟩
    rw [wk_succ]
  · rintro τ h' ⟨rfl, t4, rfl⟩
    have hdh : ∀ a, dm cs (wk rows cs a (wk rows cs cs.length x)) := fun a => by rw [← wk_add]; exact hd _
    generalize wk rows cs cs.length x = here at e mi q hdh ⊢
    obtain ⟨x', c, e0, e1⟩ := rf _ (hdh 0)
    have e0 : lk cs here = some (key cs here) := e0
    have e1 : rows[key cs here]? = some (x', nx rows cs here, c) := e1
    refine nxt_of ?_
    simp [eb, dctC, dGet_cs, e0]
    refine ⟨by omega, ?_⟩
    refine nxt_of ?_
    have ebl : ∀ l : Hd, (h' ++ l)[b]? = some (dctC cs) := fun l => look_app eb
    simp only [dctC] at ebl
    simp [ebl, dGet_cs, e0, at_row e1, rowD]
    refine nxt_of ?_
    simp
    refine ⟨fun k τ h2 => ∃ i, i + 1 ≤ m ∧ k = m - i ∧ h2 = h' ++ [.lst ((toZ (keys rows cs (i + 1) here)).map D.int)] ∧ τ = [some (.tup (rows.map rowD)), some (.loc b), some (.int x), some (.int (here : Nat)), t4, some (.loc h'.length), some (.int (wk rows cs (i + 1) here : Nat))],
      ⟨m, 0, hm, rfl, rfl, rfl⟩, ?_⟩
    rintro k τ h2 ⟨i, hi, rfl, rfl, rfl⟩
    simp
    by_cases hend : wk rows cs (i + 1) here = here
    · have him : i + 1 = m := by
        refine Nat.le_antisymm hi (Nat.le_of_not_lt fun lt => ?_)
        exact mi (i + 1) (by omega) lt hend
      rw [← him] at q
      simp [hend]
      refine nxt_of ?_
      simp
      exact gc_app (cleans_ints _) q
    · have hne : ¬ ((wk rows cs (i + 1) here : Nat) : Int) = (here : Int) := by omega
      have hne2 : i + 1 < m := by
        refine Nat.lt_of_le_of_ne hi fun z => hend ?_
        rw [z]; exact e
      obtain ⟨x2, c2, f0, f1⟩ := rf _ (hdh (i + 1))
      simp [hne, hend, ebl, dGet_cs, f0]
      have kl := keys_len (rows := rows) (cs := cs) (i + 1) here
      refine ⟨by simp [toZ, kl]; omega, ?_⟩
      refine nxt_of ?_
      simp [ebl, dGet_cs, f0, at_row f1, rowD]
      refine ⟨m - (i + 1), by omega, i + 1, by omega, rfl, ?_, ?_⟩
      · rw [keys_snoc (i + 1)]
        simp [toZ]
      · rw [wk_succ (i + 1)]
def ringD : Option (List Int) → D
  | none => .non
  | some r => .tup (r.map D.int)
theorem ring_spec {d n : Nat} {rows : List Row} {h : Hd} {Q : PD} (hr : rok n rows) (hl : rows.length ≤ 1000) (hn2 : n ≤ 1000)
    (q : ∀ o, ((o = none ∧ (settled n rows (zeros n)).last = none) ∨ ∃ x m, o = some (toZ (keys rows (settled n rows (zeros n)).cs m (wk rows (settled n rows (zeros n)).cs (settled n rows (zeros n)).cs.length x))) ∧ (settled n rows (zeros n)).last = some x ∧ 1 ≤ m ∧ m ≤ n ∧
      (∀ a, 1 ≤ a → a < m → wk rows (settled n rows (zeros n)).cs a (wk rows (settled n rows (zeros n)).cs (settled n rows (zeros n)).cs.length x) ≠ wk rows (settled n rows (zeros n)).cs (settled n rows (zeros n)).cs.length x) ∧
      isRing rows (toZ (keys rows (settled n rows (zeros n)).cs m (wk rows (settled n rows (zeros n)).cs (settled n rows (zeros n)).cs.length x))) = true) → Q (ringD o) h) :
    wpCall gl F (d+3) 6 [.int n, .tup (rows.map rowD)] h Q := by
  have hz : sizeLine > 200000 := by decide
  refine call_of (c := d_ring_of) rfl rfl ?_
  simp [startD, b_ring_of, zeros_D]
  refine ⟨by omega, by omega, by omega, ?_⟩
  refine settled_spec (hs := zeros n) hr hl (zeros_len n) hn2 (by simp) fun h' i j ex ki kj => ?_
  have ex : Ex h h' := Ex.refl.app.trans ex
  simp
  refine nxt_of ?_
  simp
  obtain ⟨t, j1, N, J1, w, _, _, hlast⟩ := settled_ok (rows := rows) (zeros_len n) fun r hr' => (hr r hr').1
  generalize settled n rows (zeros n) = s at q ki kj J1 w hlast ⊢
  cases e : s.last with
  | none =>
    simp [onD, isNonD]
    exact gc_ex ex trivial (q none (.inl ⟨rfl, e⟩))
  | some x =>
    obtain ⟨hd, m, m1, m2, m3, m4⟩ := ring_at w J1 (hlast x e)
    simp [onD, isNonD]
    refine ring_from_spec kj J1.rowf hd m1 m2 m3 (by have := cs_len w; omega) (by omega) ?_
    exact gc_ex ex (cleans_ints _) (q (some _) (.inr ⟨x, m, rfl, e, m1, m4, m3, ring_good J1 m1 (fun a => by rw [← wk_add]; exact hd _) m2 m3⟩))
def fromL (n y : Nat) : List (Option Int) := (List.replicate n none).set y (some 0)
theorem fromL_len (n y : Nat) : (fromL n y).length = n := by unfold fromL; simp
theorem hv_fromL {n y : Nat} (hy : y < n) : hv (fromL n y) = from_ y := by
  funext z
  unfold hv fromL from_
  rw [List.getD, List.getElem?_set]
  by_cases e : z = y
  · subst e; simp [hy]
  · have : ¬ y = z := fun w => e w.symm
    rw [if_neg this, if_neg e, List.getElem?_replicate]
    split <;> rfl
theorem nones_D (n : Nat) : List.replicate n D.non = (List.replicate n (none : Option Int)).map ov := by rw [List.map_replicate]; rfl
theorem bounded_spec {d n y : Nat} {rows : List Row} {h : Hd} {Q : PD} (hr : rok n rows) (hl : rows.length ≤ 1000) (hn2 : n ≤ 1000) (hy : y < n)
    (q : ∀ h' i j, Ex h h' → h'[i]? = some (.lst ((settled n rows (fromL n y)).hs.map ov)) → h'[j]? = some (dctC (settled n rows (fromL n y)).cs) → Q (.tup [.loc i, .loc j]) h') :
    wpCall gl F (d+3) 10 [.int n, .tup (rows.map rowD), .int y] h Q := by
  have hz : sizeLine > 200000 := by decide
  refine call_of (c := d_bounded_from) rfl rfl ?_
  simp [startD, b_bounded_from, nones_D]
  refine ⟨by omega, by omega, by omega, ?_⟩
  refine nxt_of ?_
  simp [ixN_nat hy]
  refine nxt_of ?_
  simp
  have es : (List.replicate n D.non).set y (.int 0) = (fromL n y).map ov := by unfold fromL; rw [List.map_set, nones_D]; rfl
  have es2 : (List.replicate n (ov none)).set y (.int 0) = (fromL n y).map ov := by rw [← es]; rfl
  refine settled_spec (hs := fromL n y) hr hl (fromL_len n y) hn2 (by simp; first | exact es2 | exact es) fun h' i j ex ki kj => ?_
  have ex : Ex h h' := Ex.refl.app.trans ex
  simp
  refine nxt_of ?_
  simp
  exact ⟨by omega, gc_same (q h' i j ex ki kj)⟩
theorem most_spec {d n x y : Nat} {rows : List Row} {h : Hd} {Q : PD} (hr : rok n rows) (hl : rows.length ≤ 1000) (hn2 : n ≤ 1000) (hx : x < n) (hy : y < n) (q : Q (ov (hv (settled n rows (fromL n y)).hs x)) h) :
    wpCall gl F (d+4) 11 [.int n, .tup (rows.map rowD), .int x, .int y] h Q := by
  refine call_of (c := d_most_difference) rfl rfl ?_
  simp [startD, b_most_difference]
  refine bounded_spec hr hl hn2 hy fun h' i j ex ki kj => ?_
  obtain ⟨t, j1, N, J1, w, _⟩ := settled_ok (rows := rows) (fromL_len n y) fun r hr' => (hr r hr').1
  have ax := at_ov (hs := (settled n rows (fromL n y)).hs) (x := x) (by rw [w.len]; exact hx)
  simp [ki, ax]
  exact gc_ex ex (by cases hv (settled n rows (fromL n y)).hs x <;> trivial) q
end K31

namespace K31
open PySem PySem.Spec PyProof.Rows L2 Py
theorem J.short {rows : List Row} {h0 h : Nat → Option Int} {t : Nat → Nat} {j i N n m x : Nat} {s : SS} (w : Wf n s) (q : J rows h0 h (lk s.cs) t j i N) (nn : noNeg rows) (hd : ∀ a, a < m → dm s.cs (wk rows s.cs a x)) : m ≤ n := by
  refine Nat.le_of_not_lt fun lt => ?_
  obtain ⟨a, b, hab, hb, e⟩ := pigeon (fun a => wk rows s.cs a x) (List.range n) fun a ha => List.mem_range.mpr (dm_lt w (hd a (by rw [List.length_range] at ha; omega))).1
  rw [List.length_range] at hb
  try simp only at e
  have hd2 : ∀ c, c < b - a → dm s.cs (wk rows s.cs c (wk rows s.cs a x)) := fun c _ => by rw [← wk_add]; exact hd _ (by omega)
  have he : wk rows s.cs (b - a) (wk rows s.cs a x) = wk rows s.cs a x := by
    rw [← wk_add]
    have : a + (b - a) = b := by omega
    rw [this, e]
  have p := q.path (b - a) _ hd2
  rw [he] at p
  have := q.closed (by omega) hd2 he
  have := nn _ _ _ p.wy
  omega
theorem why_spec {d n x y : Nat} {rows : List Row} {h : Hd} {Q : PD} (hr : rok n rows) (hl : rows.length ≤ 1000) (hn2 : n ≤ 1000) (hx : x < n) (hy : y < n) (nn : noNeg rows)
    (q : ∀ o, ((o = none ∧ hv (settled n rows (fromL n y)).hs x = none) ∨ ∃ m, o = some (toZ (keys rows (settled n rows (fromL n y)).cs m x)) ∧ endOf rows (toZ (keys rows (settled n rows (fromL n y)).cs m x)) (x : Int) = some (y : Int) ∧ hv (settled n rows (fromL n y)).hs x = some (sumK rows (keys rows (settled n rows (fromL n y)).cs m x)) ∧
      (x = y → m = 0) ∧ m ≤ n ∧ wk rows (settled n rows (fromL n y)).cs m x = y ∧ ∀ a, a < m → wk rows (settled n rows (fromL n y)).cs a x ≠ y) → Q (ringD o) h) :
    wpCall gl F (d+4) 12 [.int n, .tup (rows.map rowD), .int x, .int y] h Q := by
  have hz : sizeLine > 200000 := by decide
  refine call_of (c := d_why_at_most) rfl rfl ?_
  simp [startD, b_why_at_most]
  refine bounded_spec hr hl hn2 hy fun h' i j ex ki kj => ?_
  obtain ⟨t, j1, N, J1, w, _, fx, hlast⟩ := settled_ok (rows := rows) (fromL_len n y) fun r hr' => (hr r hr').1
  rw [hv_fromL hy] at J1
  have fx := fx (last_none w J1 nn hlast)
  generalize settled n rows (fromL n y) = s at q ki kj J1 w fx hlast
  have ax := at_ov (hs := s.hs) (x := x) (by rw [w.len]; exact hx)
  simp
  refine nxt_of ?_
  simp [ki, ax]
  cases e : hv s.hs x with
  | none =>
    simp
    refine nxt_of ?_
    simp
    exact gc_ex ex trivial (q none (.inl ⟨rfl, e⟩))
  | some u =>
    obtain ⟨m, m1, m2, m3⟩ := why_good w J1 nn fx e
    have hm := J1.short w nn fun a ha => (m2 a ha).2
    have rf := J1.rowf
    have en := J1.ends m x fun a ha => (m2 a ha).2
    rw [m1] at en
    simp
    refine nxt_of ?_
    simp
    refine nxt_of ?_
    simp
    refine nxt_of ?_
    simp
    refine ⟨fun k τ h2 => ∃ i2, i2 ≤ m ∧ k = m - i2 ∧ h2 = h' ∧ τ = [some (.int n), some (.tup (rows.map rowD)), some (.int x), some (.int y), some (.loc i), some (.loc j), some (.tup ((toZ (keys rows s.cs i2 x)).map D.int)), some (.int (wk rows s.cs i2 x : Nat))],
      ⟨m, 0, Nat.zero_le _, rfl, rfl, rfl⟩, ?_⟩
    rintro k τ h2 ⟨i2, hi, rfl, rfl, rfl⟩
    simp
    by_cases hend : wk rows s.cs i2 x = y
    · have him : i2 = m := by
        refine Nat.le_antisymm hi (Nat.le_of_not_lt fun lt => ?_)
        exact (m2 i2 lt).1 hend
      subst him
      simp [hend]
      refine nxt_of ?_
      simp
      refine gc_ex ex (cleans_ints _) (q (some _) (.inr ⟨_, rfl, en, by rw [m3]; exact e, fun exy => ?_, hm, hend, fun a ha => (m2 a ha).1⟩))
      subst exy
      exact Nat.eq_zero_of_le_zero (Nat.le_of_not_lt fun lt => (m2 0 lt).1 rfl)
    · have hne : ¬ ((wk rows s.cs i2 x : Nat) : Int) = (y : Int) := by omega
      have hlt : i2 < m := by
        refine Nat.lt_of_le_of_ne hi fun z => hend ?_
        rw [z]; exact m1
      obtain ⟨x2, c2, f0, f1⟩ := rf _ (m2 i2 hlt).2
      have kj : h2[j]? = some (.dct false (s.cs.map kD) (s.cs.map vD)) := kj
      have kl := keys_len (rows := rows) (cs := s.cs) i2 x
      have tl : (toZ (keys rows s.cs i2 x)).length = i2 := by unfold toZ; rw [List.length_map, kl]
      simp [hne, hend, kj, dGet_cs, f0]
      refine ⟨by omega, by omega, ?_⟩
      refine nxt_of ?_
      simp [kj, dGet_cs, f0, at_row f1, rowD]
      refine ⟨m - (i2 + 1), by omega, i2 + 1, by omega, rfl, ?_, ?_⟩
      · rw [keys_snoc i2]
        simp [toZ]
      · rw [wk_succ i2]
/-! judges -/
def keepB (hs : List Int) (r : Row) : Bool := decide (hs.getD r.1 0 - hs.getD r.2.1 0 ≤ r.2.2)
theorem at_int {hs : List Int} {x : Nat} (h : x < hs.length) : atI (hs.map D.int) (x : Int) = some (.int (hs.getD x 0)) := atI_map_nat (by rw [List.getD, List.getElem?_eq_getElem h]; rfl)
theorem keeps_spec {d : Nat} {hs : List Int} {r : Row} {h : Hd} {Q : PD} (h1 : r.1 < hs.length) (h2 : r.2.1 < hs.length) (q : Q (.bl (keepB hs r)) h) : wpCall gl F (d+1) 3 [.tup (hs.map D.int), rowD r] h Q := by
  refine call_of (c := d_keeps_row) rfl rfl ?_
  obtain ⟨x, y, c⟩ := r
  simp only at h1 h2
  simp [startD, b_keeps_row, rowD]
  refine nxt_of ?_
  simp [at_int h1, at_int h2]
  exact gc_same q
theorem judge_spec {d n : Nat} {hs : List Int} {rows : List Row} {h : Hd} {Q : PD} (hr : rok n rows) (hl : rows.length ≤ 1000) (q : Q (.bl (decide (hs.length = n) && rows.all (keepB hs))) h) : wpCall gl F (d+2) 4 [.int n, .tup (rows.map rowD), .tup (hs.map D.int)] h Q := by
  have hz : sizeLine > 200000 := by decide
  refine call_of (c := d_judge_heights) rfl rfl ?_
  simp [startD, b_judge_heights]
  by_cases e : hs.length = n
  · have e' : (hs.length : Int) = n := by omega
    simp [e] at q
    simp [e', e]
    refine comp_on rowD (fun r => .bl (keepB hs r)) (by omega) trivial (fun r hm k hk => ?_) ?_
    · simp
      refine keeps_spec (by rw [e]; exact (hr r hm).1) (by rw [e]; exact (hr r hm).2) ?_
      simpa using hk
    · rw [x_all]
      exact gc_same q
  · have e' : ¬ (hs.length : Int) = n := by omega
    simp [e] at q
    simp [e', e]
    exact gc_same q
theorem lkeeps_spec {d n : Nat} {hs : List Int} {rows : List Row} {h : Hd} {Q : PD} (hr : rok n rows) (hl : rows.length ≤ 1000) (hn : hs.length = n) (q : Q (.bl (rows.all (keepB hs))) h) : wpCall gl F (d+1) 22 [.tup (rows.map rowD), .tup (hs.map D.int)] h Q := by
  have hz : sizeLine > 200000 := by decide
  refine call_of (c := d__law_keeps) rfl rfl ?_
  simp [startD, b__law_keeps]
  refine comp_onf rowD rowD (fun r => !keepB hs r) (by omega) trivial (fun r hm k s hk => ?_) ?_
  · obtain ⟨h1, h2⟩ := hr r hm
    obtain ⟨x, y, c⟩ := r
    rw [← hn] at h1 h2
    simp only at h1 h2
    simp [rowD, at_int h1, at_int h2]
    unfold keepB at hk
    simp only at hk
    by_cases le : hs.getD x 0 - hs.getD y 0 ≤ c
    · have : ¬ c < hs.getD x 0 - hs.getD y 0 := by omega
      simp [le] at hk
      simp at this
      simpa [this, rowD] using hk
    · have : c < hs.getD x 0 - hs.getD y 0 := by omega
      simp [le] at hk
      simp at this
      simpa [this, rowD] using hk
  · try simp
    refine gc_same ?_
    have e2 : (decide ((rows.filter fun r => !keepB hs r).map rowD = [])) = rows.all (keepB hs) := by
      rw [Bool.eq_iff_iff, decide_eq_true_eq]
      simp
    rw [e2]
    exact q
end K31

namespace K31
open PySem PySem.Spec PyProof.Rows L2 Py
theorem rng_ints (n : Nat) : ((List.range n).map fun (i : Nat) => D.int (i : Int)) = ((List.range n).map fun (i : Nat) => (i : Int)).map D.int := by rw [List.map_map]; rfl
theorem mem_rng {n : Nat} {o : Int} : o ∈ ((List.range n).map fun (i : Nat) => (i : Int)) ↔ 0 ≤ o ∧ o < n := by
  rw [List.mem_map]
  constructor
  · rintro ⟨i, hi, rfl⟩
    rw [List.mem_range] at hi
    omega
  · rintro ⟨h1, h2⟩
    exact ⟨o.toNat, List.mem_range.mpr (by omega), by omega⟩
theorem x_notin_rng {n : Nat} {o : Int} {h : Hd} {Q : PD} : px .notin [.int o, .tl ((List.range n).map fun (i : Nat) => D.int (i : Int))] h Q = Q (.bl (!inR (List.replicate n ((0, 0, 0) : Row)) o)) h := by
  rw [x_notinI (ns := (List.range n).map fun (i : Nat) => (i : Int)) (by rw [rng_ints]; rfl)]
  congr 3
  unfold inR
  rw [List.length_replicate]
  exact decide_eq_decide.mpr mem_rng
theorem inR_len {rows : List Row} {o : Int} : inR (List.replicate rows.length ((0, 0, 0) : Row)) o = inR rows o := by unfold inR; rw [List.length_replicate]
theorem row_of {rows : List Row} {o : Int} (h : inR rows o = true) : atI (rows.map rowD) o = some (rowD (rowAt rows o.toNat)) := by
  unfold inR at h
  have h := of_decide_eq_true h
  have e : o = ((o.toNat : Nat) : Int) := by omega
  rw [e, Int.toNat_natCast]
  refine at_row ?_
  unfold rowAt
  rw [List.getD, List.getElem?_eq_getElem (by omega)]; rfl
theorem endOf_cons {rows : List Row} {o h : Int} {os : List Int} : endOf rows (o :: os) h = if (0 ≤ o ∧ o < rows.length) ∧ ((rowAt rows o.toNat).1 : Int) = h then endOf rows os ((rowAt rows o.toNat).2.1 : Int) else none := rfl
theorem is_way_spec {d : Nat} {rows : List Row} {way : List Int} {x y : Int} {h : Hd} {Q : PD} (hl : rows.length ≤ 1000) (q : Q (.bl (isWay rows way x y)) h) : wpCall gl F (d+1) 23 [.tup (rows.map rowD), .tup (way.map D.int), .int x, .int y] h Q := by
  have hz : sizeLine > 200000 := by decide
  refine call_of (c := d__law_is_way) rfl rfl ?_
  simp [startD, b__law_is_way]
  refine nxt_of ?_
  simp
  refine for_inv (fun i τ h' => h' = h ∧ ∃ (here : Int) (t5 : Option D), τ = [some (.tup (rows.map rowD)), some (.tup (way.map D.int)), some (.int x), some (.int y), some (.int here), t5] ∧ endOf rows (way.drop i) here = endOf rows way x) ⟨rfl, x, _, rfl, rfl⟩ ?_ ?_
  · rintro i v τ h' k hv' ⟨rfl, here, t5, rfl, he⟩ hk
    have hi : i < way.length := by have := (List.getElem?_eq_some_iff.mp hv').1; simpa using this
    have ev : v = .int way[i] := by
      rw [List.getElem?_map, List.getElem?_eq_getElem hi] at hv'
      cases hv'; rfl
    subst ev
    rw [List.drop_eq_getElem_cons hi] at he
    generalize way[i] = o at he ⊢
    rw [endOf_cons] at he
    refine ⟨trivial, ?_⟩
    simp
    refine ⟨by omega, ?_⟩
    rw [x_notin_rng, inR_len]
    by_cases h1 : inR rows o = true
    · have h1' := of_decide_eq_true h1
      have ro := row_of h1
      generalize rowAt rows o.toNat = r at he ro
      obtain ⟨rx, ry, rc⟩ := r
      simp [h1, ro]
      simp only at he
      by_cases h2 : (rx : Int) = here
      · rw [if_pos ⟨h1', h2⟩] at he
        simp [rowD, h2]
        refine nxt_of ?_
        simp [ro, rowD]
        exact hk _ _ ⟨rfl, ry, some (.int o), rfl, he⟩
      · rw [if_neg (fun z => h2 z.2)] at he
        simp [rowD, h2]
        refine nxt_of ?_
        simp
        have e : isWay rows way x y = false := by
          unfold isWay
          rw [← he]; rfl
        rw [e] at q
        exact gc_same q
    · have h1' : inR rows o = false := Bool.eq_false_iff.mpr h1
      have h1'' := of_decide_eq_false h1'
      rw [if_neg (fun z => h1'' z.1)] at he
      simp [h1']
      refine nxt_of ?_
      simp
      have e : isWay rows way x y = false := by
        unfold isWay
        rw [← he]; rfl
      rw [e] at q
      exact gc_same q
  · rintro τ h' ⟨rfl, here, t5, rfl, he⟩
    simp only [List.length_map, List.drop_length] at he
    have he : some here = endOf rows way x := he
    refine ⟨trivial, nxt_of ?_⟩
    simp
    have e : isWay rows way x y = decide (here = y) := by
      unfold isWay
      rw [← he]
      simp
    rw [e] at q
    exact gc_same q
end K31

namespace K31
open PySem PySem.Spec PyProof.Rows L2 Py
theorem nodupLen {α : Type} [DecidableEq α] : ∀ {a b : List α}, a.Nodup → (∀ x ∈ a, x ∈ b) → a.length ≤ b.length
  | [], b, _, _ => Nat.zero_le _
  | x :: a, b, nd, h => by
    have hx := h x List.mem_cons_self
    rw [List.nodup_cons] at nd
    have := nodupLen (a := a) (b := b.erase x) nd.2 fun y hy => by
      have hne : y ≠ x := fun e => nd.1 (e ▸ hy)
      exact (List.mem_erase_of_ne hne).mpr (h y (List.mem_cons_of_mem _ hy))
    rw [List.length_erase_of_mem hx] at this
    have hp : 0 < b.length := List.length_pos_of_mem hx
    rw [List.length_cons]
    omega
theorem dup_of {α : Type} [DecidableEq α] : ∀ {l : List α}, ¬ l.Nodup → ∃ x, x ∈ l.erase x
  | [], h => absurd List.nodup_nil h
  | a :: l, h => by
    by_cases ha : a ∈ l
    · exact ⟨a, by rw [List.erase_cons_head]; exact ha⟩
    · have : ¬ l.Nodup := fun z => h (List.nodup_cons.mpr ⟨ha, z⟩)
      obtain ⟨x, hx⟩ := dup_of this
      refine ⟨x, ?_⟩
      by_cases e : a = x
      · subst e
        rw [List.erase_cons_head]
        exact List.mem_of_mem_erase hx
      · rw [List.erase_cons_tail (by simpa using e)]
        exact List.mem_cons_of_mem _ hx
theorem set_len {us l : List Int} (nd : us.Nodup) (hm : ∀ k, k ∈ us ↔ k ∈ l) : us.length = l.length ↔ l.Nodup := by
  constructor
  · intro e
    refine Classical.byContradiction fun hn => ?_
    obtain ⟨x, hx⟩ := dup_of hn
    have hxl : x ∈ l := List.mem_of_mem_erase hx
    have := nodupLen nd (b := l.erase x) fun y hy => by
      by_cases e : y = x
      · subst e; exact hx
      · exact (List.mem_erase_of_ne e).mpr ((hm y).mp hy)
    rw [List.length_erase_of_mem hxl] at this
    have hp : 0 < l.length := List.length_pos_of_mem hxl
    omega
  · intro h
    exact ((List.perm_ext_iff_of_nodup nd h).mpr hm).length_eq
theorem sum_rows {rows : List Row} (ring : List Int) : (ring.map fun o => D.int (rowAt rows o.toNat).2.2) = (ring.map fun o => (rowAt rows o.toNat).2.2).map D.int := by rw [List.map_map]; rfl
theorem end_in {rows : List Row} : ∀ {way : List Int} {x y : Int}, endOf rows way x = some y → ∀ o ∈ way, inR rows o = true
  | [], _, _, _, o, h => nomatch h
  | o :: os, x, y, e, p, hp => by
    rw [endOf_cons] at e
    split at e
    · rename_i hc
      rcases List.mem_cons.mp hp with rfl | hp
      · unfold inR; exact decide_eq_true hc.1
      · exact end_in e p hp
    · cases e
theorem isRing_cons {rows : List Row} {o : Int} {os : List Int} : isRing rows (o :: os) = (decide (o :: os).Nodup && (inR rows o && (isWay rows (o :: os) (rowAt rows o.toNat).1 (rowAt rows o.toNat).1 && decide (sumW rows (o :: os) < 0)))) := rfl
theorem is_ring_spec {d : Nat} {rows : List Row} {ring : List Int} {h : Hd} {Q : PD} (hl : rows.length ≤ 1000) (hl2 : ring.length ≤ 1000) (q : Q (.bl (isRing rows ring)) h) : wpCall gl F (d+2) 24 [.tup (rows.map rowD), .tup (ring.map D.int)] h Q := by
  have hz : sizeLine > 200000 := by decide
  refine call_of (c := d__law_is_ring) rfl rfl ?_
  simp [startD, b__law_is_ring]
  cases ring with
  | nil =>
    simp
    refine nxt_of ?_
    simp
    exact gc_same q
  | cons o os =>
    have e1 : (o :: os).map D.int = .int o :: os.map D.int := rfl
    have hne : ¬ (((o :: os).length : Nat) : Int) = 0 := by simp; omega
    have hs : ∀ (Q : PD), px .lenSet [.tup (.int o :: os.map D.int)] h Q = ((o :: os).length < 4000 ∧ ∀ us : List Int, us.Nodup → (∀ k, k ∈ us ↔ k ∈ o :: os) → Q (.int us.length) h) := fun Q => x_lenSetT (ns := o :: os)
    simp [hs]
    refine ⟨by simp at hl2; omega, fun us nd hm => ?_⟩
    have sl := set_len nd (l := o :: os) (by simpa using hm)
    by_cases hnd : (o :: os).Nodup
    · have e2 : us.length = os.length + 1 := sl.mpr hnd
      have e3 : (us.length : Int) = os.length + 1 := by omega
      simp [e3]
      refine ⟨by omega, ?_⟩
      rw [x_notin_rng, inR_len]
      by_cases hi : inR rows o = true
      · simp [hi]
        refine nxt_of ?_
        simp [row_of hi]
        simp [rowD]
        refine nxt_of ?_
        simp
        refine is_way_spec (way := o :: os) hl ?_
        simp
        have er : isRing rows (o :: os) = (isWay rows (o :: os) (rowAt rows o.toNat).1 (rowAt rows o.toNat).1 && decide (sumW rows (o :: os) < 0)) := by
          rw [isRing_cons]
          rw [decide_eq_true hnd, hi, Bool.true_and, Bool.true_and]
        rw [er] at q
        split
        · rename_i hw
          rw [hw] at q
          have hin := end_in (of_decide_eq_true hw)
          refine comp_on (as := o :: os) D.int (fun o => .int (rowAt rows o.toNat).2.2) (by omega) trivial (fun p hp k hk => ?_) ?_
          · simp [row_of (hin p hp)]
            simp [rowD]
            exact hk
          · rw [sum_rows, x_sum (ns := (o :: os).map fun o => (rowAt rows o.toNat).2.2) rfl]
            simp
            refine gc_same ?_
            unfold sumW at q
            simpa using q
        · rename_i hw
          have hw := Bool.eq_false_iff.mpr hw
          rw [hw] at q
          exact gc_same q
      · have hi' : inR rows o = false := Bool.eq_false_iff.mpr hi
        simp [hi']
        refine nxt_of ?_
        simp
        have er : isRing rows (o :: os) = false := by
          rw [isRing_cons]
          rw [hi']
          simp
        rw [er] at q
        exact gc_same q
    · have e2 : ¬ us.length = os.length + 1 := fun z => hnd (sl.mp z)
      have e3 : ¬ (us.length : Int) = os.length + 1 := by omega
      simp [e3]
      refine nxt_of ?_
      simp
      have er : isRing rows (o :: os) = false := by
        rw [isRing_cons]
        rw [decide_eq_false hnd]
        rfl
      rw [er] at q
      exact gc_same q
end K31

namespace K31
open PySem PySem.Spec PyProof.Rows L2 Py
def rA (rows : List Row) (o : Int) : Row := rowAt rows o.toNat
def followsB (rows : List Row) (way : List Int) : Bool := (List.range (way.length - 1)).all fun i => decide ((rA rows (way.getD i 0)).2.1 = (rA rows (way.getD (i + 1) 0)).1)
theorem follows_cons {rows : List Row} {o p : Int} {ps : List Int} : followsB rows (o :: p :: ps) = (decide ((rA rows o).2.1 = (rA rows p).1) && followsB rows (p :: ps)) := by
  unfold followsB
  have e : (o :: p :: ps).length - 1 = ((p :: ps).length - 1) + 1 := by simp
  rw [e, List.range_succ_eq_map, List.all_cons, List.all_map]
  rfl
theorem way_follows {rows : List Row} {z : Int} : ∀ (os : List Int) (o : Int), (∀ p ∈ o :: os, inR rows p = true) → isWay rows (o :: os) (rowAt rows o.toNat).1 z = (followsB rows (o :: os) && decide (((rA rows ((o :: os).getLast (by simp))).2.1 : Int) = z))
  | [], o, h => by
    have ho := of_decide_eq_true (h o List.mem_cons_self)
    unfold isWay
    rw [endOf_cons, if_pos ⟨ho, rfl⟩]
    show decide (some ((rowAt rows o.toNat).2.1 : Int) = some z) = _
    have e : followsB rows [o] = true := rfl
    rw [e, Bool.true_and]
    exact decide_eq_decide.mpr (by simp [rA])
  | p :: ps, o, h => by
    have ho := of_decide_eq_true (h o List.mem_cons_self)
    have hp := of_decide_eq_true (h p (List.mem_cons_of_mem _ List.mem_cons_self))
    have ih := way_follows (z := z) ps p fun q hq => h q (List.mem_cons_of_mem _ hq)
    unfold isWay at ih ⊢
    rw [endOf_cons, if_pos ⟨ho, rfl⟩, follows_cons]
    have el : (o :: p :: ps).getLast (by simp) = (p :: ps).getLast (by simp) := by simp
    rw [el, Bool.and_assoc, ← ih]
    rw [endOf_cons, endOf_cons]
    by_cases e : (rA rows o).2.1 = (rA rows p).1
    · rw [decide_eq_true e, Bool.true_and]
      have e2 : ((rowAt rows p.toNat).1 : Int) = ((rowAt rows o.toNat).2.1 : Int) := by
        have : (rowAt rows o.toNat).2.1 = (rowAt rows p.toNat).1 := e
        omega
      rw [if_pos ⟨hp, e2⟩, if_pos ⟨hp, rfl⟩]
    · rw [decide_eq_false e, Bool.false_and]
      have e2 : ¬ ((rowAt rows p.toNat).1 : Int) = ((rowAt rows o.toNat).2.1 : Int) := by
        have : ¬ (rowAt rows o.toNat).2.1 = (rowAt rows p.toNat).1 := e
        omega
      rw [if_neg fun w => e2 w.2]
      simp
theorem at_getD {way : List Int} {i : Nat} (h : i < way.length) : way.getD i 0 ∈ way := by
  rw [List.getD, List.getElem?_eq_getElem h]
  exact List.getElem_mem h
theorem follows_spec {d : Nat} {rows : List Row} {way : List Int} {h : Hd} {Q : PD} (hl2 : way.length ≤ 1000) (hin : ∀ o ∈ way, inR rows o = true) (q : Q (.bl (followsB rows way)) h) : wpCall gl F (d+1) 7 [.tup (rows.map rowD), .tup (way.map D.int)] h Q := by
  have hz : sizeLine > 200000 := by decide
  refine call_of (c := d_follows_on) rfl rfl ?_
  simp [startD, b_follows_on]
  refine ⟨by omega, ?_⟩
  rw [rangeD_map]
  refine comp_on _ (fun i : Nat => .bl (decide ((rA rows (way.getD i 0)).2.1 = (rA rows (way.getD (i + 1) 0)).1))) (by simp; omega) trivial (fun i hi k hk => ?_) ?_
  · rw [List.mem_range] at hi
    have a1 := at_int (hs := way) (x := i) (by omega)
    have a2 : atI (way.map D.int) ((i : Int) + 1) = some (.int (way.getD (i + 1) 0)) := at_int (hs := way) (x := i + 1) (by omega)
    have r1 := row_of (hin _ (at_getD (way := way) (i := i) (by omega)))
    have r2 := row_of (hin _ (at_getD (way := way) (i := i + 1) (by omega)))
    have hk : k (.bl (decide ((rowAt rows (way.getD i 0).toNat).2.1 = (rowAt rows (way.getD (i + 1) 0).toNat).1))) h := hk
    have ek : decide ((rowAt rows (way.getD i 0).toNat).2.1 = (rowAt rows (way.getD (i + 1) 0).toNat).1) = decide (((rowAt rows (way.getD i 0).toNat).2.1 : Int) = ((rowAt rows (way.getD (i + 1) 0).toNat).1 : Int)) := decide_eq_decide.mpr (by omega)
    rw [ek] at hk
    clear ek
    generalize way.getD i 0 = o1 at a1 r1 hk
    generalize way.getD (i + 1) 0 = o2 at a2 r2 hk
    simp [a1, a2, r1, r2]
    simp [rowD, r2]
    simpa using hk
  · rw [x_all]
    exact gc_same q
theorem sum_along_spec {d : Nat} {rows : List Row} {way : List Int} {h : Hd} {Q : PD} (hl2 : way.length ≤ 1000) (hin : ∀ o ∈ way, inR rows o = true) (q : Q (.int (sumW rows way)) h) : wpCall gl F (d+1) 8 [.tup (rows.map rowD), .tup (way.map D.int)] h Q := by
  have hz : sizeLine > 200000 := by decide
  refine call_of (c := d_sum_along) rfl rfl ?_
  simp [startD, b_sum_along]
  refine comp_on (as := way) D.int (fun o => .int (rowAt rows o.toNat).2.2) (by omega) trivial (fun p hp k hk => ?_) ?_
  · simp [row_of (hin p hp)]
    simp [rowD]
    exact hk
  · rw [sum_rows, x_sum (ns := way.map fun o => (rowAt rows o.toNat).2.2) rfl]
    exact gc_same q
theorem at_last {o : Int} {os : List Int} : atI ((o :: os).map D.int) (-1) = some (.int ((o :: os).getLast (by simp))) := by
  have h1 : ixN ((o :: os).map D.int).length (-1) = some os.length := by
    unfold ixN
    rw [if_neg (by omega), if_pos (by simp; omega)]
    congr 1
    simp
    omega
  have h2 : (o :: os)[os.length]? = some ((o :: os).getLast (by simp)) := by
    rw [List.getLast_eq_getElem, List.getElem?_eq_getElem (by simp)]
    simp
  unfold atI
  rw [h1]
  show ((o :: os).map D.int)[os.length]? = _
  rw [List.getElem?_map, h2]; rfl
theorem judge_ring_spec {d n : Nat} {rows : List Row} {ring : List Int} {h : Hd} {Q : PD} (hl : rows.length ≤ 1000) (hl2 : ring.length ≤ 1000) (q : Q (.bl (isRing rows ring)) h) : wpCall gl F (d+2) 9 [.int n, .tup (rows.map rowD), .tup (ring.map D.int)] h Q := by
  have hz : sizeLine > 200000 := by decide
  refine call_of (c := d_judge_ring) rfl rfl ?_
  simp [startD, b_judge_ring]
  cases ring with
  | nil =>
    simp
    refine nxt_of ?_
    simp
    exact gc_same q
  | cons o os =>
    have hs : ∀ (Q : PD), px .lenSet [.tup (.int o :: os.map D.int)] h Q = ((o :: os).length < 4000 ∧ ∀ us : List Int, us.Nodup → (∀ k, k ∈ us ↔ k ∈ o :: os) → Q (.int us.length) h) := fun Q => x_lenSetT (ns := o :: os)
    simp [hs]
    refine ⟨by simp at hl2; omega, fun us nd hm => ?_⟩
    have sl := set_len nd (l := o :: os) (by simpa using hm)
    by_cases hnd : (o :: os).Nodup
    · have e2 : us.length = os.length + 1 := sl.mpr hnd
      have e3 : (us.length : Int) = os.length + 1 := by omega
      simp [e3]
      refine comp_on (as := o :: os) D.int (fun o => .bl (inR rows o)) (by omega) trivial (fun p hp k hk => ?_) ?_
      · simp
        unfold inR at hk
        by_cases h1 : 0 ≤ p
        · by_cases h2 : p < rows.length
          · simpa [h1, h2] using hk
          · simpa [h1, h2] using hk
        · simpa [h1] using hk
      · rw [x_all]
        simp only [tr_bl]
        by_cases hin : ∀ p ∈ o :: os, inR rows p = true
        · have hall : (o :: os).all (inR rows) = true := List.all_eq_true.mpr hin
          rw [hall]
          simp
          refine nxt_of ?_
          simp
          refine follows_spec (way := o :: os) hl2 hin ?_
          simp
          have wf := way_follows (rows := rows) (z := ((rowAt rows o.toNat).1 : Int)) os o hin
          have er : isRing rows (o :: os) = (isWay rows (o :: os) (rowAt rows o.toNat).1 (rowAt rows o.toNat).1 && decide (sumW rows (o :: os) < 0)) := by
            rw [isRing_cons, decide_eq_true hnd, hin o List.mem_cons_self, Bool.true_and, Bool.true_and]
          rw [er, wf] at q
          cases hf : followsB rows (o :: os) with
          | false =>
            rw [hf] at q
            simp
            refine nxt_of ?_
            simp
            exact gc_same q
          | true =>
            rw [hf] at q
            have al := at_last (o := o) (os := os)
            have rl := row_of (hin _ (List.getLast_mem (l := o :: os) (by simp)))
            have ro := row_of (hin o List.mem_cons_self)
            have q : Q (.bl ((true && decide (((rowAt rows ((o :: os).getLast (by simp)).toNat).2.1 : Int) = ((rowAt rows o.toNat).1 : Int))) && decide (sumW rows (o :: os) < 0))) h := q
            generalize (o :: os).getLast (by simp) = z at al rl q
            simp only [List.map_cons] at al
            by_cases hz2 : ((rowAt rows z.toNat).2.1 : Int) = ((rowAt rows o.toNat).1 : Int)
            · simp [al, rl, ro]
              simp [rowD, hz2]
              refine nxt_of ?_
              simp
              refine sum_along_spec (way := o :: os) hl2 hin ?_
              simp
              refine gc_same ?_
              simpa [hz2] using q
            · simp [al, rl, ro]
              simp [rowD, hz2]
              refine nxt_of ?_
              simp
              refine gc_same ?_
              simpa [hz2] using q
        · have hall : (o :: os).all (inR rows) = false := by
            rw [← Bool.not_eq_true, List.all_eq_true]; exact hin
          rw [hall]
          simp
          refine nxt_of ?_
          simp
          have er : isRing rows (o :: os) = false := by
            rw [isRing_cons]
            cases hw : isWay rows (o :: os) (rowAt rows o.toNat).1 (rowAt rows o.toNat).1 with
            | false => simp
            | true => exact absurd (end_in (of_decide_eq_true hw)) hin
          rw [er] at q
          exact gc_same q
    · have e2 : ¬ us.length = os.length + 1 := fun z => hnd (sl.mp z)
      have e3 : ¬ (us.length : Int) = os.length + 1 := by omega
      simp [e3]
      refine nxt_of ?_
      simp
      have er : isRing rows (o :: os) = false := by
        rw [isRing_cons, decide_eq_false hnd]
        rfl
      rw [er] at q
      exact gc_same q
end K31

namespace K31
open PySem PySem.Spec PyProof.Rows L2 Py
def rowM (n : Nat) (M : Nat → Nat → Int) (x : Nat) : List D := (List.range n).map fun y => D.int (M x y)
def locs (b n : Nat) : List D := (List.range n).map fun x => D.loc (b + x)
def blk (b n : Nat) (M : Nat → Nat → Int) : Hd := (List.range n).map (fun x => DO.lst (rowM n M x)) ++ [.lst (locs b n)]
structure Mt (h : Hd) (a b n : Nat) (M : Nat → Nat → Int) : Prop where
  far : h[a]? = some (.lst (locs b n))
  row : ∀ x, x < n → h[b + x]? = some (.lst (rowM n M x))
theorem Mt.ex {h h' : Hd} {a b n : Nat} {M : Nat → Nat → Int} (m : Mt h a b n M) (e : Ex h h') : Mt h' a b n M := ⟨e.look m.far, fun x hx => e.look (m.row x hx)⟩
theorem mt_blk {base : Hd} {n : Nat} {M : Nat → Nat → Int} : Mt (base ++ blk base.length n M) (base.length + n) base.length n M := by
  refine ⟨?_, fun x hx => ?_⟩
  · rw [List.getElem?_append_right (by omega)]
    unfold blk
    rw [List.getElem?_append_right (by simp)]
    simp
  · rw [List.getElem?_append_right (by omega)]
    unfold blk
    rw [List.getElem?_append_left (by simp; omega)]
    have : base.length + x - base.length = x := by omega
    rw [this, List.getElem?_map, List.getElem?_range hx]; rfl
theorem at_locs {b n x : Nat} (h : x < n) : atI (locs b n) (x : Int) = some (.loc (b + x)) := atI_map_nat (List.getElem?_range h)
theorem at_rowM {n x y : Nat} {M : Nat → Nat → Int} (h : y < n) : atI (rowM n M x) (y : Int) = some (.int (M x y)) := atI_map_nat (List.getElem?_range h)
theorem rowM_len {n x : Nat} {M : Nat → Nat → Int} : (rowM n M x).length = n := by unfold rowM; simp
theorem locs_len {b n : Nat} : (locs b n).length = n := by unfold locs; simp
theorem set_blk {base : Hd} {n x y : Nat} {M : Nat → Nat → Int} {v : Int} (hx : x < n) (hy : y < n) : (base ++ blk base.length n M).set (base.length + x) (.lst ((rowM n M x).set y (.int v))) = base ++ blk base.length n (fun a b => if a = x ∧ b = y then v else M a b) := by
  rw [List.set_append_right _ _ (by omega)]
  congr 1
  have : base.length + x - base.length = x := by omega
  rw [this]
  unfold blk
  rw [List.set_append_left _ _ (by simp; omega)]
  congr 1
  refine List.ext_getElem? fun i => ?_
  rw [List.getElem?_set, List.getElem?_map, List.getElem?_map]
  by_cases e : x = i
  · subst e
    rw [if_pos rfl, if_pos (by simp; omega), List.getElem?_range hx]
    simp only [Option.map_some]
    congr 2
    unfold rowM
    refine List.ext_getElem? fun j => ?_
    rw [List.getElem?_set, List.getElem?_map, List.getElem?_map]
    by_cases e2 : y = j
    · subst e2
      rw [if_pos rfl, if_pos (by simp; omega), List.getElem?_range hy]
      simp
    · rw [if_neg e2]
      by_cases hj : j < n
      · rw [List.getElem?_range hj]
        have : ¬ j = y := fun w => e2 w.symm
        simp [this]
      · rw [List.getElem?_eq_none (by simp; omega)]; rfl
  · rw [if_neg e]
    by_cases hi : i < n
    · rw [List.getElem?_range hi]
      have : ¬ i = x := fun w => e w.symm
      simp only [Option.map_some]
      congr 2
      unfold rowM
      refine List.map_congr_left fun j _ => ?_
      show D.int (M i j) = D.int (if i = x ∧ j = y then v else M i j)
      rw [if_neg (fun w => this w.1)]
    · rw [List.getElem?_eq_none (by simp; omega)]; rfl
theorem mrow_set {M : Nat → Nat → Int} {x y : Nat} {c : Int} : (fun a b => if a = x ∧ b = y then mn (M x y) c else M a b) = mrow M (x, y, c) := by
  funext a b
  unfold mrow
  simp only
  by_cases h : a = x ∧ b = y
  · rw [if_pos h, if_pos h, h.1, h.2]
  · rw [if_neg h, if_neg h]
/-- rows of a new matrix -/
def rws (n i : Nat) (M : Nat → Nat → Int) : Hd := (List.range i).map fun x => DO.lst (rowM n M x)
theorem rws_succ {n i : Nat} {M : Nat → Nat → Int} : rws n (i + 1) M = rws n i M ++ [.lst (rowM n M i)] := by unfold rws; rw [List.range_succ, List.map_append]; rfl
theorem locs_succ {b i : Nat} : locs b (i + 1) = locs b i ++ [.loc (b + i)] := by unfold locs; rw [List.range_succ, List.map_append]; rfl
theorem rws_len {n i : Nat} {M : Nat → Nat → Int} : (rws n i M).length = i := by unfold rws; simp
theorem blk_eq {b n : Nat} {M : Nat → Nat → Int} : blk b n M = rws n n M ++ [.lst (locs b n)] := rfl
theorem bounds_spec {d n : Nat} {rows : List Row} {h : Hd} {Q : PD} (hr : rok n rows) (hl : rows.length ≤ 1000) (hn2 : n ≤ 1000) (q : ∀ base, Ex h base → Q (.loc (base.length + n)) (base ++ blk base.length n (fw rows n))) :
    wpCall gl F (d+1) 20 [.int n, .tup (rows.map rowD)] h Q := by
  have hz : sizeLine > 200000 := by decide
  refine call_of (c := d__law_bounds) rfl rfl ?_
  simp [startD, b__law_bounds]
  refine ⟨by omega, ?_⟩
  refine comp_inv (fun i acc h' => acc = locs h.length i ∧ h' = h ++ rws n i m0) (by simp; omega) ⟨rfl, by simp [rws]⟩ ?_ ?_
  · rintro i x acc h' k s hx ⟨rfl, rfl⟩ hk hs
    obtain ⟨hi, rfl⟩ := range_get hx
    simp [yesT]
    refine ⟨by omega, ?_⟩
    rw [rangeD_map]
    refine comp_on _ (fun y : Nat => .int (m0 i y)) (by simp; omega) trivial (fun y hy k hk => ?_) ?_
    · simp
      refine ⟨by omega, ?_⟩
      unfold m0 at hk
      by_cases e : i = y
      · have e' : (i : Int) = y := by omega
        simp [e] at hk
        simp [e', e]
        exact hk
      · have e' : ¬ (i : Int) = y := by omega
        simp [e] at hk
        simp [e', e]
        exact hk
    · have := hk (.loc (h.length + i)) (h ++ rws n i m0 ++ [.lst (rowM n m0 i)]) ⟨by rw [locs_succ], by rw [rws_succ, List.append_assoc]⟩
      have er : (List.range (n : Int).toNat).map (fun y : Nat => D.int (m0 i y)) = rowM n m0 i := by rw [Int.toNat_natCast]; rfl
      simp [rws_len] at this ⊢
      first
        | exact this
        | (rw [← er] at this; simpa using this)
  · rintro acc h' ⟨rfl, rfl⟩
    have en : (rangeD 0 (n : Int).toNat).length = n := by simp
    have mt0 : Mt (h ++ blk h.length n m0) (h.length + n) h.length n m0 := mt_blk
    simp [rws_len]
    refine nxt_of ?_
    rw [← blk_eq]
    simp
    refine for_inv (fun i τ h' => h' = h ++ blk h.length n ((rows.take i).foldl mrow m0) ∧ ∃ t3 t4 t5 t6, τ = [some (.int n), some (.tup (rows.map rowD)), some (.loc (h.length + n)), t3, t4, t5, t6]) ⟨rfl, _, _, _, _, rfl⟩ ?_ ?_
    · rintro i v τ h' k hv' ⟨rfl, t3, t4, t5, t6, rfl⟩ hk
      have hi : i < rows.length := by have := (List.getElem?_eq_some_iff.mp hv').1; simpa using this
      have ev : v = rowD rows[i] := by
        rw [List.getElem?_map, List.getElem?_eq_getElem hi] at hv'
        cases hv'; rfl
      subst ev
      obtain ⟨r1, r2⟩ := hr _ (List.getElem_mem hi)
      have et : (rows.take (i + 1)).foldl mrow m0 = mrow ((rows.take i).foldl mrow m0) rows[i] := by
        rw [List.take_add_one, List.getElem?_eq_getElem hi, List.foldl_append]; rfl
      rw [et] at hk
      generalize rows[i] = r at r1 r2 hk ⊢
      generalize (rows.take i).foldl mrow m0 = M at hk ⊢
      obtain ⟨x, y, c⟩ := r
      simp only at r1 r2
      have mt : Mt (h ++ blk h.length n M) (h.length + n) h.length n M := mt_blk
      refine ⟨trivial, ?_⟩
      have f1 := mt.far
      have f2 := mt.row x r1
      have es := set_blk (base := h) (M := M) (v := mn (M x y) c) r1 r2
      rw [mrow_set] at es
      generalize h ++ blk h.length n M = H at f1 f2 es ⊢
      simp [rowD, f1, f2, at_locs r1, at_rowM r2, rowM_len, ixN_nat r2]
      unfold mn at es
      rw [es]
      exact hk _ _ ⟨rfl, _, _, _, _, rfl⟩
    · rintro τ h' ⟨rfl, t3, t4, t5, t6, rfl⟩
      have e0 : (rows.take (rows.map rowD).length).foldl mrow m0 = fw rows 0 := by rw [List.length_map, List.take_length]; rfl
      rw [e0]
      refine ⟨trivial, nxt_of ?_⟩
      simp
      refine ⟨by omega, ?_⟩
      refine for_range (fun i τ h' => ∃ base, Ex h base ∧ h' = base ++ blk base.length n (fw rows i) ∧ ∃ t3 t4 t5 t6, τ = [some (.int n), some (.tup (rows.map rowD)), some (.loc (base.length + n)), t3, t4, t5, t6]) ⟨h, Ex.refl, rfl, _, _, _, _, rfl⟩ (fun _ => trivial) ?_ ?_
      · rintro i τ h' k hi ⟨base, ex, rfl, t3, t4, t5, t6, rfl⟩ hk
        have mt : Mt (base ++ blk base.length n (fw rows i)) (base.length + n) base.length n (fw rows i) := mt_blk
        have exH : Ex h (base ++ blk base.length n (fw rows i)) := ex.app
        have hM : fw rows (i + 1) = rnd (fw rows i) i := rfl
        rw [hM] at hk
        generalize base ++ blk base.length n (fw rows i) = H at mt exH ⊢
        generalize base.length = b at mt ⊢
        generalize fw rows i = M at mt hk ⊢
        simp
        refine ⟨by omega, ?_⟩
        refine comp_inv (fun j acc h' => acc = locs H.length j ∧ h' = H ++ rws n j (rnd M i)) (by simp; omega) ⟨rfl, by simp [rws]⟩ ?_ ?_
        · rintro j x acc h' k s hx ⟨rfl, rfl⟩ hk hs
          obtain ⟨hj, rfl⟩ := range_get hx
          have hj : j < n := by simpa using hj
          simp [yesT]
          refine ⟨by omega, ?_⟩
          rw [rangeD_map]
          have mt2 := mt.ex (Ex.refl.app (l := rws n j (rnd M i)))
          have f1 := mt2.far
          have f2 := mt2.row j hj
          have f3 := mt2.row i hi
          refine comp_on _ (fun y : Nat => .int (rnd M i j y)) (by simp; omega) trivial (fun y hy k hk => ?_) ?_
          · have hy : y < n := by simpa using hy
            simp [f1, f2, f3, at_locs hj, at_locs hi, at_rowM hy, at_rowM hi]
            unfold rnd mn at hk
            exact hk
          · have := hk (.loc (H.length + j)) (H ++ rws n j (rnd M i) ++ [.lst (rowM n (rnd M i) j)]) ⟨by rw [locs_succ], by rw [rws_succ, List.append_assoc]⟩
            have er : (List.range (n : Int).toNat).map (fun y : Nat => D.int (rnd M i j y)) = rowM n (rnd M i) j := by rw [Int.toNat_natCast]; rfl
            simp [rws_len] at this ⊢
            first
              | exact this
              | (rw [← er] at this; simpa using this)
        · rintro acc h' ⟨rfl, rfl⟩
          simp [rws_len]
          rw [← blk_eq]
          exact hk _ _ ⟨H, exH, rfl, _, _, _, _, rfl⟩
      · rintro τ h' ⟨base, ex, rfl, t3, t4, t5, t6, rfl⟩
        refine nxt_of ?_
        simp
        exact gc_same (q base ex)
theorem can_spec {d a b n : Nat} {M : Nat → Nat → Int} {h : Hd} {Q : PD} (hn2 : n ≤ 1000) (mt : Mt h a b n M) (q : Q (.bl (decide (∀ x, x < n → 0 ≤ M x x))) h) : wpCall gl F (d+1) 21 [.loc a] h Q := by
  have hz : sizeLine > 200000 := by decide
  refine call_of (c := d__law_can) rfl rfl ?_
  simp [startD, b__law_can, mt.far, locs_len]
  refine ⟨by omega, ?_⟩
  rw [rangeD_map]
  refine comp_onf _ (fun x : Nat => D.int (x : Int)) (fun x => decide (M x x < 0)) (by simp; omega) trivial (fun x hx k s hk => ?_) ?_
  · have hx : x < n := by simpa using hx
    simp [mt.far, mt.row x hx, at_locs hx, at_rowM hx]
    simpa using hk
  · try simp
    refine gc_same ?_
    have e : (decide (((List.range n).filter fun x => decide (M x x < 0)).map (fun x : Nat => D.int (x : Int)) = [])) = decide (∀ x, x < n → 0 ≤ M x x) := by
      refine decide_eq_decide.mpr ?_
      simp
    first
      | (rw [e]; exact q)
      | (simp at e ⊢; rw [e]; exact q)
      | simpa using q
end K31

namespace K31
open PySem PySem.Spec PyProof.Rows L2 Py
def del (rows : List Row) (k : Nat) : List Row := rows.take k ++ rows.drop (k + 1)
theorem del_sub {rows : List Row} {k : Nat} {r : Row} (h : r ∈ del rows k) : r ∈ rows := by
  rcases List.mem_append.mp h with h | h
  · exact List.mem_of_mem_take h
  · exact List.mem_of_mem_drop h
theorem del_len {rows : List Row} {k : Nat} : (del rows k).length ≤ rows.length := by unfold del; simp; omega
theorem del_D {rows : List Row} {k : Nat} : (rows.map rowD).take k ++ (rows.map rowD).drop (k + 1) = (del rows k).map rowD := by unfold del; rw [List.map_append, List.map_take, List.map_drop]
def mostO (n : Nat) (rows : List Row) (x y : Nat) : Option Int := hv (settled n rows (fromL n y)).hs x
def nlB (n : Nat) (rows : List Row) (k : Nat) : Bool := match mostO n (del rows k) (rowAt rows k).1 (rowAt rows k).2.1 with
  | none => false
  | some u => decide (u ≤ (rowAt rows k).2.2)
theorem is_needless_spec {d n k : Nat} {rows : List Row} {h : Hd} {Q : PD} (hr : rok n rows) (hl : rows.length ≤ 1000) (hn2 : n ≤ 1000) (hk : k < rows.length) (q : Q (.bl (nlB n rows k)) h) : wpCall gl F (d+5) 13 [.int n, .tup (rows.map rowD), .int k] h Q := by
  have hz : sizeLine > 200000 := by decide
  refine call_of (c := d_is_needless) rfl rfl ?_
  have er : rows[k]? = some (rowAt rows k) := by unfold rowAt; rw [List.getD, List.getElem?_eq_getElem hk]; rfl
  have hm := List.mem_of_getElem? er
  obtain ⟨h1, h2⟩ := hr _ hm
  unfold nlB mostO at q
  generalize rowAt rows k = r at er h1 h2 q
  obtain ⟨x, y, c⟩ := r
  simp only at h1 h2 q
  have e1 : (k : Int) + 1 = ((k + 1 : Nat) : Int) := rfl
  simp [startD, b_is_needless, at_row er]
  simp [rowD]
  refine nxt_of ?_
  simp [cut_take]
  simp only [e1, cut_drop]
  have ed := del_D (rows := rows) (k := k)
  simp at ed ⊢
  refine ⟨by omega, ?_⟩
  rw [ed]
  refine most_spec (fun r hr' => hr r (del_sub hr')) (Nat.le_trans del_len hl) hn2 h1 h2 ?_
  simp
  refine nxt_of ?_
  cases e : hv (settled n (del rows k) (fromL n y)).hs x with
  | none =>
    rw [e] at q
    simp
    exact gc_same q
  | some u =>
    rw [e] at q
    simp [ov]
    exact gc_same q
theorem needless_spec {d n : Nat} {rows : List Row} {h : Hd} {Q : PD} (hr : rok n rows) (hl : rows.length ≤ 1000) (hn2 : n ≤ 1000) (q : Q (.tup ((toZ ((List.range rows.length).filter (nlB n rows))).map D.int)) h) : wpCall gl F (d+6) 14 [.int n, .tup (rows.map rowD)] h Q := by
  have hz : sizeLine > 200000 := by decide
  refine call_of (c := d_needless_rows) rfl rfl ?_
  simp [startD, b_needless_rows]
  refine ⟨by omega, ?_⟩
  rw [rangeD_map]
  refine comp_onf _ (fun k : Nat => D.int (k : Int)) (nlB n rows) (by simp; omega) trivial (fun k hk kk s hk2 => ?_) ?_
  · have hk : k < rows.length := by simpa using hk
    simp
    refine is_needless_spec hr hl hn2 hk ?_
    simpa using hk2
  · rw [toZ_D] at q
    try simp
    exact gc_same q
/-! draws -/
theorem Ex.tail {a : DO} {r h : Hd} (e : Ex (a :: r) h) : ∃ r2, h = a :: r2 ∧ Ex r r2 := by
  cases h with
  | nil => have := e.1; simp at this
  | cons b r2 =>
    have h0 := e.2 0 (by simp)
    simp at h0
    subst h0
    refine ⟨r2, rfl, by have := e.1; simpa using this, fun i hi => ?_⟩
    have := e.2 (i + 1) (by simpa using hi)
    simpa using this
theorem gc_dr {xs ys : List Int} {r r2 : Hd} {v : D} {Q : PD} (e : Ex r r2) (c : v.clean (r.length + 1)) (q : Q v (.lst (ys.map D.int) :: r)) : Gc (.lst (xs.map D.int) :: r) v (.lst (ys.map D.int) :: r2) Q := by
  refine .inr (.inl ⟨c, ⟨by have := e.1; simpa using this, fun i o hi eo => ?_⟩, ?_⟩)
  · cases i with
    | zero =>
      simp at eo
      subst eo
      exact .inr (cleans_ints _)
    | succ i =>
      simp at eo hi
      rw [e.2 i hi] at eo
      exact .inl (by simpa using eo)
  · show Q v ((DO.lst (ys.map D.int) :: r2).take (r.length + 1))
    rw [List.take_succ_cons, e.take]
    exact q
theorem cell_spec {d : Nat} {ns xs : List Int} {r : Hd} {Q : PD} (q : ∀ (c : Int) (ys : List Int), Q (.int c) (.lst (ys.map D.int) :: r)) : wpCall gl F (d+2) 17 [.rl (ns.map D.int), .loc 0] (.lst (xs.map D.int) :: r) Q := by
  have hz : sizeLine > 200000 := by decide
  refine call_of (c := d__law_cell) rfl rfl ?_
  simp [startD, b__law_cell]
  split
  · refine nxt_of ?_
    simp
    exact gc_dr Ex.refl trivial (q 0 xs)
  · rename_i hn
    refine nxt_of ?_
    have hl : (0 : Int) < ns.length := by
      have : ns.length ≠ 0 := by simpa using hn
      omega
    simp
    refine take_spec rfl hl (xs := xs) rfl fun n ys r0 r1 => ?_
    have e : ∃ c, atI (ns.map D.int) n = some (.int c) := ⟨_, atI_ints r0 r1 rfl⟩
    obtain ⟨c, e⟩ := e
    simp [e]
    refine nxt_of ?_
    simp
    refine ⟨by omega, ?_⟩
    by_cases hc : c < 0
    · simp [hc]
      exact ⟨.inl (.inr ⟨by decide, by decide⟩), gc_dr Ex.refl trivial (q _ ys)⟩
    · simp [hc]
      exact ⟨.inl (.inr ⟨by decide, by decide⟩), gc_dr Ex.refl trivial (q _ ys)⟩
theorem cleans_rows {n : Nat} : ∀ rows : List Row, D.cleans n (rows.map rowD)
  | [] => trivial
  | r :: rows => ⟨⟨trivial, trivial, trivial, trivial⟩, cleans_rows rows⟩
theorem rows_spec {d n : Nat} {xs : List Int} {r : Hd} {Q : PD} (q : ∀ (rows : List Row) (ys : List Int), rok n rows → (∀ r ∈ rows, -3 ≤ r.2.2 ∧ r.2.2 ≤ 6) → rows.length ≤ 9 → Q (.tup (rows.map rowD)) (.lst (ys.map D.int) :: r)) :
    wpCall gl F (d+2) 19 [.loc 0, .int n, .int 9] (.lst (xs.map D.int) :: r) Q := by
  have hz : sizeLine > 200000 := by decide
  refine call_of (c := d__law_rows) rfl rfl ?_
  simp [startD, b__law_rows]
  refine nxt_of ?_
  simp
  refine take_spec rfl (by omega) (xs := xs) rfl fun n1 ys r0 r1 => ?_
  simp
  have hm : ∃ m : Nat, m ≤ 9 ∧ n1 * (if 0 < n then 1 else 0) = (m : Int) ∧ (n = 0 → m = 0) := by
    by_cases h0 : 0 < n
    · rw [if_pos h0]
      exact ⟨n1.toNat, by omega, by omega, fun z => by omega⟩
    · rw [if_neg h0]
      exact ⟨0, by omega, by simp, fun _ => rfl⟩
  obtain ⟨m, hm1, hm2, hm3⟩ := hm
  rw [hm2]
  refine ⟨?_, ?_, ?_⟩
  · by_cases h0 : 0 < n
    · rw [if_pos h0]; exact .inl (.inr ⟨by decide, by decide⟩)
    · rw [if_neg h0]; exact .inl (.inr ⟨by decide, by decide⟩)
  · omega
  · refine for_range (fun i τ h' => ∃ (rows : List Row) (ys : List Int) (t : Option D), h' = .lst (ys.map D.int) :: (r ++ [.lst (rows.map rowD)]) ∧ τ = [some (.loc 0), some (.int n), some (.int 9), some (.loc (r.length + 1)), t] ∧ rows.length ≤ i ∧ rok n rows ∧ ∀ r ∈ rows, -3 ≤ r.2.2 ∧ r.2.2 ≤ 6)
      ⟨[], ys, _, rfl, rfl, by simp, fun r h => (nomatch h), fun r h => nomatch h⟩ (fun _ => trivial) ?_ ?_
    · rintro i τ h' k hi ⟨rows, ys, t, rfl, rfl, hl, hr, hs⟩ hk
      have hi : i < m := by simpa using hi
      have hn0 : (0 : Int) < n := by
        have : n ≠ 0 := fun z => by have := hm3 z; omega
        omega
      simp
      refine take_spec rfl hn0 (xs := ys) rfl fun a ys a0 a1 => ?_
      simp
      refine take_spec rfl hn0 (xs := ys) rfl fun b ys b0 b1 => ?_
      simp
      refine take_spec rfl (by omega) (xs := ys) rfl fun c ys c0 c1 => ?_
      simp
      refine ⟨by omega, by omega, ?_⟩
      have er : D.tup [.int a, .int b, .int (c - 3)] = rowD (a.toNat, b.toNat, c - 3) := by
        unfold rowD
        rw [Int.toNat_of_nonneg a0, Int.toNat_of_nonneg b0]
      rw [er]
      refine hk _ _ ⟨rows ++ [(a.toNat, b.toNat, c - 3)], ys, _, by simp, rfl, by simpa using hl, fun r h => ?_, fun r h => ?_⟩
      · rcases List.mem_append.mp h with h | h
        · exact hr r h
        · simp at h
          subst h
          exact ⟨by show a.toNat < n; omega, by show b.toNat < n; omega⟩
      · rcases List.mem_append.mp h with h | h
        · exact hs r h
        · simp at h
          subst h
          exact ⟨by show -3 ≤ c - 3; omega, by show c - 3 ≤ 6; omega⟩
    · rintro τ h' ⟨rows, ys, t, rfl, rfl, hl, hr, hs⟩
      have hl : rows.length ≤ m := by simpa using hl
      refine nxt_of ?_
      simp
      exact gc_dr Ex.refl.app (cleans_rows rows) (q rows ys hr hs (by omega))
end K31

namespace K31
open PySem PySem.Spec PyProof.Rows L2 Py
def tupI (l : List Int) : D := .tup (l.map D.int)
@[simp ↓] theorem m_tupI {l : List Int} {h : Hd} {Q : PD} : mat (tupI l) h Q = Q (tupI l) h := rfl
theorem cut1 {xs : List D} : cutD xs (some 1) none = xs.drop 1 := cut_drop (n := 1)
theorem same_of {d : Nat} {b : Bool} {h : Hd} {Q : PD} (q : Q (.bl true) h) : wpCall gl F (d+1) 18 [.bl b, .bl b] h Q := same_bool rfl rfl rfl (by simpa using q)
theorem judged_spec {d n : Nat} {rows : List Row} {ring xs : List Int} {r : Hd} {Q : PD} (hr : rok n rows) (hl : rows.length ≤ 9) (hn : n ≤ 6) (hrl : ring.length ≤ 100) (q : ∀ ys : List Int, Q (.bl true) (.lst (ys.map D.int) :: r)) :
    wpCall gl F (d+4) 25 [.loc 0, .int n, .tup (rows.map rowD), .tup (ring.map D.int)] (.lst (xs.map D.int) :: r) Q := by
  have hz : sizeLine > 200000 := by decide
  refine call_of (c := d__law_are_judged) rfl rfl ?_
  simp [startD, b__law_are_judged, cut1]
  have e0 : [D.tup (ring.map D.int), D.tup (ring.map D.int).reverse, D.tup (ring.map D.int).tail, D.tup (ring.map D.int ++ ring.map D.int), D.tup (ring.map D.int ++ [D.int rows.length]), D.tup [D.int (-1)]] =
      [ring, ring.reverse, ring.tail, ring ++ ring, ring ++ [(rows.length : Int)], [-1]].map tupI := by simp [tupI, List.map_tail]
  have hR0 : ∀ l ∈ [ring, ring.reverse, ring.tail, ring ++ ring, ring ++ [(rows.length : Int)], [-1]], l.length ≤ 1000 := by
    intro l h
    simp at h
    rcases h with rfl | rfl | rfl | rfl | rfl | rfl <;> (try simp) <;> omega
  have hR6 : [ring, ring.reverse, ring.tail, ring ++ ring, ring ++ [(rows.length : Int)], [-1]].length ≤ 6 := by simp
  generalize [ring, ring.reverse, ring.tail, ring ++ ring, ring ++ [(rows.length : Int)], [-1]] = RS0 at e0 hR0 hR6
  refine ⟨by omega, by omega, by omega, by omega, by omega, nxt_of ?_⟩
  rw [e0]
  have hm : ∃ m : Nat, m ≤ 4 ∧ (4 * (if 0 < rows.length then 1 else 0) : Int) = m ∧ (rows = [] → m = 0) := by
    by_cases h : rows = []
    · subst h; exact ⟨0, by omega, by simp, fun _ => rfl⟩
    · have : 0 < rows.length := List.length_pos_iff.mpr h
      rw [if_pos this]
      exact ⟨4, by omega, by simp, fun z => absurd z h⟩
  obtain ⟨m, hm1, hm2, hm3⟩ := hm
  simp
  refine ⟨?_, ?_⟩
  · exact .inl (.inl ⟨by decide, by decide⟩)
  rw [hm2]
  refine ⟨by omega, ?_⟩
  refine for_range (fun i τ h' => ∃ (RS : List (List Int)) (ys : List Int) (t5 t6 t7 t8 : Option D), h' = .lst (ys.map D.int) :: (r ++ [.lst (RS.map tupI)]) ∧ τ = [some (.loc 0), some (.int n), some (.tup (rows.map rowD)), some (.tup (ring.map D.int)), some (.loc (r.length + 1)), t5, t6, t7, t8] ∧ RS.length ≤ RS0.length + i ∧ ∀ l ∈ RS, l.length ≤ 1000)
    ⟨RS0, xs, _, _, _, _, rfl, rfl, by omega, hR0⟩ (fun _ => trivial) ?_ ?_
  · rintro i τ h' k hi ⟨RS, ys, t5, t6, t7, t8, rfl, rfl, hRl, hRS⟩ hk
    have hi : i < m := by simpa using hi
    have hrows : 0 < rows.length := by
      refine List.length_pos_iff.mpr fun z => ?_
      have := hm3 z
      omega
    simp
    refine take_spec rfl (by omega) (xs := ys) rfl fun a ys a0 a1 => ?_
    simp
    refine ⟨by omega, ?_⟩
    refine comp_inv (fun j acc h' => ∃ (l ys : List Int), acc = l.map D.int ∧ l.length = j ∧ h' = .lst (ys.map D.int) :: (r ++ [.lst (RS.map tupI)])) (by simp; omega) ⟨[], ys, rfl, rfl, rfl⟩ ?_ ?_
    · rintro j x acc h' k s hx ⟨l, ys, rfl, hl2, rfl⟩ hk hs
      simp [yesT]
      refine take_spec rfl (by omega) (xs := ys) rfl fun b ys b0 b1 => ?_
      simp
      exact hk _ _ ⟨l ++ [b], ys, by simp, by simpa using hl2, rfl⟩
    · rintro acc h' ⟨l, ys, rfl, hl2, rfl⟩
      have hl2 : l.length ≤ 1000 := by simp at hl2; omega
      simp
      refine ⟨by omega, hk _ _ ⟨RS ++ [l], ys, _, _, _, _, by simp [tupI], rfl, by simp; omega, fun p hp => ?_⟩⟩
      rcases List.mem_append.mp hp with h | h
      · exact hRS p h
      · simp at h; rw [h]; exact hl2
  · rintro τ h' ⟨RS, ys, t5, t6, t7, t8, rfl, rfl, hRl, hRS⟩
    have hRl : RS.length ≤ 1000 := by omega
    refine nxt_of ?_
    simp
    refine comp_onf (as := RS) tupI tupI (fun _ => false) (by omega) ?_ (fun l hlm k s hk => ?_) ?_
    · simp
    · have h1 := hRS l hlm
      simp
      refine judge_ring_spec (by omega) h1 ?_
      simp
      refine is_ring_spec (by omega) h1 ?_
      simp
      refine same_of ?_
      simp
      simpa using hk
    · have e : RS.filter (fun _ => false) = [] := List.filter_eq_nil_iff.mpr (by simp)
      rw [e]
      simp
      refine nxt_of ?_
      simp
      refine for_range (fun i τ h' => ∃ (ys : List Int) (t5 t6 t7 t8 : Option D), h' = .lst (ys.map D.int) :: (r ++ [.lst (RS.map tupI)]) ∧ τ = [some (.loc 0), some (.int n), some (.tup (rows.map rowD)), some (.tup (ring.map D.int)), some (.loc (r.length + 1)), t5, t6, t7, t8])
        ⟨ys, _, _, _, _, rfl, rfl⟩ (fun _ => trivial) ?_ ?_
      · rintro i τ h' k hi ⟨ys, t5, t6, t7, t8, rfl, rfl⟩ hk
        simp
        refine ⟨by omega, ?_⟩
        refine comp_inv (fun j acc h' => ∃ (l ys : List Int), acc = l.map D.int ∧ l.length = j ∧ h' = .lst (ys.map D.int) :: (r ++ [.lst (RS.map tupI)])) (by simp; omega) ⟨[], ys, rfl, rfl, rfl⟩ ?_ ?_
        · rintro j x acc h' k s hx ⟨l, ys, rfl, hl2, rfl⟩ hk hs
          simp [yesT]
          refine take_spec rfl (by omega) (xs := ys) rfl fun b ys b0 b1 => ?_
          simp
          exact hk _ _ ⟨l ++ [b - 6], ys, by simp, by simpa using hl2, rfl⟩
        · rintro acc h' ⟨hs, ys, rfl, hl2, rfl⟩
          have hl2 : hs.length = n := by simpa using hl2
          simp
          refine nxt_of ?_
          simp
          refine judge_spec hr (by omega) ?_
          simp
          refine lkeeps_spec hr (by omega) hl2 ?_
          simp [hl2]
          refine same_of ?_
          simp
          refine ⟨by omega, by omega, ?_⟩
          have ea : hs.map D.int ++ [.int 0] = (hs ++ [0]).map D.int := by simp
          rw [ea]
          refine judge_spec hr (by omega) ?_
          have ef : decide ((hs ++ [0]).length = n) = false := by
            rw [decide_eq_false_iff_not]
            simp
            omega
          rw [ef]
          simp [isBlD]
          exact hk _ _ ⟨ys, _, _, _, _, rfl, rfl⟩
      · rintro τ h' ⟨ys, t5, t6, t7, t8, rfl, rfl⟩
        refine nxt_of ?_
        simp
        exact gc_dr Ex.refl.app trivial (q ys)
end K31

namespace K31
open PySem PySem.Spec PyProof.Rows L2 Py
/-! ### facts of a taken set of rows -/
structure Ok (n : Nat) (rows : List Row) : Prop where
  r : rok n rows
  l : rows.length ≤ 9
  n6 : n ≤ 6
  s : small rows
theorem Ok.del {n : Nat} {rows : List Row} (o : Ok n rows) (k : Nat) : Ok n (del rows k) := ⟨fun r h => o.r r (del_sub h), Nat.le_trans del_len o.l, o.n6, fun r h => o.s r (del_sub h)⟩
theorem nn_del {rows : List Row} (nn : noNeg rows) (k : Nat) : noNeg (del rows k) := by
  have key : ∀ {x y l : Nat} {s : Int}, Wy (del rows k) x y l s → Wy rows x y l s := by
    intro x y l s a
    induction a with
    | nil x => exact .nil x
    | cons h _ ih => exact .cons (del_sub h) ih
  exact fun x l s a => nn x l s (key a)
theorem mul7 {n l : Nat} (hn : n ≤ 6) (hl : l ≤ 9) : (n + 1) * l ≤ 100 := by
  have : (n + 1) * l ≤ 7 * 9 := Nat.mul_le_mul (by omega) hl
  omega
/-- what the package tells of two numbers -/
theorem most_some {n x y : Nat} {rows : List Row} {u : Int} (o : Ok n rows) (nn : noNeg rows) (hy : y < n) (e : mostO n rows x y = some u) : fw rows n x y = u ∧ u ≤ BIG := by
  obtain ⟨t, j, N, J1, w, hN, fx, hlast⟩ := settled_ok (rows := rows) (fromL_len n y) fun r hr' => (o.r r hr').1
  rw [hv_fromL hy] at J1
  exact bnd_some o.n6 o.r o.s nn J1 (from_zero J1 nn) (fx (last_none w J1 nn hlast)) (Nat.le_trans hN (mul7 o.n6 o.l)) e
theorem most_none {n x y : Nat} {rows : List Row} (o : Ok n rows) (nn : noNeg rows) (hy : y < n) (e : mostO n rows x y = none) : BIG < fw rows n x y := by
  obtain ⟨t, j, N, J1, w, hN, fx, hlast⟩ := settled_ok (rows := rows) (fromL_len n y) fun r hr' => (o.r r hr').1
  rw [hv_fromL hy] at J1
  exact bnd_none o.n6 o.s (from_zero J1 nn) (fx (last_none w J1 nn hlast)) e
theorem rowAt_mem {rows : List Row} {k : Nat} (h : k < rows.length) : rowAt rows k ∈ rows := by
  unfold rowAt
  rw [List.getD, List.getElem?_eq_getElem h]
  exact List.getElem_mem h
theorem nl_eq {n k : Nat} {rows : List Row} (o : Ok n rows) (nn : noNeg rows) (hk : k < rows.length) : nlB n rows k = decide (fw (del rows k) n (rowAt rows k).1 (rowAt rows k).2.1 ≤ (rowAt rows k).2.2) := by
  have hm := rowAt_mem hk
  obtain ⟨h1, h2⟩ := o.r _ hm
  have hs := o.s _ hm
  unfold nlB
  cases e : mostO n (del rows k) (rowAt rows k).1 (rowAt rows k).2.1 with
  | none =>
    have := most_none (o.del k) (nn_del nn k) h2 e
    have hb : CB ≤ BIG := by decide
    show false = _
    rw [eq_comm, decide_eq_false_iff_not]
    omega
  | some u =>
    rw [(most_some (o.del k) (nn_del nn k) h2 e).1]
/-- the heights -/
def hd (n : Nat) (rows : List Row) (x : Nat) : Int := (hv (settled n rows (zeros n)).hs x).getD 0
def hdL (n : Nat) (rows : List Row) : List Int := (List.range n).map (hd n rows)
theorem hdL_len {n : Nat} {rows : List Row} : (hdL n rows).length = n := by unfold hdL; simp
theorem hdL_get {n x : Nat} {rows : List Row} (h : x < n) : (hdL n rows).getD x 0 = hd n rows x := by
  unfold hdL
  rw [List.getD, List.getElem?_map, List.getElem?_range h]; rfl
structure Hts (n : Nat) (rows : List Row) : Prop where
  last : (settled n rows (zeros n)).last = none
  all : (settled n rows (zeros n)).hs.map ov = (hdL n rows).map D.int
  sat : ∀ x y c, (x, y, c) ∈ rows → hd n rows x ≤ hd n rows y + c
  mem : ∀ x, x < n → hd n rows x = 0 ∨ ∃ y, y < n ∧ fw rows n x y = hd n rows x
  le : ∀ x, x < n → hd n rows x ≤ 0 ∧ ∀ y, y < n → hd n rows x ≤ fw rows n x y
theorem heights_ok {n : Nat} {rows : List Row} (o : Ok n rows) (nn : noNeg rows) : Hts n rows := by
  obtain ⟨t, j, N, J1, w, hN, fx, hlast⟩ := settled_ok (rows := rows) (zeros_len n) fun r hr' => (o.r r hr').1
  rw [hv_zeros] at J1
  have hl := last_none w J1 nn hlast
  have fx := fx hl
  have hsome : ∀ x, x < n → hv (settled n rows (zeros n)).hs x = some (hd n rows x) := fun x hx => by
    obtain ⟨u, hu, _⟩ := J1.M x 0 (if_pos hx)
    unfold hd
    rw [hu]; rfl
  have hdg := (can_iff o.n6 o.r o.s).mpr nn
  refine ⟨hl, ?_, ?_, ?_, ?_⟩
  · refine List.ext_getElem? fun i => ?_
    rw [List.getElem?_map, List.getElem?_map]
    by_cases hi : i < n
    · have h1 : (settled n rows (zeros n)).hs[i]? = some (some (hd n rows i)) := by
        have := hsome i hi
        unfold hv at this
        rw [List.getD, List.getElem?_eq_getElem (by rw [w.len]; exact hi)] at this
        rw [List.getElem?_eq_getElem (by rw [w.len]; exact hi)]
        exact congrArg some this
      have h2 : (hdL n rows)[i]? = some (hd n rows i) := by
        unfold hdL
        rw [List.getElem?_map, List.getElem?_range hi]; rfl
      rw [h1, h2]; rfl
    · rw [List.getElem?_eq_none (by rw [w.len]; omega), List.getElem?_eq_none (by rw [hdL_len]; omega)]; rfl
  · intro x y c hm
    obtain ⟨h1, h2⟩ := o.r _ hm
    obtain ⟨u, hu, le⟩ := fx _ hm _ (hsome y h2)
    simp only at hu le
    rw [hsome x h1] at hu
    cases hu
    exact le
  · intro x hx
    obtain ⟨y, hy, le⟩ := height_at o.r hdg J1 (hsome x hx)
    have := (height_le o.n6 o.s J1 fx (hsome x hx) hx (y := y)).2 hy
    exact .inr ⟨y, hy, by omega⟩
  · intro x hx
    exact ⟨(height_le o.n6 o.s J1 fx (hsome x hx) hx (y := x)).1, fun y hy => (height_le o.n6 o.s J1 fx (hsome x hx) hx (y := y)).2 hy⟩
theorem Hts.min {n x : Nat} {rows : List Row} (H : Hts n rows) (hx : x < n) : (0 :: (List.range n).map (fun y => fw rows n x y)).min? = some (hd n rows x) := by
  rw [List.min?_eq_some_iff]
  obtain ⟨h0, h1⟩ := H.le x hx
  refine ⟨?_, fun b hb => ?_⟩
  · rcases H.mem x hx with e | ⟨y, hy, e⟩
    · rw [e]; exact List.mem_cons_self
    · exact List.mem_cons_of_mem _ (List.mem_map.mpr ⟨y, List.mem_range.mpr hy, e⟩)
  · rcases List.mem_cons.mp hb with rfl | hb
    · exact h0
    · obtain ⟨y, hy, rfl⟩ := List.mem_map.mp hb
      exact h1 y (List.mem_range.mp hy)
theorem Hts.keeps {n : Nat} {rows : List Row} (H : Hts n rows) (o : Ok n rows) : rows.all (keepB (hdL n rows)) = true := by
  rw [List.all_eq_true]
  intro r hm
  obtain ⟨h1, h2⟩ := o.r _ hm
  unfold keepB
  rw [hdL_get h1, hdL_get h2]
  have := H.sat r.1 r.2.1 r.2.2 hm
  exact decide_eq_true (by omega)
theorem nn_of_none {n : Nat} {rows : List Row} (o : Ok n rows) (e : (settled n rows (zeros n)).last = none) : noNeg rows := by
  obtain ⟨t, j, N, J1, w, hN, fx, hlast⟩ := settled_ok (rows := rows) (zeros_len n) fun r hr' => (o.r r hr').1
  rw [hv_zeros] at J1
  have fx := fx e
  intro x l s a
  cases a with
  | nil => exact Int.le_refl _
  | @cons _ z _ l c s hm a' =>
    have hx := (o.r _ hm).1
    obtain ⟨u, hu, _⟩ := J1.M x 0 (if_pos hx)
    obtain ⟨u2, hu2, le⟩ := sat_way fx (.cons hm a') hu
    rw [hu] at hu2
    cases hu2
    omega
theorem same_ints {d : Nat} {l : List Int} {h : Hd} {Q : PD} (hl : l.length ≤ 1000) (q : Q (.bl true) h) : wpCall gl F (d+2) 18 [.tup (l.map D.int), .tup (l.map D.int)] h Q := by
  refine same_tup rfl rfl rfl rfl (by simp; omega) (fun i x y h1 h2 => ?_) q
  rw [h1] at h2
  cases h2
  rw [List.getElem?_map] at h1
  cases e : l[i]? with
  | none => rw [e] at h1; cases h1
  | some v =>
    rw [e] at h1
    cases h1
    exact ⟨rfl, rfl, fun Q q => same_int rfl rfl rfl (by simpa using q)⟩
end K31

namespace K31
open PySem PySem.Spec PyProof.Rows L2 Py
theorem Mt.swap {A B : DO} {r : Hd} {a b n : Nat} {M : Nat → Nat → Int} (m : Mt (A :: r) (a + 1) (b + 1) n M) : Mt (B :: r) (a + 1) (b + 1) n M := by
  refine ⟨by have := m.far; simpa using this, fun x hx => ?_⟩
  have := m.row x hx
  have e : b + 1 + x = (b + x) + 1 := by omega
  rw [e] at this ⊢
  simpa using this
theorem bounds_dr {d n : Nat} {rows : List Row} {ys : List Int} {r : Hd} {Q : PD} (hr : rok n rows) (hl : rows.length ≤ 1000) (hn2 : n ≤ 1000)
    (q : ∀ r2 a b, Ex r r2 → (∀ B, Mt (B :: r2) (a + 1) (b + 1) n (fw rows n)) → Q (.loc (a + 1)) (.lst (ys.map D.int) :: r2)) :
    wpCall gl F (d+1) 20 [.int n, .tup (rows.map rowD)] (.lst (ys.map D.int) :: r) Q := by
  refine bounds_spec hr hl hn2 fun base ex => ?_
  obtain ⟨r1, rfl, e1⟩ := ex.tail
  have mt : Mt ((DO.lst (ys.map D.int) :: r1) ++ blk (DO.lst (ys.map D.int) :: r1).length n (fw rows n)) ((DO.lst (ys.map D.int) :: r1).length + n) (DO.lst (ys.map D.int) :: r1).length n (fw rows n) := mt_blk
  have e : (DO.lst (ys.map D.int) :: r1).length + n = (r1.length + n) + 1 := by simp; omega
  rw [e] at mt ⊢
  exact q (r1 ++ blk (DO.lst (ys.map D.int) :: r1).length n (fw rows n)) (r1.length + n) r1.length e1.app fun B => mt.swap
theorem ne_nil {h : Hd} {Q : PD} : px .ne [.tup [], .tup []] h Q = Q (.bl false) h := x_neIT0 (ns := [])
theorem told_spec {d n : Nat} {rows : List Row} {xs : List Int} {r : Hd} {Q : PD} (o : Ok n rows) (q : ∀ ys : List Int, Q (.bl true) (.lst (ys.map D.int) :: r)) :
    wpCall gl F (d+7) 26 [.loc 0, .int n, .tup (rows.map rowD)] (.lst (xs.map D.int) :: r) Q := by
  have hz : sizeLine > 200000 := by decide
  have hr := o.r
  have hl9 := o.l
  have hn6 := o.n6
  refine call_of (c := d__law_are_told) rfl rfl ?_
  simp [startD, b__law_are_told]
  refine bounds_dr hr (by omega) (by omega) fun r2 a b e2 mt => ?_
  simp
  refine nxt_of ?_
  simp
  refine heights_spec hr (by omega) (by omega) ?_
  have mH : ∀ (h : Hd) (Q : PD), mat (if (settled n rows (zeros n)).last = none then .tup ((settled n rows (zeros n)).hs.map ov) else .non) h Q = Q (if (settled n rows (zeros n)).last = none then .tup ((settled n rows (zeros n)).hs.map ov) else .non) h := fun h Q => by split <;> rfl
  simp only [mH]
  refine ring_spec hr (by omega) (by omega) fun ro hro => ?_
  have mR : ∀ (h : Hd) (Q : PD), mat (ringD ro) h Q = Q (ringD ro) h := fun h Q => by cases ro <;> rfl
  simp only [mR]
  try simp
  refine ⟨by omega, nxt_of ?_⟩
  simp
  refine can_spec (by omega) (mt _) ?_
  by_cases hc : ∀ x, x < n → 0 ≤ fw rows n x x
  · have nn := (can_iff hn6 hr o.s).mp hc
    have H := heights_ok o nn
    have hro : ro = none := by
      rcases hro with ⟨e, _⟩ | ⟨x, m, _, e, _⟩
      · exact e
      · rw [H.last] at e; cases e
    subst hro
    rw [decide_eq_true hc]
    rw [if_pos H.last, H.all]
    simp [ringD]
    refine nxt_of ?_
    simp
    refine ⟨by omega, ?_⟩
    rw [rangeD_map]
    refine comp_on _ (fun x : Nat => .int (hd n rows x)) (by simp; omega) trivial (fun x hx k hk => ?_) ?_
    · have hx : x < n := by simpa using hx
      have m1 := mt (DO.lst (xs.map D.int))
      simp
      refine ⟨by omega, by omega, ?_⟩
      rw [rangeD_map]
      refine comp_on _ (fun y : Nat => .int (fw rows n x y)) (by simp; omega) trivial (fun y hy k hk => ?_) ?_
      · have hy : y < n := by simpa using hy
        simp [m1.far, m1.row x hx, at_locs hx, at_rowM hy]
        simpa using hk
      · have ec : D.int 0 :: (List.range n).map (fun y : Nat => D.int (fw rows n x y)) = ((0 : Int) :: (List.range n).map (fun y => fw rows n x y)).map D.int := by simp
        have hm : ∀ (h : Hd) (Q : PD), px .minL [.tl (D.int 0 :: (List.range n).map (fun y : Nat => D.int (fw rows n x y)))] h Q = Q (.int (hd n rows x)) h := fun h Q => by
          rw [ec]
          exact x_minL rfl (H.min hx)
        try simp
        refine ⟨by omega, ?_⟩
        rw [hm]
        simpa using hk
    · have ed : (List.range n).map (fun x : Nat => D.int (hd n rows x)) = (hdL n rows).map D.int := by unfold hdL; simp
      rw [ed]
      have hlen : (hdL n rows).length = n := hdL_len
      have hkeep := H.keeps o
      have hget : ∀ x, x < n → (hdL n rows).getD x 0 = hd n rows x := fun x hx => hdL_get hx
      generalize hdL n rows = dl at hlen hkeep hget ⊢
      try simp
      refine nxt_of ?_
      simp [isNonD]
      refine same_ints (by omega) ?_
      simp
      refine lkeeps_spec hr (by omega) hlen ?_
      rw [hkeep]
      simp
      refine judged_spec (ring := []) hr hl9 hn6 (by simp) fun ys => ?_
      simp
      refine nxt_of ?_
      simp
      refine ⟨by omega, ?_⟩
      have m1 : Mt (.lst (ys.map D.int) :: r2) (a + 1) (b + 1) n (fw rows n) := mt _
      generalize told_ : D.tup (dl.map D.int) = told
      refine for_range (fun i τ h' => h' = .lst (ys.map D.int) :: r2 ∧ ∃ t7 t8 t9 t10 t11 t12, τ = [some (.loc 0), some (.int n), some (.tup (rows.map rowD)), some (.loc (a + 1)), some told, some .non, some told, t7, t8, t9, t10, t11, t12, none, none])
        ⟨rfl, _, _, _, _, _, _, rfl⟩ (fun _ => trivial) ?_ ?_
      · rintro x τ h' k hx ⟨rfl, t7, t8, t9, t10, t11, t12, rfl⟩ hk
        subst told_
        have ex1 : (x : Int) + 1 = ((x + 1 : Nat) : Int) := rfl
        simp [at_int (hs := dl) (x := x) (by omega), cut_take]
        simp only [ex1, cut_drop]
        have eh : (dl.map D.int).take x ++ (D.int (dl.getD x 0 + 1) :: (dl.map D.int).drop (x + 1)) = (dl.set x (dl.getD x 0 + 1)).map D.int := by
          rw [List.set_eq_take_append_cons_drop, if_pos (by omega)]
          simp [List.map_take, List.map_drop]
        simp at eh ⊢
        refine ⟨by omega, by omega, by omega, nxt_of ?_⟩
        rw [eh]
        have es : (dl.map D.int).set x (D.int (dl[x]?.getD 0 + 1)) = (dl.set x (dl[x]?.getD 0 + 1)).map D.int := by rw [List.map_set]
        rw [es]
        generalize hh : dl.set x (dl[x]?.getD 0 + 1) = hi1
        have hlen1 : hi1.length = n := by rw [← hh]; simpa using hlen
        simp
        refine judge_spec hr (by omega) ?_
        simp
        refine lkeeps_spec hr (by omega) hlen1 ?_
        simp [hlen1]
        refine same_of ?_
        simp
        refine nxt_of ?_
        simp
        refine ⟨by omega, ?_⟩
        refine for_range (fun i τ h' => h' = .lst (ys.map D.int) :: r2 ∧ ∃ t7 t10 t11 t12, τ = [some (.loc 0), some (.int n), some (.tup (rows.map rowD)), some (.loc (a + 1)), some (.tup (dl.map D.int)), some .non, some (.tup (dl.map D.int)), t7, some (.int x), some (.tup (hi1.map D.int)), t10, t11, t12, none, none])
          ⟨rfl, _, _, _, _, rfl⟩ (fun _ => trivial) ?_ ?_
        · rintro y τ h' k hy ⟨rfl, t7, t10, t11, t12, rfl⟩ hk
          simp
          refine most_spec hr (by omega) (by omega) hx hy ?_
          simp
          refine why_spec hr (by omega) (by omega) hx hy nn fun wo hwo => ?_
          have mW : ∀ (h : Hd) (Q : PD), mat (ringD wo) h Q = Q (ringD wo) h := fun h Q => by cases wo <;> rfl
          simp only [mW]
          try simp
          refine ⟨by omega, nxt_of ?_⟩
          have eM : mostO n rows x y = hv (settled n rows (fromL n y)).hs x := rfl
          simp [m1.far, m1.row x hx, at_locs hx, at_rowM hy]
          cases eo : mostO n rows x y with
          | none =>
            have hb := most_none o nn hy eo
            rw [← eM, eo]
            have hwo : wo = none := by
              rcases hwo with ⟨e, _⟩ | ⟨m, _, _, e, _⟩
              · exact e
              · rw [← eM, eo] at e; cases e
            subst hwo
            have hb2 : (100000000000000000000000000000000000 : Int) < fw rows n x y := hb
            simp [hb2]
            refine nxt_of ?_
            simp [ov, ringD, isNonD]
            exact hk _ _ ⟨rfl, _, _, _, _, rfl⟩
          | some u =>
            obtain ⟨hu1, hu2⟩ := most_some o nn hy eo
            rw [← eM, eo]
            obtain ⟨m, e1, e3, e4, e5, e6, _⟩ : ∃ m, wo = some (toZ (keys rows (settled n rows (fromL n y)).cs m x)) ∧ endOf rows (toZ (keys rows (settled n rows (fromL n y)).cs m x)) (x : Int) = some (y : Int) ∧ hv (settled n rows (fromL n y)).hs x = some (sumK rows (keys rows (settled n rows (fromL n y)).cs m x)) ∧ (x = y → m = 0) ∧ m ≤ n ∧ True := by
              rcases hwo with ⟨_, e⟩ | ⟨m, e1, e3, e4, e5, e6, _⟩
              · rw [← eM, eo] at e; cases e
              · exact ⟨m, e1, e3, e4, e5, e6, trivial⟩
            subst e1
            rw [← eM, eo] at e4
            have e4 : u = sumK rows (keys rows (settled n rows (fromL n y)).cs m x) := Option.some.inj e4
            rw [← sumW_toZ] at e4
            have e7 : m = 0 → toZ (keys rows (settled n rows (fromL n y)).cs m x) = [] := fun z => by subst z; rfl
            have e8 : (toZ (keys rows (settled n rows (fromL n y)).cs m x)).length = m := by unfold toZ; rw [List.length_map, keys_len]
            generalize toZ (keys rows (settled n rows (fromL n y)).cs m x) = way at e3 e4 e7 e8 ⊢
            have hb2 : ¬ (100000000000000000000000000000000000 : Int) < u := by
              have : u ≤ 100000000000000000000000000000000000 := hu2
              omega
            simp [hu1, hb2]
            refine nxt_of ?_
            simp [ov, m1.far, m1.row x hx, at_locs hx, at_rowM hy, hu1]
            refine same_int rfl rfl rfl ?_
            simp [ringD]
            refine is_way_spec (by omega) ?_
            have eW : isWay rows way x y = true := decide_eq_true e3
            rw [eW]
            simp
            have hin := end_in e3
            refine comp_on (as := way) D.int (fun o => .int (rowAt rows o.toNat).2.2) (by omega) trivial (fun p hp k hk => ?_) ?_
            · simp [row_of (hin p hp)]
              simp [rowD]
              exact hk
            · rw [sum_rows, x_sum (ns := way.map fun o => (rowAt rows o.toNat).2.2) rfl]
              unfold sumW at e4
              simp [← e4]
              by_cases hxy : x = y
              · have := e7 (e5 hxy)
                subst this
                subst hxy
                simp [ne_nil]
                exact hk _ _ ⟨rfl, _, _, _, _, rfl⟩
              · have hxy' : ¬ (x : Int) = y := by omega
                simp [hxy', hxy]
                exact hk _ _ ⟨rfl, _, _, _, _, rfl⟩
        · rintro τ h' ⟨rfl, t7, t10, t11, t12, rfl⟩
          simp
          exact hk _ _ ⟨rfl, _, _, _, _, _, _, rfl⟩
      · rintro τ h' ⟨rfl, t7, t8, t9, t10, t11, t12, rfl⟩
        refine nxt_of ?_
        simp
        refine nxt_of ?_
        simp
        refine ⟨by omega, ?_⟩
        refine for_range (fun i τ h' => ∃ r3, h' = .lst (ys.map D.int) :: r3 ∧ Ex r r3 ∧ r3[r2.length]? = some (.lst ((toZ ((List.range i).filter (nlB n rows))).map D.int)) ∧ ∃ t14, τ = [some (.loc 0), some (.int n), some (.tup (rows.map rowD)), some (.loc (a + 1)), some told, some .non, some told, t7, t8, t9, t10, t11, t12, some (.loc (r2.length + 1)), t14])
          ⟨r2 ++ [.lst []], by simp, e2.app, by simp [toZ], _, rfl⟩ (fun _ => trivial) ?_ ?_
        · rintro i τ h' k hi ⟨r3, rfl, e3, hN, t14, rfl⟩ hk
          have er : rows[i]? = some (rowAt rows i) := by unfold rowAt; rw [List.getD, List.getElem?_eq_getElem hi]; rfl
          have hm := rowAt_mem hi
          obtain ⟨h1, h2⟩ := o.r _ hm
          have enl := nl_eq o nn hi
          have ex1 : (i : Int) + 1 = ((i + 1 : Nat) : Int) := rfl
          have ed := del_D (rows := rows) (k := i)
          have esuc : (List.range (i + 1)).filter (nlB n rows) = (List.range i).filter (nlB n rows) ++ (if nlB n rows i = true then [i] else []) := by
            rw [List.range_succ, List.filter_append, List.filter_cons, List.filter_nil]
          rw [esuc] at hk
          generalize rowAt rows i = rr at er h1 h2 enl
          obtain ⟨x, y, c⟩ := rr
          simp only at h1 h2 enl
          simp [cut_take]
          simp only [ex1, cut_drop]
          simp at ed ⊢
          refine ⟨by omega, ?_⟩
          rw [ed]
          have od := o.del i
          refine bounds_dr od.r (by have := od.l; omega) (by omega) fun r4 a' b' e4 mt' => ?_
          have m2 := mt' (DO.lst (ys.map D.int))
          have e3' := e3.trans e4
          have hN' := e4.look hN
          simp [at_row er]
          simp [rowD, m2.far, m2.row x h1, at_locs h1, at_rowM h2, at_row er]
          by_cases hle : fw (del rows i) n x y ≤ c
          · rw [decide_eq_true hle] at enl
            rw [enl] at hk
            simp [hle]
            refine nxt_of ?_
            have hlen2 : ((List.range i).filter (nlB n rows)).length ≤ 1000 := by
              have := List.length_filter_le (nlB n rows) (List.range i)
              rw [List.length_range] at this
              omega
            simp [hN']
            refine ⟨by simp [toZ]; omega, ?_⟩
            refine hk _ _ ⟨r4.set r2.length _, rfl, e3'.set e2.1, ?_, some (.int i), rfl⟩
            rw [List.getElem?_set_self (List.getElem?_eq_some_iff.mp hN').1]
            simp [toZ]
          · rw [decide_eq_false hle] at enl
            rw [enl] at hk
            simp [hle]
            refine hk _ _ ⟨r4, rfl, e3', by simpa using hN', some (.int i), rfl⟩
        · rintro τ h' ⟨r3, rfl, e3, hN, t14, rfl⟩
          refine nxt_of ?_
          simp
          refine needless_spec hr (by omega) (by omega) ?_
          simp [hN]
          refine same_ints ?_ ?_
          · unfold toZ
            rw [List.length_map]
            have := List.length_filter_le (nlB n rows) (List.range rows.length)
            rw [List.length_range] at this
            omega
          · exact gc_dr e3 trivial (q ys)
  · have nnn : ¬ noNeg rows := fun z => hc ((can_iff hn6 hr o.s).mpr z)
    have hlast : (settled n rows (zeros n)).last ≠ none := fun z => nnn (nn_of_none o z)
    obtain ⟨ring, e, hring, hrl⟩ : ∃ ring, ro = some ring ∧ isRing rows ring = true ∧ ring.length ≤ n := by
      rcases hro with ⟨_, e⟩ | ⟨x, m, e, _, _, hm, _, hg⟩
      · exact absurd e hlast
      · refine ⟨_, e, hg, ?_⟩
        unfold toZ
        rw [List.length_map, keys_len]
        exact hm
    subst e
    rw [decide_eq_false hc, if_neg hlast]
    simp [ringD]
    refine nxt_of ?_
    simp [isNonD]
    refine is_ring_spec (by omega) (by omega) ?_
    rw [hring]
    simp
    refine judged_spec hr hl9 hn6 (by omega) fun ys => ?_
    exact gc_dr e2 trivial (q ys)
end K31

namespace K31
open PySem PySem.Spec PyProof.Rows L2 Py
def few : List Row := [(0, 1, 2), (1, 2, -1), (0, 2, 3), (2, 3, 0), (3, 0, 4)]
def late : List Row := [(0, 1, 2), (0, 2, -1), (1, 1, -1)]
def pD (p : Nat × List Row) : D := .tup [.int p.1, .tup (p.2.map rowD)]
theorem cut3 {xs : List D} : cutD xs none (some 3) = xs.take 3 := cut_take (n := 3)
theorem cut4 {xs : List D} : cutD xs none (some 4) = xs.take 4 := cut_take (n := 4)
theorem cut2 {xs : List D} : cutD xs none (some 2) = xs.take 2 := cut_take (n := 2)
theorem sz1 : (1 ≤ sizeLine) = True := by decide
theorem sz2 : (2 ≤ sizeLine) = True := by decide
theorem sz3 : (3 ≤ sizeLine) = True := by decide
theorem sz4 : (4 ≤ sizeLine) = True := by decide
theorem sz5 : (5 ≤ sizeLine) = True := by decide
theorem sz9 : (9 ≤ sizeLine) = True := by decide
theorem tstep {p : Nat × List Row} {xs : List Int} {Z : Endd} {k : Sd → Hd → Prop} {a0 a2 a3 a4 a5 a6 a7 a8 a9 a10 a11 a12 : Option D} (op : Ok p.1 p.2) (hZ : Z.nx = k)
    (hk : ∀ (ys : List Int) (t11 t12 : Option D), k [a0, some (.loc 0), a2, a3, a4, a5, a6, a7, a8, a9, a10, t11, t12] [.lst (ys.map D.int)]) :
    bindW (.tp [11, 12]) (pD p) [a0, some (.loc 0), a2, a3, a4, a5, a6, a7, a8, a9, a10, a11, a12] fun τ' => ws (wpCall gl F 59) gl (.seq (.ite (.not_ (.call 26 (.acons (.var 1) (.acons (.var 11) (.acons (.var 12) .anil)))))
      (.seq (.ret (.cst (.bl false)))
      .nil)
      .nil)
    .nil) Z τ' [.lst (xs.map D.int)] := by
  simp only [pD]
  simp
  refine told_spec (r := []) op fun ys => ?_
  simp [hZ]
  exact hk ys _ _
theorem few_why {o : Option (List Int)} (h : (o = none ∧ hv (settled 4 few (fromL 4 3)).hs 0 = none) ∨ ∃ m, o = some (toZ (keys few (settled 4 few (fromL 4 3)).cs m 0)) ∧ wk few (settled 4 few (fromL 4 3)).cs m 0 = 3 ∧ ∀ a, a < m → wk few (settled 4 few (fromL 4 3)).cs a 0 ≠ 3) : o = some [0, 1, 3] := by
  have e3 : wk few (settled 4 few (fromL 4 3)).cs 3 0 = 3 := by decide
  have e0 : wk few (settled 4 few (fromL 4 3)).cs 0 0 ≠ 3 := by decide
  have e1 : wk few (settled 4 few (fromL 4 3)).cs 1 0 ≠ 3 := by decide
  have e2 : wk few (settled 4 few (fromL 4 3)).cs 2 0 ≠ 3 := by decide
  have ek : toZ (keys few (settled 4 few (fromL 4 3)).cs 3 0) = [0, 1, 3] := by decide
  have en : hv (settled 4 few (fromL 4 3)).hs 0 ≠ none := by decide
  rcases h with ⟨_, h⟩ | ⟨m, rfl, hm, hl⟩
  · exact absurd h en
  · by_cases h3 : 3 < m
    · exact absurd e3 (hl 3 h3)
    · obtain rfl | rfl | rfl | rfl : m = 0 ∨ m = 1 ∨ m = 2 ∨ m = 3 := by omega
      · exact absurd hm e0
      · exact absurd hm e1
      · exact absurd hm e2
      · rw [ek]
theorem late_ring {o : Option (List Int)} (h : (o = none ∧ (settled 3 late (zeros 3)).last = none) ∨ ∃ x m, o = some (toZ (keys late (settled 3 late (zeros 3)).cs m (wk late (settled 3 late (zeros 3)).cs (settled 3 late (zeros 3)).cs.length x))) ∧ (settled 3 late (zeros 3)).last = some x ∧ 1 ≤ m ∧ m ≤ 3 ∧
      (∀ a, 1 ≤ a → a < m → wk late (settled 3 late (zeros 3)).cs a (wk late (settled 3 late (zeros 3)).cs (settled 3 late (zeros 3)).cs.length x) ≠ wk late (settled 3 late (zeros 3)).cs (settled 3 late (zeros 3)).cs.length x)) : o = some [2] := by
  have en : (settled 3 late (zeros 3)).last = some 1 := by decide
  rcases h with ⟨_, h⟩ | ⟨x, m, rfl, hx, h1, _, hl⟩
  · rw [en] at h; cases h
  · rw [en] at hx
    cases hx
    have e1 : wk late (settled 3 late (zeros 3)).cs 1 (wk late (settled 3 late (zeros 3)).cs (settled 3 late (zeros 3)).cs.length 1) = wk late (settled 3 late (zeros 3)).cs (settled 3 late (zeros 3)).cs.length 1 := by decide
    have ek : toZ (keys late (settled 3 late (zeros 3)).cs 1 (wk late (settled 3 late (zeros 3)).cs (settled 3 late (zeros 3)).cs.length 1)) = [2] := by decide
    by_cases h2 : 1 < m
    · exact absurd e1 (hl 1 (by omega) h2)
    · obtain rfl : m = 1 := by omega
      rw [ek]
theorem law_ok (ns : List Int) (hl : ns.length ≤ 63) : wpCall gl F 60 27 [.rl (ns.map D.int)] [] (fun v _ => v = .bl true) := by
  have hz : sizeLine > 200000 := by decide
  refine call_of (c := d_law) rfl rfl ?_
  simp [startD, b_law]
  refine draws2_spec (m := 200) rfl rfl rfl hl (by omega) fun xs => ?_
  simp
  refine nxt_of ?_
  simp
  refine take_spec rfl (by omega) (xs := xs) rfl fun n xs r0 r1 => ?_
  obtain ⟨m, hm⟩ : ∃ m : Nat, n = (m : Int) := ⟨n.toNat, by omega⟩
  subst hm
  have hm6 : m ≤ 6 := by omega
  simp
  refine nxt_of ?_
  simp
  refine rows_spec (r := []) fun rows xs hrok hsm hlen => ?_
  simp
  refine nxt_of ?_
  simp
  refine cell_spec (r := []) fun c xs => ?_
  simp
  generalize hsc : (1 + Int.fmod _ (100000000000000000000 : Int)) = sc
  have hs1 : 1 ≤ sc ∧ sc ≤ 100000000000000000000 := by
    rw [← hsc]
    have b0 : ∀ z : Int, 0 ≤ Int.fmod z 100000000000000000000 := fun z => Int.fmod_nonneg_of_pos _ (by decide)
    have b1 : ∀ z : Int, Int.fmod z 100000000000000000000 < 100000000000000000000 := fun z => Int.fmod_lt_of_pos _ (by decide)
    exact ⟨by have := b0 (if c < 0 then -c else c); omega, by have := b1 (if c < 0 then -c else c); omega⟩
  clear hsc
  refine nxt_of ?_
  simp
  let wide : List Row := rows.map fun r => (r.1, r.2.1, r.2.2 * sc)
  refine comp_on rowD (fun r => rowD (r.1, r.2.1, r.2.2 * sc)) (by omega) trivial (fun r hr k hk => ?_) ?_
  · have hb := hsm r hr
    obtain ⟨x, y, c⟩ := r
    simp only at hb hk
    simp [rowD]
    exact ⟨.inl (.inl ⟨by omega, by omega⟩), by omega, hk⟩
  · have ew : (rows.map fun r => rowD (r.1, r.2.1, r.2.2 * sc)) = (rows.map fun r => ((r.1, r.2.1, r.2.2 * sc) : Row)).map rowD := by rw [List.map_map]; rfl
    rw [ew]
    have okw : Ok m (rows.map fun r => ((r.1, r.2.1, r.2.2 * sc) : Row)) := by
      refine ⟨fun r h => ?_, by simpa using hlen, hm6, fun r h => ?_⟩
      · obtain ⟨q, hq, rfl⟩ := List.mem_map.mp h
        exact hrok q hq
      · obtain ⟨q, hq, rfl⟩ := List.mem_map.mp h
        have hb := hsm q hq
        have h1 : -3 * sc ≤ q.2.2 * sc := Int.mul_le_mul_of_nonneg_right hb.1 (by omega)
        have h2 : q.2.2 * sc ≤ 6 * sc := Int.mul_le_mul_of_nonneg_right hb.2 (by omega)
        have h3 : CB = 10000000000000000000000 := rfl
        exact ⟨by show -CB ≤ q.2.2 * sc; omega, by show q.2.2 * sc ≤ CB; omega⟩
    have okr : Ok m rows := ⟨hrok, hlen, hm6, fun r h => by
      have hb := hsm r h
      have h3 : CB = 10000000000000000000000 := rfl
      omega⟩
    generalize (rows.map fun r => ((r.1, r.2.1, r.2.2 * sc) : Row)) = wd at okw ⊢
    refine nxt_of ?_
    simp [sz1, sz2, sz3, sz4, sz5, sz9]
    refine nxt_of ?_
    simp [sz1, sz2, sz3, sz4, sz5, sz9]
    refine nxt_of ?_
    simp [sz1, sz2, sz3, sz4, sz5, sz9, cut3, cut4]
    have ok4 : Ok 4 few := ⟨by unfold rok few; decide, by decide, by decide, by unfold small few CB; decide⟩
    have ok3 : Ok 3 late := ⟨by unfold rok late; decide, by decide, by decide, by unfold small late CB; decide⟩
    refine for_inv (fun i τ h' => ∃ (ys : List Int) (t6 t7 t8 t11 t12 : Option D), h' = [.lst (ys.map D.int)] ∧ τ = [some (.rl (ns.map D.int)), some (.loc 0), some (.int m), some (.tup (rows.map rowD)), some (.int sc), some (.tup (wd.map rowD)), t6, t7, t8, some (.tup (few.map rowD)), some (.tup (late.map rowD)), t11, t12])
      ⟨_, _, _, _, _, _, rfl, rfl⟩ ?_ ?_
    · rintro i x τ h' k hx ⟨ys, t6, t7, t8, t11, t12, rfl, rfl⟩ hk
      have hx : ∃ p : Nat × List Row, x = pD p ∧ Ok p.1 p.2 := by
        have hm := List.mem_of_getElem? hx
        clear hx hk
        simp only [List.mem_cons, List.not_mem_nil, or_false] at hm
        rcases hm with rfl | rfl | rfl | rfl | rfl | rfl | rfl | rfl | rfl
        · exact ⟨(m, rows), rfl, okr⟩
        · exact ⟨(m, wd), rfl, okw⟩
        · refine ⟨(m, rows.take 3), by unfold pD; rw [List.map_take], fun r h => okr.r r (List.mem_of_mem_take h), ?_, hm6, fun r h => okr.s r (List.mem_of_mem_take h)⟩
          have := List.length_take_le 3 rows
          show (rows.take 3).length ≤ 9
          omega
        · exact ⟨(4, few), rfl, ok4⟩
        · exact ⟨(3, late), rfl, ok3⟩
        · exact ⟨(4, [(0, 1, 2), (1, 2, -1), (0, 2, 3), (2, 3, 0), (3, 0, -2)]), rfl, ⟨by unfold rok; decide, by decide, by decide, by unfold small CB; decide⟩⟩
        · exact ⟨(0, []), rfl, ⟨by unfold rok; decide, by decide, by decide, by unfold small CB; decide⟩⟩
        · exact ⟨(2, [(0, 0, 0), (1, 1, 3)]), rfl, ⟨by unfold rok; decide, by decide, by decide, by unfold small CB; decide⟩⟩
        · exact ⟨(3, [(0, 1, -5), (1, 0, 5), (2, 1, 100)]), rfl, ⟨by unfold rok; decide, by decide, by decide, by unfold small CB; decide⟩⟩
      obtain ⟨⟨p1, p2⟩, rfl, op⟩ := hx
      exact ⟨trivial, tstep op rfl fun ys t11 t12 => hk _ _ ⟨ys, _, _, _, _, _, rfl, rfl⟩⟩
    · rintro τ h' ⟨ys, t6, t7, t8, t11, t12, rfl, rfl⟩
      generalize [DO.lst (ys.map D.int)] = H
      refine ⟨trivial, nxt_of ?_⟩
      simp
      refine heights_spec (n := 4) ok4.r (by decide) (by decide) ?_
      have c1 : (settled 4 few (zeros 4)).last = none := by decide
      have c2 : (settled 4 few (zeros 4)).hs = [some 0, some (-1), some 0, some 0] := by decide
      rw [if_pos c1, c2]
      simp [sz1, sz2, sz3, sz4, sz5, ov]
      refine same_ints (l := [0, -1, 0, 0]) (by decide) ?_
      simp [sz1, sz2, sz3, sz4, sz5, cut2, cut4]
      refine most_spec (n := 4) (x := 0) (y := 3) ok4.r (by decide) (by decide) (by decide) (by decide) ?_
      have c3 : hv (settled 4 few (fromL 4 3)).hs 0 = some 1 := by decide
      rw [c3]
      simp [ov]
      refine same_int rfl rfl rfl ?_
      simp [sz1, sz2, sz3, sz4, sz5, cut2, cut4]
      refine why_spec (n := 4) (x := 0) (y := 3) ok4.r (by decide) (by decide) (by decide) (by decide) (nn_of_none ok4 c1) fun o ho => ?_
      have ho := few_why (o := o) (ho.imp id fun ⟨m, h1, _, _, _, _, h2, h3⟩ => ⟨m, h1, h2, h3⟩)
      subst ho
      simp [ringD]
      refine same_ints (l := [0, 1, 3]) (by decide) ?_
      simp [sz1, sz2, sz3, sz4, sz5, cut2, cut4]
      refine nxt_of ?_
      simp [sz1, sz2, sz3, sz4, sz5, cut2, cut4]
      refine needless_spec (n := 4) ok4.r (by decide) (by decide) ?_
      have c4 : toZ ((List.range few.length).filter (nlB 4 few)) = [2] := by decide
      rw [c4]
      simp [sz1, sz2, sz3, sz4, sz5, cut2, cut4]
      refine same_ints (l := [2]) (by decide) ?_
      simp [sz1, sz2, sz3, sz4, sz5, cut2, cut4]
      refine nxt_of ?_
      simp [sz1, sz2, sz3, sz4, sz5, cut2, cut4]
      refine ring_spec (n := 3) ok3.r (by decide) (by decide) fun o ho => ?_
      have ho := late_ring (o := o) (ho.imp id fun ⟨x, m, h1, h2, h3, h4, h5, _⟩ => ⟨x, m, h1, h2, h3, h4, h5⟩)
      subst ho
      simp [ringD]
      refine same_ints (l := [2]) (by decide) ?_
      simp [sz1, sz2, sz3, sz4, sz5, cut2, cut4]
      refine heights_spec (n := 3) ok3.r (by decide) (by decide) ?_
      have c5 : (settled 3 late (zeros 3)).last ≠ none := by decide
      rw [if_neg c5]
      refine judge_ring_spec (n := 4) (rows := few) (ring := [0, 1, 3, 4]) (by decide) (by decide) ?_
      rw [show isRing few [0, 1, 3, 4] = false by decide]
      simp
      refine same_of ?_
      simp [sz1, sz2, sz3, sz4, sz5, cut2, cut4]
      refine nxt_of ?_
      simp [sz1, sz2, sz3, sz4, sz5, cut2, cut4]
      refine judge_ring_spec (n := 3) (rows := [(0, 1, -2), (1, 2, 1), (2, 0, 0)]) (ring := [1, 2, 0]) (by decide) (by decide) ?_
      rw [show isRing [(0, 1, -2), (1, 2, 1), (2, 0, 0)] [1, 2, 0] = true by decide]
      simp
      refine same_of ?_
      simp [sz1, sz2, sz3, sz4, sz5, cut2, cut4]
      refine nxt_of ?_
      simp [sz1, sz2, sz3, sz4, sz5, cut2, cut4]
      refine judge_ring_spec (n := 2) (rows := [(0, 1, -2), (1, 0, 3)]) (ring := [0, 1, 0]) (by decide) (by decide) ?_
      rw [show isRing [(0, 1, -2), (1, 0, 3)] [0, 1, 0] = false by decide]
      simp
      refine same_of ?_
      simp [sz1, sz2, sz3, sz4, sz5, cut2, cut4]
      refine judge_ring_spec (n := 2) (rows := [(0, 1, -2)]) (ring := [0]) (by decide) (by decide) ?_
      rw [show isRing [(0, 1, -2)] [0] = false by decide]
      simp
      refine same_of ?_
      simp [sz1, sz2, sz3, sz4, sz5, cut2, cut4]
      refine nxt_of ?_
      simp [sz1, sz2, sz3, sz4, sz5, cut2, cut4]
      refine judge_ring_spec (n := 2) (rows := [(0, 1, -2), (1, 0, 2)]) (ring := [0, 1]) (by decide) (by decide) ?_
      rw [show isRing [(0, 1, -2), (1, 0, 2)] [0, 1] = false by decide]
      simp
      refine same_of ?_
      simp [sz1, sz2, sz3, sz4, sz5, cut2, cut4]
      refine nxt_of ?_
      simp [sz1, sz2, sz3, sz4, sz5, cut2, cut4]
      refine most_spec (n := 4) (rows := few.take 2) (x := 2) (y := 0) (fun r h => ok4.r r (List.mem_of_mem_take h)) (by decide) (by decide) (by decide) (by decide) ?_
      have c6 : hv (settled 4 (few.take 2) (fromL 4 0)).hs 2 = none := by decide
      rw [c6]
      simp [ov]
      refine judge_spec (n := 2) (rows := [(0, 1, 3)]) (hs := [3, 0]) (by unfold rok; decide) (by decide) ?_
      rw [show (decide (([3, 0] : List Int).length = 2) && List.all [(0, 1, 3)] (keepB [3, 0])) = true by decide]
      simp
      refine same_of ?_
      simp [sz1, sz2, sz3, sz4, sz5, cut2, cut4]
      refine nxt_of ?_
      simp [sz1, sz2, sz3, sz4, sz5, cut2, cut4]
      refine heights_spec (n := 2) (rows := [(0, 1, -3)]) (by unfold rok; decide) (by decide) (by decide) ?_
      have c7 : (settled 2 [(0, 1, -3)] (zeros 2)).last = none := by decide
      have c8 : (settled 2 [(0, 1, -3)] (zeros 2)).hs = [some (-3), some 0] := by decide
      rw [if_pos c7, c8]
      simp [sz1, sz2, sz3, sz4, sz5, cut2, cut4, ov]
      refine same_ints (l := [-3, 0]) (by decide) ?_
      simp [sz1, sz2, sz3, sz4, sz5, cut2, cut4]
      refine needless_spec (n := 2) (rows := [(0, 1, 4), (0, 1, 4)]) (by unfold rok; decide) (by decide) (by decide) ?_
      have c9 : toZ ((List.range ([(0, 1, 4), (0, 1, 4)] : List Row).length).filter (nlB 2 [(0, 1, 4), (0, 1, 4)])) = [0, 1] := by decide
      rw [c9]
      simp [sz1, sz2, sz3, sz4, sz5, cut2, cut4]
      refine same_ints (l := [0, 1]) (by decide) ?_
      exact gc_same rfl
end K31

namespace K31
open PySem PySem.Spec PyProof.Rows L2 Py
/-! ### the texts -/
theorem sc_lowered : FnScope d_lowered.N d_lowered.ps (defScope d_lowered.st) := ⟨rfl, rfl, rfl, by decide +kernel, rfl, by decide +kernel, by decide +kernel⟩
theorem ck_lowered : chkB T d_lowered.N d_lowered.body (defScope d_lowered.st) (defBody d_lowered.st) = true := by decide +kernel
theorem sc_settled_heights : FnScope d_settled_heights.N d_settled_heights.ps (defScope d_settled_heights.st) := ⟨rfl, rfl, rfl, by decide +kernel, rfl, by decide +kernel, by decide +kernel⟩
theorem ck_settled_heights : chkB T d_settled_heights.N d_settled_heights.body (defScope d_settled_heights.st) (defBody d_settled_heights.st) = true := by decide +kernel
theorem sc_heights_for : FnScope d_heights_for.N d_heights_for.ps (defScope d_heights_for.st) := ⟨rfl, rfl, rfl, by decide +kernel, rfl, by decide +kernel, by decide +kernel⟩
theorem ck_heights_for : chkB T d_heights_for.N d_heights_for.body (defScope d_heights_for.st) (defBody d_heights_for.st) = true := by decide +kernel
theorem sc_keeps_row : FnScope d_keeps_row.N d_keeps_row.ps (defScope d_keeps_row.st) := ⟨rfl, rfl, rfl, by decide +kernel, rfl, by decide +kernel, by decide +kernel⟩
theorem ck_keeps_row : chkB T d_keeps_row.N d_keeps_row.body (defScope d_keeps_row.st) (defBody d_keeps_row.st) = true := by decide +kernel
theorem sc_judge_heights : FnScope d_judge_heights.N d_judge_heights.ps (defScope d_judge_heights.st) := ⟨rfl, rfl, rfl, by decide +kernel, rfl, by decide +kernel, by decide +kernel⟩
theorem ck_judge_heights : chkB T d_judge_heights.N d_judge_heights.body (defScope d_judge_heights.st) (defBody d_judge_heights.st) = true := by decide +kernel
theorem sc_ring_from : FnScope d_ring_from.N d_ring_from.ps (defScope d_ring_from.st) := ⟨rfl, rfl, rfl, by decide +kernel, rfl, by decide +kernel, by decide +kernel⟩
theorem ck_ring_from : chkB T d_ring_from.N d_ring_from.body (defScope d_ring_from.st) (defBody d_ring_from.st) = true := by decide +kernel
theorem sc_ring_of : FnScope d_ring_of.N d_ring_of.ps (defScope d_ring_of.st) := ⟨rfl, rfl, rfl, by decide +kernel, rfl, by decide +kernel, by decide +kernel⟩
theorem ck_ring_of : chkB T d_ring_of.N d_ring_of.body (defScope d_ring_of.st) (defBody d_ring_of.st) = true := by decide +kernel
theorem sc_follows_on : FnScope d_follows_on.N d_follows_on.ps (defScope d_follows_on.st) := ⟨rfl, rfl, rfl, by decide +kernel, rfl, by decide +kernel, by decide +kernel⟩
theorem ck_follows_on : chkB T d_follows_on.N d_follows_on.body (defScope d_follows_on.st) (defBody d_follows_on.st) = true := by decide +kernel
theorem sc_sum_along : FnScope d_sum_along.N d_sum_along.ps (defScope d_sum_along.st) := ⟨rfl, rfl, rfl, by decide +kernel, rfl, by decide +kernel, by decide +kernel⟩
theorem ck_sum_along : chkB T d_sum_along.N d_sum_along.body (defScope d_sum_along.st) (defBody d_sum_along.st) = true := by decide +kernel
theorem sc_judge_ring : FnScope d_judge_ring.N d_judge_ring.ps (defScope d_judge_ring.st) := ⟨rfl, rfl, rfl, by decide +kernel, rfl, by decide +kernel, by decide +kernel⟩
theorem ck_judge_ring : chkB T d_judge_ring.N d_judge_ring.body (defScope d_judge_ring.st) (defBody d_judge_ring.st) = true := by decide +kernel
theorem sc_bounded_from : FnScope d_bounded_from.N d_bounded_from.ps (defScope d_bounded_from.st) := ⟨rfl, rfl, rfl, by decide +kernel, rfl, by decide +kernel, by decide +kernel⟩
theorem ck_bounded_from : chkB T d_bounded_from.N d_bounded_from.body (defScope d_bounded_from.st) (defBody d_bounded_from.st) = true := by decide +kernel
theorem sc_most_difference : FnScope d_most_difference.N d_most_difference.ps (defScope d_most_difference.st) := ⟨rfl, rfl, rfl, by decide +kernel, rfl, by decide +kernel, by decide +kernel⟩
theorem ck_most_difference : chkB T d_most_difference.N d_most_difference.body (defScope d_most_difference.st) (defBody d_most_difference.st) = true := by decide +kernel
theorem sc_why_at_most : FnScope d_why_at_most.N d_why_at_most.ps (defScope d_why_at_most.st) := ⟨rfl, rfl, rfl, by decide +kernel, rfl, by decide +kernel, by decide +kernel⟩
theorem ck_why_at_most : chkB T d_why_at_most.N d_why_at_most.body (defScope d_why_at_most.st) (defBody d_why_at_most.st) = true := by decide +kernel
theorem sc_is_needless : FnScope d_is_needless.N d_is_needless.ps (defScope d_is_needless.st) := ⟨rfl, rfl, rfl, by decide +kernel, rfl, by decide +kernel, by decide +kernel⟩
theorem ck_is_needless : chkB T d_is_needless.N d_is_needless.body (defScope d_is_needless.st) (defBody d_is_needless.st) = true := by decide +kernel
theorem sc_needless_rows : FnScope d_needless_rows.N d_needless_rows.ps (defScope d_needless_rows.st) := ⟨rfl, rfl, rfl, by decide +kernel, rfl, by decide +kernel, by decide +kernel⟩
theorem ck_needless_rows : chkB T d_needless_rows.N d_needless_rows.body (defScope d_needless_rows.st) (defBody d_needless_rows.st) = true := by decide +kernel
theorem sc__law_draws : FnScope d__law_draws.N d__law_draws.ps (defScope d__law_draws.st) := ⟨rfl, rfl, rfl, by decide +kernel, rfl, by decide +kernel, by decide +kernel⟩
theorem ck__law_draws : chkB T d__law_draws.N d__law_draws.body (defScope d__law_draws.st) (defBody d__law_draws.st) = true := by decide +kernel
theorem sc__law_take : FnScope d__law_take.N d__law_take.ps (defScope d__law_take.st) := ⟨rfl, rfl, rfl, by decide +kernel, rfl, by decide +kernel, by decide +kernel⟩
theorem ck__law_take : chkB T d__law_take.N d__law_take.body (defScope d__law_take.st) (defBody d__law_take.st) = true := by decide +kernel
theorem sc__law_cell : FnScope d__law_cell.N d__law_cell.ps (defScope d__law_cell.st) := ⟨rfl, rfl, rfl, by decide +kernel, rfl, by decide +kernel, by decide +kernel⟩
theorem ck__law_cell : chkB T d__law_cell.N d__law_cell.body (defScope d__law_cell.st) (defBody d__law_cell.st) = true := by decide +kernel
theorem sc__law_same : FnScope d__law_same.N d__law_same.ps (defScope d__law_same.st) := ⟨rfl, rfl, rfl, by decide +kernel, rfl, by decide +kernel, by decide +kernel⟩
theorem ck__law_same : chkB T d__law_same.N d__law_same.body (defScope d__law_same.st) (defBody d__law_same.st) = true := by decide +kernel
theorem sc__law_rows : FnScope d__law_rows.N d__law_rows.ps (defScope d__law_rows.st) := ⟨rfl, rfl, rfl, by decide +kernel, rfl, by decide +kernel, by decide +kernel⟩
theorem ck__law_rows : chkB T d__law_rows.N d__law_rows.body (defScope d__law_rows.st) (defBody d__law_rows.st) = true := by decide +kernel
theorem sc__law_bounds : FnScope d__law_bounds.N d__law_bounds.ps (defScope d__law_bounds.st) := ⟨rfl, rfl, rfl, by decide +kernel, rfl, by decide +kernel, by decide +kernel⟩
theorem ck__law_bounds : chkB T d__law_bounds.N d__law_bounds.body (defScope d__law_bounds.st) (defBody d__law_bounds.st) = true := by decide +kernel
theorem sc__law_can : FnScope d__law_can.N d__law_can.ps (defScope d__law_can.st) := ⟨rfl, rfl, rfl, by decide +kernel, rfl, by decide +kernel, by decide +kernel⟩
theorem ck__law_can : chkB T d__law_can.N d__law_can.body (defScope d__law_can.st) (defBody d__law_can.st) = true := by decide +kernel
theorem sc__law_keeps : FnScope d__law_keeps.N d__law_keeps.ps (defScope d__law_keeps.st) := ⟨rfl, rfl, rfl, by decide +kernel, rfl, by decide +kernel, by decide +kernel⟩
theorem ck__law_keeps : chkB T d__law_keeps.N d__law_keeps.body (defScope d__law_keeps.st) (defBody d__law_keeps.st) = true := by decide +kernel
theorem sc__law_is_way : FnScope d__law_is_way.N d__law_is_way.ps (defScope d__law_is_way.st) := ⟨rfl, rfl, rfl, by decide +kernel, rfl, by decide +kernel, by decide +kernel⟩
theorem ck__law_is_way : chkB T d__law_is_way.N d__law_is_way.body (defScope d__law_is_way.st) (defBody d__law_is_way.st) = true := by decide +kernel
theorem sc__law_is_ring : FnScope d__law_is_ring.N d__law_is_ring.ps (defScope d__law_is_ring.st) := ⟨rfl, rfl, rfl, by decide +kernel, rfl, by decide +kernel, by decide +kernel⟩
theorem ck__law_is_ring : chkB T d__law_is_ring.N d__law_is_ring.body (defScope d__law_is_ring.st) (defBody d__law_is_ring.st) = true := by decide +kernel
theorem sc__law_are_judged : FnScope d__law_are_judged.N d__law_are_judged.ps (defScope d__law_are_judged.st) := ⟨rfl, rfl, rfl, by decide +kernel, rfl, by decide +kernel, by decide +kernel⟩
theorem ck__law_are_judged : chkB T d__law_are_judged.N d__law_are_judged.body (defScope d__law_are_judged.st) (defBody d__law_are_judged.st) = true := by decide +kernel
theorem sc__law_are_told : FnScope d__law_are_told.N d__law_are_told.ps (defScope d__law_are_told.st) := ⟨rfl, rfl, rfl, by decide +kernel, rfl, by decide +kernel, by decide +kernel⟩
theorem ck__law_are_told : chkB T d__law_are_told.N d__law_are_told.body (defScope d__law_are_told.st) (defBody d__law_are_told.st) = true := by decide +kernel
theorem sc_law : FnScope d_law.N d_law.ps (defScope d_law.st) := ⟨rfl, rfl, rfl, by decide +kernel, rfl, by decide +kernel, by decide +kernel⟩
theorem ck_law : chkB T d_law.N d_law.body (defScope d_law.st) (defBody d_law.st) = true := by decide +kernel
theorem txts : Txts T F := by
  refine ⟨rfl, fun c h => ?_, fun c h => ?_⟩
  · simp only [F, List.mem_cons, List.not_mem_nil, or_false] at h
    rcases h with rfl | rfl | rfl | rfl | rfl | rfl | rfl | rfl | rfl | rfl | rfl | rfl | rfl | rfl | rfl | rfl | rfl | rfl | rfl | rfl | rfl | rfl | rfl | rfl | rfl | rfl | rfl | rfl
    · exact sc_lowered
    · exact sc_settled_heights
    · exact sc_heights_for
    · exact sc_keeps_row
    · exact sc_judge_heights
    · exact sc_ring_from
    · exact sc_ring_of
    · exact sc_follows_on
    · exact sc_sum_along
    · exact sc_judge_ring
    · exact sc_bounded_from
    · exact sc_most_difference
    · exact sc_why_at_most
    · exact sc_is_needless
    · exact sc_needless_rows
    · exact sc__law_draws
    · exact sc__law_take
    · exact sc__law_cell
    · exact sc__law_same
    · exact sc__law_rows
    · exact sc__law_bounds
    · exact sc__law_can
    · exact sc__law_keeps
    · exact sc__law_is_way
    · exact sc__law_is_ring
    · exact sc__law_are_judged
    · exact sc__law_are_told
    · exact sc_law
  · simp only [F, List.mem_cons, List.not_mem_nil, or_false] at h
    rcases h with rfl | rfl | rfl | rfl | rfl | rfl | rfl | rfl | rfl | rfl | rfl | rfl | rfl | rfl | rfl | rfl | rfl | rfl | rfl | rfl | rfl | rfl | rfl | rfl | rfl | rfl | rfl | rfl
    · exact ck_lowered
    · exact ck_settled_heights
    · exact ck_heights_for
    · exact ck_keeps_row
    · exact ck_judge_heights
    · exact ck_ring_from
    · exact ck_ring_of
    · exact ck_follows_on
    · exact ck_sum_along
    · exact ck_judge_ring
    · exact ck_bounded_from
    · exact ck_most_difference
    · exact ck_why_at_most
    · exact ck_is_needless
    · exact ck_needless_rows
    · exact ck__law_draws
    · exact ck__law_take
    · exact ck__law_cell
    · exact ck__law_same
    · exact ck__law_rows
    · exact ck__law_bounds
    · exact ck__law_can
    · exact ck__law_keeps
    · exact ck__law_is_way
    · exact ck__law_is_ring
    · exact ck__law_are_judged
    · exact ck__law_are_told
    · exact ck_law
/-! ### the top -/
theorem all_mk {l : PySem.W.OpenLaw} {w : World} {K : PySem.W.Frag} {h : Heap} {mg : Str → Option Value} {fa : Addr} (X : K.In h) (G : h.Ns mainGlobals mg) (hfa : mg "law" = some (.ref fa))
    {f0 : Addr} {od0 an0 : Option Addr} {sl0 : Array (Option Value)} {oc0 kV0 dc0 pm0 cd0 ct0 : Value}
    (a0 : PySem.W.nsIn K mainGlobals "lowered" = some (some (.ref f0))) (l0 : K.lookup f0 = some ⟨oc0, od0, .func (PySem.W.fnOf "lowered" "lowered" (defArgs d_lowered.st) (defBody d_lowered.st) (defScope d_lowered.st) .none kV0 dc0 pm0 an0 cd0 ct0), sl0⟩) (c0 : PySem.W.codeIn K cd0 "lowered" = true) (k0 : PySem.W.keepIn K (.ref f0) = true)
    {f1 : Addr} {od1 an1 : Option Addr} {sl1 : Array (Option Value)} {oc1 kV1 dc1 pm1 cd1 ct1 : Value}
    (a1 : PySem.W.nsIn K mainGlobals "settled_heights" = some (some (.ref f1))) (l1 : K.lookup f1 = some ⟨oc1, od1, .func (PySem.W.fnOf "settled_heights" "settled_heights" (defArgs d_settled_heights.st) (defBody d_settled_heights.st) (defScope d_settled_heights.st) .none kV1 dc1 pm1 an1 cd1 ct1), sl1⟩) (c1 : PySem.W.codeIn K cd1 "settled_heights" = true) (k1 : PySem.W.keepIn K (.ref f1) = true)
    {f2 : Addr} {od2 an2 : Option Addr} {sl2 : Array (Option Value)} {oc2 kV2 dc2 pm2 cd2 ct2 : Value}
    (a2 : PySem.W.nsIn K mainGlobals "heights_for" = some (some (.ref f2))) (l2 : K.lookup f2 = some ⟨oc2, od2, .func (PySem.W.fnOf "heights_for" "heights_for" (defArgs d_heights_for.st) (defBody d_heights_for.st) (defScope d_heights_for.st) .none kV2 dc2 pm2 an2 cd2 ct2), sl2⟩) (c2 : PySem.W.codeIn K cd2 "heights_for" = true) (k2 : PySem.W.keepIn K (.ref f2) = true)
    {f3 : Addr} {od3 an3 : Option Addr} {sl3 : Array (Option Value)} {oc3 kV3 dc3 pm3 cd3 ct3 : Value}
    (a3 : PySem.W.nsIn K mainGlobals "keeps_row" = some (some (.ref f3))) (l3 : K.lookup f3 = some ⟨oc3, od3, .func (PySem.W.fnOf "keeps_row" "keeps_row" (defArgs d_keeps_row.st) (defBody d_keeps_row.st) (defScope d_keeps_row.st) .none kV3 dc3 pm3 an3 cd3 ct3), sl3⟩) (c3 : PySem.W.codeIn K cd3 "keeps_row" = true) (k3 : PySem.W.keepIn K (.ref f3) = true)
    {f4 : Addr} {od4 an4 : Option Addr} {sl4 : Array (Option Value)} {oc4 kV4 dc4 pm4 cd4 ct4 : Value}
    (a4 : PySem.W.nsIn K mainGlobals "judge_heights" = some (some (.ref f4))) (l4 : K.lookup f4 = some ⟨oc4, od4, .func (PySem.W.fnOf "judge_heights" "judge_heights" (defArgs d_judge_heights.st) (defBody d_judge_heights.st) (defScope d_judge_heights.st) .none kV4 dc4 pm4 an4 cd4 ct4), sl4⟩) (c4 : PySem.W.codeIn K cd4 "judge_heights" = true) (k4 : PySem.W.keepIn K (.ref f4) = true)
    {f5 : Addr} {od5 an5 : Option Addr} {sl5 : Array (Option Value)} {oc5 kV5 dc5 pm5 cd5 ct5 : Value}
    (a5 : PySem.W.nsIn K mainGlobals "ring_from" = some (some (.ref f5))) (l5 : K.lookup f5 = some ⟨oc5, od5, .func (PySem.W.fnOf "ring_from" "ring_from" (defArgs d_ring_from.st) (defBody d_ring_from.st) (defScope d_ring_from.st) .none kV5 dc5 pm5 an5 cd5 ct5), sl5⟩) (c5 : PySem.W.codeIn K cd5 "ring_from" = true) (k5 : PySem.W.keepIn K (.ref f5) = true)
    {f6 : Addr} {od6 an6 : Option Addr} {sl6 : Array (Option Value)} {oc6 kV6 dc6 pm6 cd6 ct6 : Value}
    (a6 : PySem.W.nsIn K mainGlobals "ring_of" = some (some (.ref f6))) (l6 : K.lookup f6 = some ⟨oc6, od6, .func (PySem.W.fnOf "ring_of" "ring_of" (defArgs d_ring_of.st) (defBody d_ring_of.st) (defScope d_ring_of.st) .none kV6 dc6 pm6 an6 cd6 ct6), sl6⟩) (c6 : PySem.W.codeIn K cd6 "ring_of" = true) (k6 : PySem.W.keepIn K (.ref f6) = true)
    {f7 : Addr} {od7 an7 : Option Addr} {sl7 : Array (Option Value)} {oc7 kV7 dc7 pm7 cd7 ct7 : Value}
    (a7 : PySem.W.nsIn K mainGlobals "follows_on" = some (some (.ref f7))) (l7 : K.lookup f7 = some ⟨oc7, od7, .func (PySem.W.fnOf "follows_on" "follows_on" (defArgs d_follows_on.st) (defBody d_follows_on.st) (defScope d_follows_on.st) .none kV7 dc7 pm7 an7 cd7 ct7), sl7⟩) (c7 : PySem.W.codeIn K cd7 "follows_on" = true) (k7 : PySem.W.keepIn K (.ref f7) = true)
    {f8 : Addr} {od8 an8 : Option Addr} {sl8 : Array (Option Value)} {oc8 kV8 dc8 pm8 cd8 ct8 : Value}
    (a8 : PySem.W.nsIn K mainGlobals "sum_along" = some (some (.ref f8))) (l8 : K.lookup f8 = some ⟨oc8, od8, .func (PySem.W.fnOf "sum_along" "sum_along" (defArgs d_sum_along.st) (defBody d_sum_along.st) (defScope d_sum_along.st) .none kV8 dc8 pm8 an8 cd8 ct8), sl8⟩) (c8 : PySem.W.codeIn K cd8 "sum_along" = true) (k8 : PySem.W.keepIn K (.ref f8) = true)
    {f9 : Addr} {od9 an9 : Option Addr} {sl9 : Array (Option Value)} {oc9 kV9 dc9 pm9 cd9 ct9 : Value}
    (a9 : PySem.W.nsIn K mainGlobals "judge_ring" = some (some (.ref f9))) (l9 : K.lookup f9 = some ⟨oc9, od9, .func (PySem.W.fnOf "judge_ring" "judge_ring" (defArgs d_judge_ring.st) (defBody d_judge_ring.st) (defScope d_judge_ring.st) .none kV9 dc9 pm9 an9 cd9 ct9), sl9⟩) (c9 : PySem.W.codeIn K cd9 "judge_ring" = true) (k9 : PySem.W.keepIn K (.ref f9) = true)
    {f10 : Addr} {od10 an10 : Option Addr} {sl10 : Array (Option Value)} {oc10 kV10 dc10 pm10 cd10 ct10 : Value}
    (a10 : PySem.W.nsIn K mainGlobals "bounded_from" = some (some (.ref f10))) (l10 : K.lookup f10 = some ⟨oc10, od10, .func (PySem.W.fnOf "bounded_from" "bounded_from" (defArgs d_bounded_from.st) (defBody d_bounded_from.st) (defScope d_bounded_from.st) .none kV10 dc10 pm10 an10 cd10 ct10), sl10⟩) (c10 : PySem.W.codeIn K cd10 "bounded_from" = true) (k10 : PySem.W.keepIn K (.ref f10) = true)
    {f11 : Addr} {od11 an11 : Option Addr} {sl11 : Array (Option Value)} {oc11 kV11 dc11 pm11 cd11 ct11 : Value}
    (a11 : PySem.W.nsIn K mainGlobals "most_difference" = some (some (.ref f11))) (l11 : K.lookup f11 = some ⟨oc11, od11, .func (PySem.W.fnOf "most_difference" "most_difference" (defArgs d_most_difference.st) (defBody d_most_difference.st) (defScope d_most_difference.st) .none kV11 dc11 pm11 an11 cd11 ct11), sl11⟩) (c11 : PySem.W.codeIn K cd11 "most_difference" = true) (k11 : PySem.W.keepIn K (.ref f11) = true)
    {f12 : Addr} {od12 an12 : Option Addr} {sl12 : Array (Option Value)} {oc12 kV12 dc12 pm12 cd12 ct12 : Value}
    (a12 : PySem.W.nsIn K mainGlobals "why_at_most" = some (some (.ref f12))) (l12 : K.lookup f12 = some ⟨oc12, od12, .func (PySem.W.fnOf "why_at_most" "why_at_most" (defArgs d_why_at_most.st) (defBody d_why_at_most.st) (defScope d_why_at_most.st) .none kV12 dc12 pm12 an12 cd12 ct12), sl12⟩) (c12 : PySem.W.codeIn K cd12 "why_at_most" = true) (k12 : PySem.W.keepIn K (.ref f12) = true)
    {f13 : Addr} {od13 an13 : Option Addr} {sl13 : Array (Option Value)} {oc13 kV13 dc13 pm13 cd13 ct13 : Value}
    (a13 : PySem.W.nsIn K mainGlobals "is_needless" = some (some (.ref f13))) (l13 : K.lookup f13 = some ⟨oc13, od13, .func (PySem.W.fnOf "is_needless" "is_needless" (defArgs d_is_needless.st) (defBody d_is_needless.st) (defScope d_is_needless.st) .none kV13 dc13 pm13 an13 cd13 ct13), sl13⟩) (c13 : PySem.W.codeIn K cd13 "is_needless" = true) (k13 : PySem.W.keepIn K (.ref f13) = true)
    {f14 : Addr} {od14 an14 : Option Addr} {sl14 : Array (Option Value)} {oc14 kV14 dc14 pm14 cd14 ct14 : Value}
    (a14 : PySem.W.nsIn K mainGlobals "needless_rows" = some (some (.ref f14))) (l14 : K.lookup f14 = some ⟨oc14, od14, .func (PySem.W.fnOf "needless_rows" "needless_rows" (defArgs d_needless_rows.st) (defBody d_needless_rows.st) (defScope d_needless_rows.st) .none kV14 dc14 pm14 an14 cd14 ct14), sl14⟩) (c14 : PySem.W.codeIn K cd14 "needless_rows" = true) (k14 : PySem.W.keepIn K (.ref f14) = true)
    {f15 : Addr} {od15 an15 : Option Addr} {sl15 : Array (Option Value)} {oc15 kV15 dc15 pm15 cd15 ct15 : Value}
    (a15 : PySem.W.nsIn K mainGlobals "_law_draws" = some (some (.ref f15))) (l15 : K.lookup f15 = some ⟨oc15, od15, .func (PySem.W.fnOf "_law_draws" "_law_draws" (defArgs d__law_draws.st) (defBody d__law_draws.st) (defScope d__law_draws.st) .none kV15 dc15 pm15 an15 cd15 ct15), sl15⟩) (c15 : PySem.W.codeIn K cd15 "_law_draws" = true) (k15 : PySem.W.keepIn K (.ref f15) = true)
    {f16 : Addr} {od16 an16 : Option Addr} {sl16 : Array (Option Value)} {oc16 kV16 dc16 pm16 cd16 ct16 : Value}
    (a16 : PySem.W.nsIn K mainGlobals "_law_take" = some (some (.ref f16))) (l16 : K.lookup f16 = some ⟨oc16, od16, .func (PySem.W.fnOf "_law_take" "_law_take" (defArgs d__law_take.st) (defBody d__law_take.st) (defScope d__law_take.st) .none kV16 dc16 pm16 an16 cd16 ct16), sl16⟩) (c16 : PySem.W.codeIn K cd16 "_law_take" = true) (k16 : PySem.W.keepIn K (.ref f16) = true)
    {f17 : Addr} {od17 an17 : Option Addr} {sl17 : Array (Option Value)} {oc17 kV17 dc17 pm17 cd17 ct17 : Value}
    (a17 : PySem.W.nsIn K mainGlobals "_law_cell" = some (some (.ref f17))) (l17 : K.lookup f17 = some ⟨oc17, od17, .func (PySem.W.fnOf "_law_cell" "_law_cell" (defArgs d__law_cell.st) (defBody d__law_cell.st) (defScope d__law_cell.st) .none kV17 dc17 pm17 an17 cd17 ct17), sl17⟩) (c17 : PySem.W.codeIn K cd17 "_law_cell" = true) (k17 : PySem.W.keepIn K (.ref f17) = true)
    {f18 : Addr} {od18 an18 : Option Addr} {sl18 : Array (Option Value)} {oc18 kV18 dc18 pm18 cd18 ct18 : Value}
    (a18 : PySem.W.nsIn K mainGlobals "_law_same" = some (some (.ref f18))) (l18 : K.lookup f18 = some ⟨oc18, od18, .func (PySem.W.fnOf "_law_same" "_law_same" (defArgs d__law_same.st) (defBody d__law_same.st) (defScope d__law_same.st) .none kV18 dc18 pm18 an18 cd18 ct18), sl18⟩) (c18 : PySem.W.codeIn K cd18 "_law_same" = true) (k18 : PySem.W.keepIn K (.ref f18) = true)
    {f19 : Addr} {od19 an19 : Option Addr} {sl19 : Array (Option Value)} {oc19 kV19 dc19 pm19 cd19 ct19 : Value}
    (a19 : PySem.W.nsIn K mainGlobals "_law_rows" = some (some (.ref f19))) (l19 : K.lookup f19 = some ⟨oc19, od19, .func (PySem.W.fnOf "_law_rows" "_law_rows" (defArgs d__law_rows.st) (defBody d__law_rows.st) (defScope d__law_rows.st) .none kV19 dc19 pm19 an19 cd19 ct19), sl19⟩) (c19 : PySem.W.codeIn K cd19 "_law_rows" = true) (k19 : PySem.W.keepIn K (.ref f19) = true)
    {f20 : Addr} {od20 an20 : Option Addr} {sl20 : Array (Option Value)} {oc20 kV20 dc20 pm20 cd20 ct20 : Value}
    (a20 : PySem.W.nsIn K mainGlobals "_law_bounds" = some (some (.ref f20))) (l20 : K.lookup f20 = some ⟨oc20, od20, .func (PySem.W.fnOf "_law_bounds" "_law_bounds" (defArgs d__law_bounds.st) (defBody d__law_bounds.st) (defScope d__law_bounds.st) .none kV20 dc20 pm20 an20 cd20 ct20), sl20⟩) (c20 : PySem.W.codeIn K cd20 "_law_bounds" = true) (k20 : PySem.W.keepIn K (.ref f20) = true)
    {f21 : Addr} {od21 an21 : Option Addr} {sl21 : Array (Option Value)} {oc21 kV21 dc21 pm21 cd21 ct21 : Value}
    (a21 : PySem.W.nsIn K mainGlobals "_law_can" = some (some (.ref f21))) (l21 : K.lookup f21 = some ⟨oc21, od21, .func (PySem.W.fnOf "_law_can" "_law_can" (defArgs d__law_can.st) (defBody d__law_can.st) (defScope d__law_can.st) .none kV21 dc21 pm21 an21 cd21 ct21), sl21⟩) (c21 : PySem.W.codeIn K cd21 "_law_can" = true) (k21 : PySem.W.keepIn K (.ref f21) = true)
    {f22 : Addr} {od22 an22 : Option Addr} {sl22 : Array (Option Value)} {oc22 kV22 dc22 pm22 cd22 ct22 : Value}
    (a22 : PySem.W.nsIn K mainGlobals "_law_keeps" = some (some (.ref f22))) (l22 : K.lookup f22 = some ⟨oc22, od22, .func (PySem.W.fnOf "_law_keeps" "_law_keeps" (defArgs d__law_keeps.st) (defBody d__law_keeps.st) (defScope d__law_keeps.st) .none kV22 dc22 pm22 an22 cd22 ct22), sl22⟩) (c22 : PySem.W.codeIn K cd22 "_law_keeps" = true) (k22 : PySem.W.keepIn K (.ref f22) = true)
    {f23 : Addr} {od23 an23 : Option Addr} {sl23 : Array (Option Value)} {oc23 kV23 dc23 pm23 cd23 ct23 : Value}
    (a23 : PySem.W.nsIn K mainGlobals "_law_is_way" = some (some (.ref f23))) (l23 : K.lookup f23 = some ⟨oc23, od23, .func (PySem.W.fnOf "_law_is_way" "_law_is_way" (defArgs d__law_is_way.st) (defBody d__law_is_way.st) (defScope d__law_is_way.st) .none kV23 dc23 pm23 an23 cd23 ct23), sl23⟩) (c23 : PySem.W.codeIn K cd23 "_law_is_way" = true) (k23 : PySem.W.keepIn K (.ref f23) = true)
    {f24 : Addr} {od24 an24 : Option Addr} {sl24 : Array (Option Value)} {oc24 kV24 dc24 pm24 cd24 ct24 : Value}
    (a24 : PySem.W.nsIn K mainGlobals "_law_is_ring" = some (some (.ref f24))) (l24 : K.lookup f24 = some ⟨oc24, od24, .func (PySem.W.fnOf "_law_is_ring" "_law_is_ring" (defArgs d__law_is_ring.st) (defBody d__law_is_ring.st) (defScope d__law_is_ring.st) .none kV24 dc24 pm24 an24 cd24 ct24), sl24⟩) (c24 : PySem.W.codeIn K cd24 "_law_is_ring" = true) (k24 : PySem.W.keepIn K (.ref f24) = true)
    {f25 : Addr} {od25 an25 : Option Addr} {sl25 : Array (Option Value)} {oc25 kV25 dc25 pm25 cd25 ct25 : Value}
    (a25 : PySem.W.nsIn K mainGlobals "_law_are_judged" = some (some (.ref f25))) (l25 : K.lookup f25 = some ⟨oc25, od25, .func (PySem.W.fnOf "_law_are_judged" "_law_are_judged" (defArgs d__law_are_judged.st) (defBody d__law_are_judged.st) (defScope d__law_are_judged.st) .none kV25 dc25 pm25 an25 cd25 ct25), sl25⟩) (c25 : PySem.W.codeIn K cd25 "_law_are_judged" = true) (k25 : PySem.W.keepIn K (.ref f25) = true)
    {f26 : Addr} {od26 an26 : Option Addr} {sl26 : Array (Option Value)} {oc26 kV26 dc26 pm26 cd26 ct26 : Value}
    (a26 : PySem.W.nsIn K mainGlobals "_law_are_told" = some (some (.ref f26))) (l26 : K.lookup f26 = some ⟨oc26, od26, .func (PySem.W.fnOf "_law_are_told" "_law_are_told" (defArgs d__law_are_told.st) (defBody d__law_are_told.st) (defScope d__law_are_told.st) .none kV26 dc26 pm26 an26 cd26 ct26), sl26⟩) (c26 : PySem.W.codeIn K cd26 "_law_are_told" = true) (k26 : PySem.W.keepIn K (.ref f26) = true)
    {f27 : Addr} {od27 an27 : Option Addr} {sl27 : Array (Option Value)} {oc27 kV27 dc27 pm27 cd27 ct27 : Value}
    (a27 : PySem.W.nsIn K mainGlobals "law" = some (some (.ref f27))) (l27 : K.lookup f27 = some ⟨oc27, od27, .func (PySem.W.fnOf "law" "law" (defArgs d_law.st) (defBody d_law.st) (defScope d_law.st) .none kV27 dc27 pm27 an27 cd27 ct27), sl27⟩) (c27 : PySem.W.codeIn K cd27 "law" = true) (k27 : PySem.W.keepIn K (.ref f27) = true)
    (z0 : PySem.W.nsIn K mainGlobals "list" = some none)
    (z1 : PySem.W.nsIn K mainGlobals "range" = some none)
    (z2 : PySem.W.nsIn K mainGlobals "len" = some none)
    (z3 : PySem.W.nsIn K mainGlobals "tuple" = some none)
    (z4 : PySem.W.nsIn K mainGlobals "all" = some none)
    (z5 : PySem.W.nsIn K mainGlobals "sum" = some none)
    (z6 : PySem.W.nsIn K mainGlobals "set" = some none)
    (z7 : PySem.W.nsIn K mainGlobals "int" = some none)
    (z8 : PySem.W.nsIn K mainGlobals "abs" = some none)
    (z9 : PySem.W.nsIn K mainGlobals "isinstance" = some none)
    (z10 : PySem.W.nsIn K mainGlobals "bool" = some none)
    (z11 : PySem.W.nsIn K mainGlobals "str" = some none)
    (z12 : PySem.W.nsIn K mainGlobals "min" = some none)
    : ∃ fd : FuncData, (∀ (s : Shared) (v : Value), BindsTo s fd ⟨[v], []⟩ [("script", v)]) ∧ ∀ base : Heap, K.In base → base.Ns mainGlobals mg → FnOk l.prog w K mg base CX0 60 fa fd ["script"] (spD K (wpCall gl F 60) 27) := by
  have e := hfa.symm.trans (PySem.W.mg_of X G a27)
  cases e
  have F0 := fun_mk (st := d_lowered.st) l0 c0 k0
  have b0 := F0.binds (ps := d_lowered.ps) fun _ _ _ _ _ _ us hl => match us, hl with | [_, _, _], _ => rfl
  have F1 := fun_mk (st := d_settled_heights.st) l1 c1 k1
  have b1 := F1.binds (ps := d_settled_heights.ps) fun _ _ _ _ _ _ us hl => match us, hl with | [_, _, _], _ => rfl
  have F2 := fun_mk (st := d_heights_for.st) l2 c2 k2
  have b2 := F2.binds (ps := d_heights_for.ps) fun _ _ _ _ _ _ us hl => match us, hl with | [_, _], _ => rfl
  have F3 := fun_mk (st := d_keeps_row.st) l3 c3 k3
  have b3 := F3.binds (ps := d_keeps_row.ps) fun _ _ _ _ _ _ us hl => match us, hl with | [_, _], _ => rfl
  have F4 := fun_mk (st := d_judge_heights.st) l4 c4 k4
  have b4 := F4.binds (ps := d_judge_heights.ps) fun _ _ _ _ _ _ us hl => match us, hl with | [_, _, _], _ => rfl
  have F5 := fun_mk (st := d_ring_from.st) l5 c5 k5
  have b5 := F5.binds (ps := d_ring_from.ps) fun _ _ _ _ _ _ us hl => match us, hl with | [_, _, _], _ => rfl
  have F6 := fun_mk (st := d_ring_of.st) l6 c6 k6
  have b6 := F6.binds (ps := d_ring_of.ps) fun _ _ _ _ _ _ us hl => match us, hl with | [_, _], _ => rfl
  have F7 := fun_mk (st := d_follows_on.st) l7 c7 k7
  have b7 := F7.binds (ps := d_follows_on.ps) fun _ _ _ _ _ _ us hl => match us, hl with | [_, _], _ => rfl
  have F8 := fun_mk (st := d_sum_along.st) l8 c8 k8
  have b8 := F8.binds (ps := d_sum_along.ps) fun _ _ _ _ _ _ us hl => match us, hl with | [_, _], _ => rfl
  have F9 := fun_mk (st := d_judge_ring.st) l9 c9 k9
  have b9 := F9.binds (ps := d_judge_ring.ps) fun _ _ _ _ _ _ us hl => match us, hl with | [_, _, _], _ => rfl
  have F10 := fun_mk (st := d_bounded_from.st) l10 c10 k10
  have b10 := F10.binds (ps := d_bounded_from.ps) fun _ _ _ _ _ _ us hl => match us, hl with | [_, _, _], _ => rfl
  have F11 := fun_mk (st := d_most_difference.st) l11 c11 k11
  have b11 := F11.binds (ps := d_most_difference.ps) fun _ _ _ _ _ _ us hl => match us, hl with | [_, _, _, _], _ => rfl
  have F12 := fun_mk (st := d_why_at_most.st) l12 c12 k12
  have b12 := F12.binds (ps := d_why_at_most.ps) fun _ _ _ _ _ _ us hl => match us, hl with | [_, _, _, _], _ => rfl
  have F13 := fun_mk (st := d_is_needless.st) l13 c13 k13
  have b13 := F13.binds (ps := d_is_needless.ps) fun _ _ _ _ _ _ us hl => match us, hl with | [_, _, _], _ => rfl
  have F14 := fun_mk (st := d_needless_rows.st) l14 c14 k14
  have b14 := F14.binds (ps := d_needless_rows.ps) fun _ _ _ _ _ _ us hl => match us, hl with | [_, _], _ => rfl
  have F15 := fun_mk (st := d__law_draws.st) l15 c15 k15
  have b15 := F15.binds (ps := d__law_draws.ps) fun _ _ _ _ _ _ us hl => match us, hl with | [_, _], _ => rfl
  have F16 := fun_mk (st := d__law_take.st) l16 c16 k16
  have b16 := F16.binds (ps := d__law_take.ps) fun _ _ _ _ _ _ us hl => match us, hl with | [_, _], _ => rfl
  have F17 := fun_mk (st := d__law_cell.st) l17 c17 k17
  have b17 := F17.binds (ps := d__law_cell.ps) fun _ _ _ _ _ _ us hl => match us, hl with | [_, _], _ => rfl
  have F18 := fun_mk (st := d__law_same.st) l18 c18 k18
  have b18 := F18.binds (ps := d__law_same.ps) fun _ _ _ _ _ _ us hl => match us, hl with | [_, _], _ => rfl
  have F19 := fun_mk (st := d__law_rows.st) l19 c19 k19
  have b19 := F19.binds (ps := d__law_rows.ps) fun _ _ _ _ _ _ us hl => match us, hl with | [_, _, _], _ => rfl
  have F20 := fun_mk (st := d__law_bounds.st) l20 c20 k20
  have b20 := F20.binds (ps := d__law_bounds.ps) fun _ _ _ _ _ _ us hl => match us, hl with | [_, _], _ => rfl
  have F21 := fun_mk (st := d__law_can.st) l21 c21 k21
  have b21 := F21.binds (ps := d__law_can.ps) fun _ _ _ _ _ _ us hl => match us, hl with | [_], _ => rfl
  have F22 := fun_mk (st := d__law_keeps.st) l22 c22 k22
  have b22 := F22.binds (ps := d__law_keeps.ps) fun _ _ _ _ _ _ us hl => match us, hl with | [_, _], _ => rfl
  have F23 := fun_mk (st := d__law_is_way.st) l23 c23 k23
  have b23 := F23.binds (ps := d__law_is_way.ps) fun _ _ _ _ _ _ us hl => match us, hl with | [_, _, _, _], _ => rfl
  have F24 := fun_mk (st := d__law_is_ring.st) l24 c24 k24
  have b24 := F24.binds (ps := d__law_is_ring.ps) fun _ _ _ _ _ _ us hl => match us, hl with | [_, _], _ => rfl
  have F25 := fun_mk (st := d__law_are_judged.st) l25 c25 k25
  have b25 := F25.binds (ps := d__law_are_judged.ps) fun _ _ _ _ _ _ us hl => match us, hl with | [_, _, _, _], _ => rfl
  have F26 := fun_mk (st := d__law_are_told.st) l26 c26 k26
  have b26 := F26.binds (ps := d__law_are_told.ps) fun _ _ _ _ _ _ us hl => match us, hl with | [_, _, _], _ => rfl
  have F27 := fun_mk (st := d_law.st) l27 c27 k27
  have b27 := F27.binds (ps := d_law.ps) fun _ _ _ _ _ _ us hl => match us, hl with | [_], _ => rfl
  have tp : Top T F K mg := by
    refine ⟨fun x hx => ?_, fun x id hx => ?_, fun x d hx => ?_, fun c h => ?_⟩
    · simp only [T, List.mem_cons, List.not_mem_nil, or_false] at hx
      rcases hx with rfl | rfl | rfl | rfl | rfl | rfl | rfl | rfl | rfl | rfl | rfl | rfl | rfl
      · exact PySem.W.mg_none_of X G z0
      · exact PySem.W.mg_none_of X G z1
      · exact PySem.W.mg_none_of X G z2
      · exact PySem.W.mg_none_of X G z3
      · exact PySem.W.mg_none_of X G z4
      · exact PySem.W.mg_none_of X G z5
      · exact PySem.W.mg_none_of X G z6
      · exact PySem.W.mg_none_of X G z7
      · exact PySem.W.mg_none_of X G z8
      · exact PySem.W.mg_none_of X G z9
      · exact PySem.W.mg_none_of X G z10
      · exact PySem.W.mg_none_of X G z11
      · exact PySem.W.mg_none_of X G z12
    · simp only [T] at hx
      cases hx
    · simp only [T, gl, List.not_mem_nil] at hx
    · simp only [F, List.mem_cons, List.not_mem_nil, or_false] at h
      rcases h with rfl | rfl | rfl | rfl | rfl | rfl | rfl | rfl | rfl | rfl | rfl | rfl | rfl | rfl | rfl | rfl | rfl | rfl | rfl | rfl | rfl | rfl | rfl | rfl | rfl | rfl | rfl | rfl
      · exact ⟨_, _, F0, PySem.W.mg_of X G a0, b0⟩
      · exact ⟨_, _, F1, PySem.W.mg_of X G a1, b1⟩
      · exact ⟨_, _, F2, PySem.W.mg_of X G a2, b2⟩
      · exact ⟨_, _, F3, PySem.W.mg_of X G a3, b3⟩
      · exact ⟨_, _, F4, PySem.W.mg_of X G a4, b4⟩
      · exact ⟨_, _, F5, PySem.W.mg_of X G a5, b5⟩
      · exact ⟨_, _, F6, PySem.W.mg_of X G a6, b6⟩
      · exact ⟨_, _, F7, PySem.W.mg_of X G a7, b7⟩
      · exact ⟨_, _, F8, PySem.W.mg_of X G a8, b8⟩
      · exact ⟨_, _, F9, PySem.W.mg_of X G a9, b9⟩
      · exact ⟨_, _, F10, PySem.W.mg_of X G a10, b10⟩
      · exact ⟨_, _, F11, PySem.W.mg_of X G a11, b11⟩
      · exact ⟨_, _, F12, PySem.W.mg_of X G a12, b12⟩
      · exact ⟨_, _, F13, PySem.W.mg_of X G a13, b13⟩
      · exact ⟨_, _, F14, PySem.W.mg_of X G a14, b14⟩
      · exact ⟨_, _, F15, PySem.W.mg_of X G a15, b15⟩
      · exact ⟨_, _, F16, PySem.W.mg_of X G a16, b16⟩
      · exact ⟨_, _, F17, PySem.W.mg_of X G a17, b17⟩
      · exact ⟨_, _, F18, PySem.W.mg_of X G a18, b18⟩
      · exact ⟨_, _, F19, PySem.W.mg_of X G a19, b19⟩
      · exact ⟨_, _, F20, PySem.W.mg_of X G a20, b20⟩
      · exact ⟨_, _, F21, PySem.W.mg_of X G a21, b21⟩
      · exact ⟨_, _, F22, PySem.W.mg_of X G a22, b22⟩
      · exact ⟨_, _, F23, PySem.W.mg_of X G a23, b23⟩
      · exact ⟨_, _, F24, PySem.W.mg_of X G a24, b24⟩
      · exact ⟨_, _, F25, PySem.W.mg_of X G a25, b25⟩
      · exact ⟨_, _, F26, PySem.W.mg_of X G a26, b26⟩
      · exact ⟨_, _, F27, PySem.W.mg_of X G a27, b27⟩
  exact ⟨PySem.W.fnOf "law" "law" (defArgs d_law.st) (defBody d_law.st) (defScope d_law.st) .none kV27 dc27 pm27 an27 cd27 ct27, fun s v => .of_eq rfl, fun base _ _ => fns_ok txts tp 60 27 d_law _ _ rfl F27⟩
end K31
open PySem PySem.W PyProof.Rows
set_option maxHeartbeats 0 in
theorem PySem.Challenge.cw_sayswhy_k31_heights_rings_and_ways_holds : PySem.Challenge.rw_sayswhy_k31_heights_rings_and_ways.Holds := by
  w_on; o_law; k_head; (case hw => w_witness2)
  k_fill
  refine L2.walk_of (l := PySem.Challenge.rw_sayswhy_k31_heights_rings_and_ways) (n := 63) (k := 60) (x := "script") (CX := fun _ => L2.CX0) (sp := fun w => Py.spD _ (Py.wpCall K31.gl K31.F 60) 27) rfl (by decide) rfl ⟨rfl, by decide, by decide⟩ (fun w h Y => PySem.W.kIn_of Y) ?F (fun _ _ a ns hl hO hS => Py.law_sp hO hS (K31.law_ok ns hl)) (fun _ _ _ _ _ h => h)
  case F =>
    intro w mg fa h KX G hmg
    refine' K31.all_mk KX G hmg ?a0 ?l0 ?c0 ?k0 ?a1 ?l1 ?c1 ?k1 ?a2 ?l2 ?c2 ?k2 ?a3 ?l3 ?c3 ?k3 ?a4 ?l4 ?c4 ?k4 ?a5 ?l5 ?c5 ?k5 ?a6 ?l6 ?c6 ?k6 ?a7 ?l7 ?c7 ?k7 ?a8 ?l8 ?c8 ?k8 ?a9 ?l9 ?c9 ?k9 ?a10 ?l10 ?c10 ?k10 ?a11 ?l11 ?c11 ?k11 ?a12 ?l12 ?c12 ?k12 ?a13 ?l13 ?c13 ?k13 ?a14 ?l14 ?c14 ?k14 ?a15 ?l15 ?c15 ?k15 ?a16 ?l16 ?c16 ?k16 ?a17 ?l17 ?c17 ?k17 ?a18 ?l18 ?c18 ?k18 ?a19 ?l19 ?c19 ?k19 ?a20 ?l20 ?c20 ?k20 ?a21 ?l21 ?c21 ?k21 ?a22 ?l22 ?c22 ?k22 ?a23 ?l23 ?c23 ?k23 ?a24 ?l24 ?c24 ?k24 ?a25 ?l25 ?c25 ?k25 ?a26 ?l26 ?c26 ?k26 ?a27 ?l27 ?c27 ?k27 ?z0 ?z1 ?z2 ?z3 ?z4 ?z5 ?z6 ?z7 ?z8 ?z9 ?z10 ?z11 ?z12
    (case a0 => k_is); (case l0 => k_is); (case c0 => k_is); (case k0 => k_is); (case a1 => k_is); (case l1 => k_is); (case c1 => k_is); (case k1 => k_is); (case a2 => k_is); (case l2 => k_is); (case c2 => k_is); (case k2 => k_is); (case a3 => k_is); (case l3 => k_is); (case c3 => k_is); (case k3 => k_is); (case a4 => k_is); (case l4 => k_is); (case c4 => k_is); (case k4 => k_is); (case a5 => k_is); (case l5 => k_is); (case c5 => k_is); (case k5 => k_is); (case a6 => k_is); (case l6 => k_is); (case c6 => k_is); (case k6 => k_is); (case a7 => k_is); (case l7 => k_is); (case c7 => k_is); (case k7 => k_is); (case a8 => k_is); (case l8 => k_is); (case c8 => k_is); (case k8 => k_is); (case a9 => k_is); (case l9 => k_is); (case c9 => k_is); (case k9 => k_is); (case a10 => k_is); (case l10 => k_is); (case c10 => k_is); (case k10 => k_is); (case a11 => k_is); (case l11 => k_is); (case c11 => k_is); (case k11 => k_is); (case a12 => k_is); (case l12 => k_is); (case c12 => k_is); (case k12 => k_is); (case a13 => k_is); (case l13 => k_is); (case c13 => k_is); (case k13 => k_is); (case a14 => k_is); (case l14 => k_is); (case c14 => k_is); (case k14 => k_is); (case a15 => k_is); (case l15 => k_is); (case c15 => k_is); (case k15 => k_is); (case a16 => k_is); (case l16 => k_is); (case c16 => k_is); (case k16 => k_is); (case a17 => k_is); (case l17 => k_is); (case c17 => k_is); (case k17 => k_is); (case a18 => k_is); (case l18 => k_is); (case c18 => k_is); (case k18 => k_is); (case a19 => k_is); (case l19 => k_is); (case c19 => k_is); (case k19 => k_is); (case a20 => k_is); (case l20 => k_is); (case c20 => k_is); (case k20 => k_is); (case a21 => k_is); (case l21 => k_is); (case c21 => k_is); (case k21 => k_is); (case a22 => k_is); (case l22 => k_is); (case c22 => k_is); (case k22 => k_is); (case a23 => k_is); (case l23 => k_is); (case c23 => k_is); (case k23 => k_is); (case a24 => k_is); (case l24 => k_is); (case c24 => k_is); (case k24 => k_is); (case a25 => k_is); (case l25 => k_is); (case c25 => k_is); (case k25 => k_is); (case a26 => k_is); (case l26 => k_is); (case c26 => k_is); (case k26 => k_is); (case a27 => k_is); (case l27 => k_is); (case c27 => k_is); (case k27 => k_is); (case z0 => k_is); (case z1 => k_is); (case z2 => k_is); (case z3 => k_is); (case z4 => k_is); (case z5 => k_is); (case z6 => k_is); (case z7 => k_is); (case z8 => k_is); (case z9 => k_is); (case z10 => k_is); (case z11 => k_is); (case z12 => k_is)
